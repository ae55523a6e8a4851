import Derived.Deep.MidRow
import Derived.Laws.AppendOwn
import Derived.Laws.OwnMore
import Derived.KernelRfl
import Derived.Laws.Sem
import Derived.Laws.BytesString
import Derived.Laws.StructEq
import Derived.Laws.Strings
import Derived.Laws.Small
import Derived.MapKept
import Derived.Laws.MakeOwn
set_option linter.unusedVariables false
set_option linter.unusedSimpArgs false
section
set_option linter.defProp false
abbrev B8:=List UInt8
theorem v! {p:Prop}(h:p:=by with_reducible assumption):p:=h
theorem w! {p:Prop}(h:p:=by omega):p:=h
theorem x! {p:Prop}(h:p:=by grind):p:=h
theorem y! {p:Prop}(h:p:=by kernel_rfl):p:=h
theorem z! {p:Prop}(h:p:=by simp):p:=h
def A!:=@Option.some.injEq
def B!:=@Bool.and_eq_true
def C!:=@List.length_append
def D!:=@Nat.eq_of_beq_eq_true
def E!:=@List.getElem?_eq_getElem
def F!:=@List.mem_append
def G!:=@List.mem_cons_of_mem
def H!:=@decide_eq_true_eq
def I!:=@List.getD_eq_getElem?_getD
def J!:=@List.length_singleton
def K!:=@Nat.zero_le
def L!:=@cond_true
def M!:=@Nat.le_of_ble_eq_true
def N!:=@if_neg
def O!:=@Nat.le_refl
def P!:=@List.mem_cons
def Q!:=@cond_false
def R!:=@if_pos
def S!:=@List.mem_cons_self
def T!:=@Option.isSome_iff_exists
def U!:=@List.append_assoc
def V!:=@Int.toNat_natCast
def W!:=@List.all_eq_true
def X!:=@List.length_take
def Y!:=@List.mem_append_right
def Z!:=@List.mem_append_left
def A?:=@List.append_nil
def B?:=@List.length_drop
def C?:=@List.eq_nil_of_length_eq_zero
def D?:=@Nat.mul_le_mul_right
def E?:=@Array.getElem?_eq_some_iff
def F?:=@List.length_cons
def G?:=@Array.getD_eq_getD_getElem?
def H?:=@Bool.false_eq_true
def I?:=@Bool.not_eq_true'
def J?:=@List.take_of_length_le
def K?:=@if_true
def L?:=@Classical.byContradiction
def M?:=@Option.some.inj
def N?:=@List.drop_eq_nil_of_le
def O?:=@List.drop_drop
def P?:=@List.getElem?_map
def Q?:=@List.take_append_drop
def R?:=@List.length_eq_zero_iff
def S?:=@decide_eq_true
def T?:=@List.getElem?_eq_some_iff
def U?:=@Bool.or_eq_false_iff
def V?:=@List.map_cons
def W?:=@List.pairwise_cons
def X?:=@Bool.or_eq_true
def Y?:=@Nat.lt_of_lt_of_le
def Z?:=@List.mem_map_of_mem
def a?:=@decide_eq_false
def b?:=@List.drop_take
def c?:=@Array.getElem?_toList
def d?:=@decide_eq_false_iff_not
def e?:=@List.mem_map
def f?:=@Nat.le_trans
def g?:=@List.cons_append
def h?:=@if_false
def i?:=@of_decide_eq_true
def j?:=@Nat.add_mul
def k?:=@List.map_congr_left
def l?:=@List.drop_eq_getElem_cons
def m?:=@List.getElem?_take
def n?:=@Int.eq_ofNat_of_zero_le
def o?:=@Nat.add_sub_cancel_left
def p?:=@List.drop_left
def q?:=@Nat.zero_add
def r?:=@List.flatMap_append
def s?:=@List.map_append
def t?:=@List.set_eq_take_append_cons_drop
def u?:=@Bool.or_true
def v?:=@Nat.pow_succ
def w?:=@Array.mem_of_getElem?
def x?:=@List.mem_range
def y?:=@List.mem_of_getElem?
def z?:=@List.nil_append
namespace Go.Vg
open Go
inductive Ty where
 |int (k:IntKind)
 |bool
 |str
 |slice (row:List Ty)
mutual
def Ty.beq:Ty->Ty->Bool
 | .int k, .int k'=>decide (k=k')
 | .bool, .bool=>true
 | .str, .str=>true
 | .slice r, .slice r'=>Ty.yd r r'
 |_,_=>false
def Ty.yd:List Ty->List Ty->Bool
 | [],[]=>true
 |t::ts,u::us=>Ty.beq t u&&Ty.yd ts us
 |_,_=>false
end
@[reducible] def DI:IntKind->Type
  | .u8=>UInt8
  | .i8=>Int| .i16=>Int| .i32=>Int| .i64=>Int| .u16=>Int| .u32=>Int| .u64=>Int
@[reducible] def aHo (ts:List Ty) (a b:Type):Type :=match ts with
  | []=>a
  |_::_=>a×b
mutual
@[reducible] def D:Ty->Type
  | .int k=>DI k
  | .bool=>Bool
  | .str=>B8
  | .slice row=>List (Row row)
@[reducible] def Row:List Ty->Type
  | []=>Unit
  |t::ts=>aHo ts (D t) (Row ts)
end
def DI.toInt:(k:IntKind)->DI k->Int
 | .u8,x=>(UInt8.toNat x:Int)
 | .i8,n=>n| .i16,n=>n| .i32,n=>n| .i64,n=>n| .u16,n=>n| .u32,n=>n| .u64,n=>n
def DI.ofInt:(k:IntKind)->Int->DI k
 | .u8,n=>UInt8.ofNat n.toNat
 | .i8,n=>n| .i16,n=>n| .i32,n=>n| .i64,n=>n| .u16,n=>n| .u32,n=>n| .u64,n=>n
def Row.hd {t:Ty}: {ts:List Ty}->Row (t::ts)->D t
 | [],x=>x
 |_::_,x=>x.1
def Row.tl {t:Ty}: {ts:List Ty}->Row (t::ts)->Row ts
 | [],_=>()
 |_::_,x=>x.2
def Row.mk {t:Ty}: {ts:List Ty}->D t->Row ts->Row (t::ts)
 | [],x,_=>x
 |_::_,x,y=>(x,y)
def DI.zero:(k:IntKind)->DI k
 | .u8=>(0:UInt8)
 | .i8=>(0:Int)| .i16=>(0:Int)| .i32=>(0:Int)| .i64=>(0:Int)| .u16=>(0:Int)| .u32=>(0:Int)| .u64=>(0:Int)
def D.zero:(t:Ty)->D t
 | .int k=>DI.zero k
 | .bool=>false
 | .str=> []
 | .slice _=> []
def Row.zero:(ts:List Ty)->Row ts
 | []=>()
 |t::ts=>Row.mk (D.zero t) (Row.zero ts)
def lo:IntKind->Int
 | .i8=> -128| .i16=> -32768| .i32=> -2147483648| .i64=> -9223372036854775808
 | .u8=>0| .u16=>0| .u32=>0| .u64=>0
def hi:IntKind->Int
 | .i8=>127| .i16=>32767| .i32=>2147483647| .i64=>9223372036854775807
 | .u8=>255| .u16=>65535| .u32=>4294967295| .u64=>18446744073709551615
def pz:IntKind->Option Int
 | .u8=>some 256| .u16=>some 65536| .u32=>some 4294967296| .u64=>some 18446744073709551616
 | .i8=>none| .i16=>none| .i32=>none| .i64=>none
inductive AV where
 |dU
 |undef
 |int (k:IntKind) (n:Int)
 |bool (b:Bool)
 |tt
 |ff
 |str (s:B8)
 |nil
 |lp
 |lW
 |sl (row:List Ty) (l:List (Row row))
 |full (row:List Ty) (l:List (Row row))
 |iM (row:List Ty) (x:Row row) (j:Nat)
 |sq (row:List Ty) (l:List (Row row))
 |own (k:Nat)
 |pre (k:Nat) (n:Nat)
 |view (k sz off len:Nat)
 |ref (k off:Nat)
 |elem (k sz i j:Nat)
 |agg (cs:List AV)
 |bA (vs:List AV)
 |fn (f:Fn) (first bH:List AV)
 |rD (row:List Ty) (l:List (Row row))
 |je (ks:List Int) (cs:List AV)
inductive AB where
 |cells (cs:List AV)
 |row (e:Nat) (row:List Ty) (l:List (Row row)) (fr:Bool)
 |views (e:Nat) (j:Option Nat) (n m sz:Nat)
 |arr (row:List Ty) (l:List (Row row))
 |jc (e:Nat) (j:Option Nat) (row:List Ty) (l:List (Row row)) (i:Nat)
def Dw:(t:Ty)->D t->AV
 | .int k,x=> .int k (DI.toInt k x)
 | .bool,b=> .bool b
 | .str,s=> .str s
 | .slice row,l=> .sl row l
def aF:(ts:List Ty)->Row ts->List AV
 | [],_=> []
 |t::ts,x=>Dw t (Row.hd x)::aF ts (Row.tl x)
mutual
theorem Ty.eq_of_beq:∀(a b:Ty),Ty.beq a b=true->a=b
 | .int k, .int k',h=>by simp [Ty.beq] at h;rw [h]
 | .bool, .bool,_=>rfl
 | .str, .str,_=>rfl
 | .slice r, .slice r',h=>by simp only [Ty.beq] at h;rw [Ty.lX r r' h]
 | .int _, .bool,h=>by simp [Ty.beq] at h
 | .int _, .str,h=>by simp [Ty.beq] at h
 | .int _, .slice _,h=>by simp [Ty.beq] at h
 | .bool, .int _,h=>by simp [Ty.beq] at h
 | .bool, .str,h=>by simp [Ty.beq] at h
 | .bool, .slice _,h=>by simp [Ty.beq] at h
 | .str, .int _,h=>by simp [Ty.beq] at h
 | .str, .bool,h=>by simp [Ty.beq] at h
 | .str, .slice _,h=>by simp [Ty.beq] at h
 | .slice _, .int _,h=>by simp [Ty.beq] at h
 | .slice _, .bool,h=>by simp [Ty.beq] at h
 | .slice _, .str,h=>by simp [Ty.beq] at h
theorem Ty.lX:∀(a b:List Ty),Ty.yd a b=true->a=b
 | [],[],_=>rfl
 |t::ts,u::us,h=>by
  simp only [Ty.yd,B!] at h;rw [Ty.eq_of_beq t u h.1,Ty.lX ts us h.2]
 | [],_::_,h=>by simp [Ty.yd] at h
 |_::_,[],h=>by simp [Ty.yd] at h
end
def gu(r r':List Ty)(l:List (Row r)):Option (List (Row r')):=
 if h:Ty.yd r r'=true then some ((Ty.lX r r' h)▸l) else none
def RM:(t:Ty)->AV->Option (D t)
 | .int k, .int k' n=>if k=k' then some (DI.ofInt k n) else none
 | .bool, .bool b=>some b
 | .bool, .tt=>some true
 | .bool, .ff=>some false
 | .str, .str s=>some s
 | .slice r, .sl r' l=>gu r' r l
 | .slice r, .full r' l=>gu r' r l
 | .slice _, .nil=>some ([]:List _)
 |_,_=>none
def nd:(ts:List Ty)->List AV->Option (Row ts)
 | [],[]=>some ()
 |t::ts,a::aK=>match RM t a,nd ts aK with
  |some x,some y=>some (Row.mk x y)
  |_,_=>none
 |_,_=>none
def setRow:(ts:List Ty)->Row ts->Nat->AV->Option (Row ts)
 | [],_,_,_=>none
 |t::ts,x,0,a=>match RM t a with
  |some d=>some (Row.mk d (Row.tl x))
  |none=>none
 |t::ts,x,j+1,a=>match setRow ts (Row.tl x) j a with
  |some y=>some (Row.mk (Row.hd x:D t) y)
  |none=>none
def qG:(ts:List Ty)->Row ts->Nat->List AV->Option (Row ts)
 |_,x,_,[]=>some x
 |ts,x,j,a::aK=>match setRow ts x j a with
  |some y=>qG ts y (j+1) aK
  |none=>none
def wF(ts:List Ty):Nat->List AV->Option (List (Row ts))
 |0,aK=>match aK with| []=>some []|_::_=>none
 |n+1,aK=>match nd ts (aK.take ts.length),wF ts n (aK.drop ts.length) with
  |some x,some l=>some (x::l)
  |_,_=>none
structure TE where
 desc:TypeDesc
 size:Nat
 bytes:Nat
 zero:Value
inductive cJ where
 |leaf
 |node (l:cJ) (k:Nat) (v:TE) (r:cJ)
def cJ.find:cJ->Nat->Option TE
 | .leaf,_=>none
 | .node l k v r,n=>bif Nat.beq n k then some v else bif Nat.blt n k then l.find n else r.find n
def _root_.Go.TypeDesc.mB:TypeDesc->Bool
 | .struct _| .array _ _=>true
 |_=>false
def BB {α:Type}:Option (List α)->Option (List α)->Option (List α)
 |some a,some b=>some (a++b)
 |_,_=>none
def rowOf(T:cJ):Nat->TypeId->Option (List Ty)
 |0,_=>none
 |n+1,t=>match T.find t with
  |none=>none
  |some te=>match te.desc with
   | .int k=>some [.int k]
   | .bool=>some [.bool]
   | .string=>some [.str]
   | .slice e=>match rowOf T n e with|some r=>some [.slice r]|none=>none
   | .struct fs=>fs.toList.foldr (fun f acc=>BB (rowOf T n f.type) acc) (some [])
   | .array k e=>match rowOf T n e with|some r=>some ((List.replicate k r).flatten)|none=>none
   |_=>none
def As:Value->AV
 | .int k n=>if lo k<=n/\n<=hi k then .int k n else .dU
 | .bool b=>if b then .tt else .ff
 | .string s=>bif Nat.ble s.data.toList.length 1000000 then .str s.data.toList else .dU
 | .slice none 0 0=> .nil
 | .pointer none=> .lp
 | .nilFunc=> .lW
 |_=> .dU
def ofConst:Value->AV
 | .agg cs=> .agg (cs.toList.map As)
 |v=>As v
inductive KS where
 |one (k:Nat)
 |dst (d:Nat)
structure GD where
 row:List Ty
 l:List (Row row)
structure St where
 t:Nat->AV
 h:Nat->Option AB
 ct:List Nat
 news:List KS
 G5:List Nat
 n:Nat
 kb:Nat
 g:Nat->Option GD
abbrev bg:=Nat->Option AB
def ev(st:St):Operand->AV
 | .tmp i=>st.t i
 | .const v=>ofConst v
 | .global i=>match st.g i with
   |some d=> .sq d.row d.l
   |none=> .dU
 | .func f=> .fn (.func f) [] []
def iF(h:bg):AV->AV×List Nat
 | .own k=>match h k with
   |some (.row _ row l _)=>(.sl row l,[k])
   |_=>(.dU,[])
 | .pre k n=>match h k with
   |some (.row _ row l _)=>(.sl row (l.take n),[k])
   |_=>(.dU,[])
 | .view k sz off len=>match h k with
   |some (.row _ row l _)=>bif Nat.beq sz row.length then(.sl row ((l.drop off).take len),[k]) else(.dU,[])
   |_=>(.dU,[])
 |a=>(a,[])
def oP(h:bg):List AV->List AV×List Nat
 | []=>([],[])
 |a::aK=>((iF h a).1::(oP h aK).1,(iF h a).2++(oP h aK).2)
def pv(h:bg):AV->AV×List Nat
 | .agg cs=>(.agg (oP h cs).1,(oP h cs).2)
 |a=>iF h a
def lY(h:bg):List AV->List AV×List Nat
 | []=>([],[])
 |a::aK=>((pv h a).1::(lY h aK).1,(pv h a).2++(lY h aK).2)
def AV.cells:AV->List AV
 | .agg cs=>cs
 |a=> [a]
def AV.one:AV->Bool
 | .dU| .undef| .agg _| .bA _=>false
 |_=>true
structure Out where
 cond:List Prop
 res:AV
 jq:List (Nat×AB):= []
 del:List Nat:= []
 new:List (Nat×AB):= []
 raw:List Nat:= []
def cU(h:bg):List Nat->List (Nat×AB)
 | []=> []
 |k::ks=>match h k with
  |some (.row e row l _)=>(k, .row e row l true)::cU h ks
  |_=>cU h ks
mutual
def eI(d:Nat):AV->AV
 | .own k=>bif Nat.beq k d then .dU else .own k
 | .pre k n=>bif Nat.beq k d then .dU else .pre k n
 | .view k sz off n=>bif Nat.beq k d then .dU else .view k sz off n
 | .ref k off=>bif Nat.beq k d then .dU else .ref k off
 | .elem k sz i j=>bif Nat.beq k d then .dU else .elem k sz i j
 | .agg cs=> .agg (gz d cs)
 | .bA vs=> .bA (gz d vs)
 | .fn f first bH=> .fn f (gz d first) (gz d bH)
 | .je ks cs=> .je ks (gz d cs)
 |a=>a
def gz(d:Nat):List AV->List AV
 | []=> []
 |a::aK=>eI d a::gz d aK
end
def wG(d:Nat):Option Nat->Option Nat
 |some k=>bif Nat.beq k d then none else some k
 |none=>none
def qn(d:Nat):AB->AB
 | .cells cs=> .cells (gz d cs)
 | .views e j n m sz=> .views e (wG d j) n m sz
 | .jc e j row l i=> .jc e (wG d j) row l i
 |b=>b
def IQ(cs:List AV)(off:Nat)(vs:List AV):List AV:=cs.take off++vs++cs.drop (off+vs.length)
def FD(h:bg):AV->Option Int
 | .str s=>some (s.length:Int)
 | .sl _ l=>some (l.length:Int)
 | .full _ l=>some (l.length:Int)
 | .nil=>some 0
 | .own k=>match h k with
   |some (.row _ _ l _)=>some (l.length:Int)
   |_=>none
 | .pre k n=>match h k with
   |some (.row _ _ _ _)=>some (n:Int)
   |_=>none
 | .view k _ _ n=>match h k with
   |some (.row _ _ _ _)=>some (n:Int)
   |_=>none
 |_=>none
def tN(T:cJ)(t:TypeId):Option TE:=match T.find t with
 |some te=>match te.desc with
  | .slice e=>T.find e
  |_=>none
 |none=>none
def Au(T:cJ)(t:TypeId):Option TypeId:=match T.find t with
 |some te=>match te.desc with
  | .slice e=>some e
  |_=>none
 |none=>none
def mC(T:cJ)(t:TypeId)(n:Nat):Bool:=match T.find t with
 |some te=>Nat.beq te.size n
 |none=>false
def bC(T:cJ)(t:TypeId)(n:Nat):Bool:=match tN T t with
 |some te=>Nat.beq te.size n&&Nat.blt 0 n
 |none=>false
def Jt(T:cJ)(t:TypeId):Option (Nat×Nat):=match T.find t with
 |some te=>match te.desc with
  | .array k e=>match T.find e with
    |some ee=>bif Nat.blt 0 ee.size then some (k,ee.size) else none
    |none=>none
  |_=>none
 |none=>none
def gA(T:cJ)(h:bg)(t:TypeId):AV->AV->Option Out
 | .sl row l, .int _ i=>
   bif bC T t row.length then some {cond:= [0<=i/\i<(l.length:Int)],res:= .iM row (l.getD i.toNat (Row.zero row)) 0} else none
 | .full row l, .int _ i=>
   bif bC T t row.length then some {cond:= [0<=i/\i<(l.length:Int)],res:= .iM row (l.getD i.toNat (Row.zero row)) 0} else none
 | .own k, .int _ i=>match h k with
   |some (.row _ row l _)=>bif bC T t row.length then some {cond:= [0<=i/\i<(l.length:Int)],res:= .elem k row.length i.toNat 0} else none
   |_=>none
 | .pre k n, .int _ i=>match h k with
   |some (.row _ row l _)=>bif bC T t row.length then some {cond:= [0<=i/\i<(n:Int)],res:= .elem k row.length i.toNat 0} else none
   |_=>none
 | .view k sz off n, .int _ i=>bif bC T t sz then some {cond:= [0<=i/\i<(n:Int)],res:= .elem k sz (off+i.toNat) 0} else none
 | .sq row l, .int _ i=>match Jt T t with
   |some (n,sz)=>bif Nat.beq sz row.length then some {cond:= [n=l.length,0<=i/\i<(l.length:Int)],res:= .iM row (l.getD i.toNat (Row.zero row)) 0} else none
   |none=>none
 | .ref k off, .int _ i=>match Jt T t with
   |some (n,sz)=>some {cond:= [0<=i/\i<(n:Int)],res:= .ref k (off+i.toNat*sz)}
   |none=>none
 |_,_=>none
def NO(off:Nat)(n:Int)(sz:Nat):Nat:=off+n.toNat*sz
def apA:Operand->Option Int
 | .const (.int _ n)=>some n
 |_=>none
def sr(T:cJ)(h:bg)(t:TypeId)(n:Option Int)(x y:AV):Option Out:=match n,x,y with
 |some n, .ref k off, .int kd i=>match Jt T t with
  |some (m,sz)=>if n=i then some {cond:= [0<=i/\i<(m:Int)],res:= .ref k (NO off n sz)} else gA T h t (.ref k off) (.int kd i)
  |none=>none
 |_,x,y=>gA T h t x y
def pick(te:TE)(cs:List AV)(off:Nat):Option AV:=
 bif te.desc.mB then(bif Nat.ble (off+te.size) cs.length then some (.agg ((cs.drop off).take te.size)) else none)
 else cs[off]?
def qH(T:cJ)(h:bg)(t:TypeId):AV->Option Out
 | .iM row x j=>match T.find t with
   |some te=>match pick te (aF row x) j with
    |some a=>some {cond:= [],res:=a}
    |none=>none
   |none=>none
 | .sq row l=>match T.find t with
   |some te=>match pick te (l.flatMap (aF row)) 0 with
    |some a=>some {cond:= [],res:=a}
    |none=>none
   |none=>none
 | .ref k off=>match T.find t,h k with
   |some te,some (.cells cs)=>match pick te cs off with
    |some a=>some {cond:= [],res:=a}
    |none=>none
   |_,_=>none
 | .elem k sz i j=>match T.find t,h k with
   |some te,some (.row _ row l _)=>
    bif Nat.beq sz row.length then match pick te (aF row (l.getD i (Row.zero row))) j with
     |some a=>some {cond:= [i<l.length],res:=a}
     |none=>none
    else none
   |_,_=>none
 |_=>none
def ly(T:cJ)(h:bg)(t:TypeId):AV->AV->Option Out
 | .ref k off,v=>match h k with
   |some (.cells cs)=>
    bif v.cells.all AV.one&&mC T t v.cells.length&&Nat.ble (off+v.cells.length) cs.length then
     some {cond:= [],res:= .undef,jq:= [(k, .cells (IQ cs off v.cells))]} else none
   |_=>none
 | .elem k sz i j,v=>match h k with
   |some (.row e row l false)=>
    bif Nat.beq sz row.length&&mC T t v.cells.length&&Nat.blt 0 v.cells.length then match qG row (l.getD i (Row.zero row)) j (pv h v).1.cells with
     |some x=>bif (pv h v).2.elem k then none else some {cond:= [i<l.length],res:= .undef,jq:=(k, .row e row (l.set i x) false)::cU h (pv h v).2}
     |none=>none
    else none
   |_=>none
 |_,_=>none
def Dx(T:cJ)(s:TypeId)(f:Nat):Option (TypeId×Nat):=match T.find s with
 |some te=>match te.desc with
  | .struct fs=>match fs[f]? with
    |some fd=>some (fd.type,fd.offset)
    |none=>none
  |_=>none
 |none=>none
def Dy(T:cJ)(t:TypeId):Bool:=match T.find t with
 |some te=>Nat.blt 0 te.size
 |none=>false
def uK(T:cJ)(s:TypeId)(f:Nat)(x:AV):Option Out:=match Dx T s f with
 |some (ft,o)=>bif Dy T ft then match x with
  | .ref k off=>some {cond:= [],res:= .ref k (off+o)}
  | .iM row x j=>some {cond:= [],res:= .iM row x (j+o)}
  | .elem k sz i j=>some {cond:= [],res:= .elem k sz i (j+o)}
  |_=>none
  else none
 |none=>none
def fit(k:IntKind)(n:Int):List Prop×AV:=match pz k with
 |some c=>([], .int k (n%c))
 |none=>([lo k<=n/\n<=hi k], .int k n)
def tO(k:IntKind)(cond:List Prop)(n:Int):Option Out:=some {cond:=cond++(fit k n).1,res:=(fit k n).2}
def BC(k:IntKind)(n:Int):List Prop :=match pz k with
 |some _=> []
 |none=> [0<=n]
def bitsOf:IntKind->Int
 | .i8| .u8=>8| .i16| .u16=>16| .i32| .u32=>32| .i64| .u64=>64
def aP(a b:Int):Int:=((a.toNat&&&b.toNat:Nat):Int)
def cu(a b:Int):Int:=((a.toNat ||| b.toNat:Nat):Int)
def bQ(a b:Int):Int:=((a.toNat^^^b.toNat:Nat):Int)
def tP:AV->Option Bool
 | .bool b=>some b
 | .tt=>some true
 | .ff=>some false
 |_=>none
def eH(T:cJ)(t:TypeId)(f:TypeDesc->Bool):Bool:=match T.find t with
 |some te=>f te.desc
 |none=>false
def jk:TypeDesc->Bool
 | .slice _=>true
 |_=>false
def Ju:TypeDesc->Bool
 | .bool=>true
 |_=>false
def NP(T:cJ)(E:TypeId->AV->AV->Option Bool)(xs ys:List AV):List Field->Option Bool
 | []=>some true
 |f::fs=>match T.find f.type with
  |some te=>match pick te xs f.offset,pick te ys f.offset with
   |some a,some b=>match E f.type a b,NP T E xs ys fs with
    |some r,some r'=>some (match fs with| []=>r|_=>bif r then r' else false)
    |_,_=>none
   |_,_=>none
  |none=>none
def G6(T:cJ):Nat->TypeId->AV->AV->Option Bool
 |0,_,_,_=>none
 |n+1,t,x,y=>match T.find t with
  |some te=>match te.desc with
   | .struct fs=>match x,y with
     | .agg xs, .agg ys=>NP T (G6 T n) xs ys fs.toList
     |_,_=>none
   | .int _=>match x,y with
     | .int k a, .int k' b=>if k=k' then some (decide (a=b)) else none
     |_,_=>none
   | .string=>match x,y with
     | .str a, .str b=>some (decide (a=b))
     |_,_=>none
   | .bool=>match tP x,tP y with
     |some a,some b=>some (a==b)
     |_,_=>none
   |_=>none
  |none=>none
def Pt(T:cJ)(t:TypeId)(op:BinOp):AV->AV->Option Out
 | .int k n, .int k' m=>match op with
   | .shl=>tO k [0<=m/\m<=bitsOf k] (n*2^m.toNat)
   | .shr=>some {cond:= [0<=m/\m<=bitsOf k],res:= .int k (n/2^m.toNat)}
   |_=>if k=k' then match op with
    | .add=>tO k [] (n+m)
    | .sub=>tO k [] (n-m)
    | .mul=>tO k [] (n*m)
    | .quo=>some {cond:=BC k n++ [0<m],res:= .int k (n/m)}
    | .rem=>some {cond:=BC k n++ [0<m],res:= .int k (n%m)}
    | .and=>some {cond:=BC k n++BC k m,res:= .int k (aP n m)}
    | .or=>some {cond:=BC k n++BC k m,res:= .int k (cu n m)}
    | .xor=>some {cond:=BC k n++BC k m,res:= .int k (bQ n m)}
    | .eql=>some {cond:= [],res:= .bool (decide (n=m))}
    | .neq=>some {cond:= [],res:= .bool (!decide (n=m))}
    | .lss=>some {cond:= [],res:= .bool (decide (n<m))}
    | .leq=>some {cond:= [],res:= .bool (decide (n<=m))}
    | .gtr=>some {cond:= [],res:= .bool (decide (m<n))}
    | .geq=>some {cond:= [],res:= .bool (decide (m<=n))}
    |_=>none
    else none
 | .str s, .str u=>match op with
   | .add=>some {cond:= [((s.length+u.length:Nat):Int)<=9223372036854775807],res:= .str (s++u)}
   | .eql=>some {cond:= [],res:= .bool (decide (s=u))}
   | .neq=>some {cond:= [],res:= .bool (!decide (s=u))}
   | .lss=>some {cond:= [],res:= .bool (Op.bytesLess s u)}
   | .leq=>some {cond:= [],res:= .bool (Op.bytesLess s u || decide (s=u))}
   | .gtr=>some {cond:= [],res:= .bool (!(Op.bytesLess s u || decide (s=u)))}
   | .geq=>some {cond:= [],res:= .bool (!Op.bytesLess s u)}
   |_=>none
 | .sl (r::rs) l, .nil=>bif eH T t jk then match op with
     | .eql=>some {cond:= [],res:= .rD (r::rs) l}
     |_=>none
     else none
 | .agg xs, .agg ys=>match G6 T 8 t (.agg xs) (.agg ys) with
   |some r=>match op with
    | .eql=>some {cond:= [],res:= .bool r}
    | .neq=>some {cond:= [],res:= .bool (!r)}
    |_=>none
   |none=>none
 |a,b=>match tP a,tP b with
  |some x,some y=>bif eH T t Ju then match op with
   | .eql=>some {cond:= [],res:= .bool (x==y)}
   | .neq=>some {cond:= [],res:= .bool (!(x==y))}
   |_=>none
   else none
  |_,_=>none
def UX(op:UnOp):AV->Option Out
 | .bool b=>match op with| .not=>some {cond:= [],res:= .bool (!b)}|_=>none
 | .tt=>match op with| .not=>some {cond:= [],res:= .ff}|_=>none
 | .ff=>match op with| .not=>some {cond:= [],res:= .tt}|_=>none
 | .int k n=>match op with
   | .neg=>tO k [] (0-n)
   | .xor=>match pz k with
     |some c=>some {cond:= [],res:= .int k (c-1-n)}
     |none=>none
   |_=>none
 |_=>none
def ng(h:bg)(row:List Ty)(a:AV):Option (List (Row row)):=match a with
 | .str s=>gu [.int .u8] row s
 | .nil=>some []
 |a=>match(iF h a).1 with
  | .sl r l=>gu r row l
  | .full r l=>gu r row l
  |_=>none
def tQ:Nat:=8
def IS:TypeDesc->Bool
 | .slice _=>true
 | .string=>true
 |_=>false
def pK(T:cJ)(h:bg)(d:Nat)(t t':TypeId)(s x:AV):Option Out:=
 match Au T t,tN T t with
 |some e,some te=>match rowOf T tQ e with
  |some row=>bif Nat.beq row.length te.size&&Nat.blt 0 te.size&&Nat.beq (ofConst te.zero).cells.length te.size&&eH T t' IS then
   match ng h row x with
   |some m=>match s with
    | .nil=>some {cond:= [m.length<=140737488355328/te.bytes],res:= .own d,new:= [(d, .row e row m false)]}
    | .own k=>match h k with
      |some (.row e' lZ l false)=>bif Nat.beq e' e then match gu lZ row l with
       |some l'=>some {cond:= [l'.length+m.length<=140737488355328/te.bytes],res:= .own d,del:= [k],new:= [(d, .row e row (l'++m) false)]}
       |none=>none
       else none
      |_=>none
    | .pre k n=>match h k with
      |some (.row e' lZ l false)=>bif Nat.beq e' e then match gu lZ row l with
       |some l'=>some {cond:= [n+m.length<=140737488355328/te.bytes],res:= .own d,del:= [k],new:= [(d, .row e row (l'.take n++m) false)]}
       |none=>none
       else none
      |_=>none
    | .full r l=>match gu r row l with
      |some l'=>some {cond:= [0<m.length,l'.length+m.length<=140737488355328/te.bytes],res:= .own d,new:= [(d, .row e row (l'++m) false)]}
      |none=>none
    |_=>none
   |none=>none
   else none
  |none=>none
 |_,_=>none
def su(T:cJ)(h:bg)(t t':TypeId)(s x:AV):Option Out:=
 match s with
 | .own k=>match h k with
   |some (.row e row l false)=>bif bC T t row.length then match ng h row x with
    |some m=>some {cond:= [],res:= .int .i64 ((min m.length l.length:Nat):Int),jq:= [(k, .row e row (m.take l.length++l.drop m.length) false)]}
    |none=>none
    else none
   |_=>none
 | .view k sz off n=>match h k with
   |some (.row e row l false)=>bif bC T t row.length&&Nat.beq sz row.length then match ng h row x with
    |some m=>some {cond:= [off+n<=l.length],res:= .int .i64 ((min m.length n:Nat):Int),jq:= [(k, .row e row (l.take off++m.take n++l.drop (off+min m.length n)) false)]}
    |none=>none
    else none
   |_=>none
 |_=>none
def tR:Option AV->Option (Option Int)
 |none=>some none
 |some (.int _ i)=>some (some i)
 |some _=>none
def rJ:TypeDesc->Bool
 | .string=>true
 |_=>false
def sa(T:cJ)(h:bg)(t:TypeId)(x:AV)(lo hi mx:Option AV):Option Out:=
 match x,tR lo,tR hi,tR mx with
 | .str s,some lo,some hi,some none=>bif eH T t rJ then match lo,hi with
   |none,none=>some {cond:= [],res:= .str s}
   |none,some b=>some {cond:= [0<=b/\b<=(s.length:Int)],res:= .str (s.take b.toNat)}
   |some a,none=>some {cond:= [0<=a/\a<=(s.length:Int)],res:= .str (s.drop a.toNat)}
   |some a,some b=>some {cond:= [0<=a/\a<=b/\b<=(s.length:Int)],res:= .str ((s.take b.toNat).drop a.toNat)}
   else none
 | .sl row l,some lo,some hi,some none=>bif bC T t row.length then match lo,hi with
   |none,none=>some {cond:= [],res:= .sl row l}
   |none,some b=>some {cond:= [0<=b/\b<=(l.length:Int)],res:= .sl row (l.take b.toNat)}
   |some a,none=>some {cond:= [0<=a/\a<=(l.length:Int)],res:= .sl row (l.drop a.toNat)}
   |some a,some b=>some {cond:= [0<=a/\a<=b/\b<=(l.length:Int)],res:= .sl row ((l.take b.toNat).drop a.toNat)}
   else none
 | .sl row l,some none,some (some b),some (some c)=>bif bC T t row.length then some {cond:= [0<=b/\b=c/\b<=(l.length:Int)],res:= .full row (l.take b.toNat)} else none
 | .own k,some lo,some hi,some none=>match h k with
   |some (.row _ row l _)=>bif bC T t row.length then match lo,hi with
    |none,none=>some {cond:= [],res:= .own k}
    |none,some b=>some {cond:= [0<=b/\b<=(l.length:Int)],res:= .pre k b.toNat}
    |some a,none=>some {cond:= [0<=a/\a<=(l.length:Int)],res:= .view k row.length a.toNat (l.length-a.toNat)}
    |some a,some b=>some {cond:= [0<=a/\a<=b/\b<=(l.length:Int)],res:= .view k row.length a.toNat (b.toNat-a.toNat)}
    else none
   |_=>none
 |_,_,_,_=>none
def wH:AV->Bool
 | .str _=>false
 |_=>true
def Av(T:cJ)(h:bg)(s d:TypeId)(k:Nat):Option Out:=
 bif Nat.beq s d then match T.find s with
  |some ts=>match ts.desc with
   | .slice e=>match T.find e,h k with
     |some te,some (.row _ row l false)=>match te.desc,gu row [.int .u8] l with
      | .int .u8,some l'=>some {cond:= [0<l'.length],res:= .sl [.int .u8] l',del:= [k]}
      |_,_=>none
     |_,_=>none
   |_=>none
  |none=>none
 else none
def ov(T:cJ)(h:bg)(s d:TypeId)(x:AV):Option Out:=
 match T.find s,T.find d with
 |some ts,some td=>match ts.desc,td.desc,x with
  | .int _, .int k, .int k' n=>
    if lo k<=lo k'/\hi k'<=hi k then some {cond:= [],res:= .int k n} else tO k [] n
  | .string, .string, .str u=>some {cond:= [],res:= .str u}
  | .string, .slice e, .str u=>match T.find e with
    |some te=>match te.desc with
     | .int .u8=>some {cond:= [],res:= .sl [.int .u8] u}
     |_=>none
    |none=>none
  | .slice e, .string,x=>match T.find e with
    |some te=>match te.desc with
     | .int .u8=>match wH x,ng h [.int .u8] x with
       |true,some u=>some {cond:= [],res:= .str u}
       |_,_=>none
     |_=>none
    |none=>none
  | .slice _, .slice _, .own k=>Av T h s d k
  |_,_,_=>none
 |_,_=>none
def Cs(place:Nat->Option (Nat×Nat))(cs:List AV):List (Nat×AV)->Option (List AV)
 | []=>some cs
 |(i,v)::rest=>match place i with
  |none=>none
  |some (off,size)=>bif Nat.beq v.cells.length size&&Nat.ble (off+size) cs.length&&v.cells.all AV.one then Cs place (IQ cs off v.cells) rest else none
def placesOf(T:cJ):List Field->Option (List (Nat×Nat))
 | []=>some []
 |f::fs=>match T.find f.type,placesOf T fs with
  |some te,some ps=>some ((f.offset,te.size)::ps)
  |_,_=>none
def FE(T:cJ)(t:TypeId)(parts:List (Nat×AV)):Option Out:=match T.find t with
 |some te=>match te.desc with
  | .struct fs=>match placesOf T fs.toList with
    |some ps=>match Cs (fun i=>ps[i]?) (ofConst te.zero).cells parts with
     |some cs=>some {cond:= [],res:= .agg cs}
     |none=>none
    |none=>none
  | .array _ e=>match T.find e with
    |some ee=>match Cs (fun i=>some (i*ee.size,ee.size)) (ofConst te.zero).cells parts with
     |some cs=>some {cond:= [],res:= .agg cs}
     |none=>none
    |none=>none
  |_=>none
 |none=>none
def oQ(h:bg):List (Nat×AV)->List (Nat×AV)×List Nat
 | []=>([],[])
 |(i,x)::ps=>((i,(pv h x).1)::(oQ h ps).1,(pv h x).2++(oQ h ps).2)
def jY(T:cJ)(h:bg)(d:Nat)(t:TypeId)(len:Nat)(parts:List (Nat×AV)):Option Out:=
 match Au T t,tN T t with
 |some e,some te=>match rowOf T tQ e with
  |some row=>bif Nat.beq row.length te.size&&Nat.blt 0 te.size&&Nat.beq (ofConst te.zero).cells.length te.size&&Nat.ble (len*te.size) 16777216 then
   match Cs (fun i=>some (i*te.size,te.size)) ((List.replicate len (ofConst te.zero).cells).flatten) (oQ h parts).1 with
   |some cs=>match wF row len cs with
    |some l=>some {cond:= [],res:= .own d,jq:=cU h (oQ h parts).2,new:= [(d, .row e row l false)]}
    |none=>none
   |none=>none
   else none
  |none=>none
 |_,_=>none
def dL(row:List Ty)(z:Value):Bool:=match z with
 | .agg cs=>cW row cs.toList
 |v=>cW row [v]
where
 cW:List Ty->List Value->Bool
 | [],[]=>true
 | .int k::ts, .int k' n::vs=>decide (k=k')&&decide (n=0)&&cW ts vs
 | .bool::ts, .bool false ::vs=>cW ts vs
 | .str::ts, .string s::vs=>s.data.toList.isEmpty&&cW ts vs
 | .slice _::ts, .slice none 0 0::vs=>cW ts vs
 |_,_=>false
def sb(T:cJ)(h:bg)(t:TypeId)(x:AV):Option Out:=
 match x with
 | .view k sz off n=>match h k with
   |some (.row e row l false)=>match Au T t,tN T t with
    |some _,some te=>bif bC T t row.length&&Nat.beq sz row.length&&Nat.beq row.length te.size&&dL row te.zero then
      some {cond:= [off+n<=l.length],res:= .bA [],jq:= [(k, .row e row (l.take off++List.replicate n (Row.zero row)++l.drop (off+n)) false)]} else none
    |_,_=>none
   |_=>none
 |_=>none
def uM(T:cJ)(d:Nat)(t:TypeId):AV->AV->Option Out
 | .int k n, .int k' c=>match Au T t,tN T t with
   |some e,some te=>match rowOf T tQ e with
    |some row=>bif Nat.beq row.length te.size&&Nat.blt 0 te.size&&dL row te.zero then
     some {cond:= [0<=n/\n<=c/\c<=140737488355328/te.bytes],res:= .own d,new:= [(d, .row e row (List.replicate n.toNat (Row.zero row)) false)]} else none
    |none=>none
   |_,_=>none
 |_,_=>none
abbrev RN:=List AV->Option (Prop×AV×List AB)
structure bP where
 pre:Prop
 res:AV
 heap:List (Option AB)
 new:List AB
abbrev jZ:=List AV->List AB->Option bP
structure Env where
 T:cJ
 sig:Nat->Option RN
 lq:Nat->Option GD:=fun _=>none
 sv:Nat->Option (List Bool×jZ):=fun _=>none
 jc:Nat->Bool:=fun _=>false
 cls:Nat->Option Nat:=fun _=>none
 UY:Nat->Bool:=fun _=>false
 Na:Nat:=0
mutual
def ep(base:Nat):AV->AV
 | .own k=> .own (base+k)
 | .agg cs=> .agg (sc base cs)
 | .bA vs=> .bA (sc base vs)
 |a=>a
def sc(base:Nat):List AV->List AV
 | []=> []
 |a::aK=>ep base a::sc base aK
end
def gv(base:Nat):List AB->List (Nat×AB)
 | []=> []
 |b::bs=>(base,b)::gv (base+1) bs
def ow(d:Nat):Nat:=100000+100*d
mutual
def AV.fN:AV->Bool
 | .int _ _| .bool _| .tt| .ff| .str _| .undef| .own _| .nil=>true
 | .agg cs=>Dz cs
 | .bA vs=>Dz vs
 |_=>false
def Dz:List AV->Bool
 | []=>true
 |a::aK=>a.fN&&Dz aK
end
def Jv:AV->Bool
 | .fn (.func _) [] []=>true
 |_=>false
mutual
def kO(n:Nat):AV->Bool
 | .own k=>Nat.blt k n
 | .agg cs=>DA n cs
 | .bA vs=>DA n vs
 | .je _ cs=>cs.all Jv
 | .dU| .pre _ _| .view _ _ _ _| .ref _ _| .elem _ _ _ _| .fn _ _ _| .iM _ _ _| .sq _ _=>false
 |_=>true
def DA(n:Nat):List AV->Bool
 | []=>true
 |a::aK=>kO n a&&DA n aK
end
def j3:List AB->Bool
 | []=>true
 | .row _ _ _ false ::r=>j3 r
 |_=>false
def IT:Ty->Bool
 | .slice _=>false
 |_=>true
def eh:List AB->Bool
 | []=>true
 | .row _ row _ _::r=>row.all IT&&eh r
 |_=>false
def oR(E:Env)(h:bg)(d f:Nat)(args:List AV):Option Out:=match E.sig f with
 |some s=>match s (lY h args).1 with
  |some (pre,res,bs)=>bif Nat.ble bs.length 100&&kO bs.length res&&j3 bs then some {cond:= [pre],res:=ep (ow d) res,jq:=bif res.fN&&eh bs then [] else cU h (lY h args).2,new:=gv (ow d) bs} else none
  |none=>none
 |none=>none
def DB(b:Bool):AV->AV->AV
 | .int k n, .int k' m=>if k=k' then .int k (bif b then n else m) else .dU
 | .str s, .str u=> .str (bif b then s else u)
 | .sl r l, .sl r' m=>match gu r' r m with
   |some m'=> .sl r (bif b then l else m')
   |none=> .dU
 | .sl r l, .nil=> .sl r (bif b then l else [])
 | .nil, .sl r l=> .sl r (bif b then [] else l)
 | .nil, .nil=> .nil
 | .lp, .lp=> .lp
 | .own k, .own k'=>bif Nat.beq k k' then .own k else .dU
 |x,y=>match tP x,tP y with
  |some p,some q=> .bool (bif b then p else q)
  |_,_=> .dU
def sd(b:Bool):List AV->List AV->List AV
 |x::xs,y::ys=>DB b x y::sd b xs ys
 |_,_=> []
def DC(b:Bool):AV->AV->AV
 | .agg xs, .agg ys=>bif Nat.beq xs.length ys.length then .agg (sd b xs ys) else .dU
 | .bA xs, .bA ys=>bif Nat.beq xs.length ys.length then .bA (sd b xs ys) else .dU
 |x,y=>DB b x y
def DD(b:Bool):Option AB->Option AB->Option AB
 |some (.cells xs),some (.cells ys)=>bif Nat.beq xs.length ys.length then some (.cells (sd b xs ys)) else none
 |some (.row e r l fr),some (.row e' r' m FF)=>match gu r' r m with
  |some m'=>bif Nat.beq e e'&&(fr==FF) then some (.row e r (bif b then l else m') fr) else none
  |none=>none
 |_,_=>none
def DE:List AV->Option (IntKind×List Int)
 | []=>none
 |a::r=>match a with
  | .int k n=>match r with
    | []=>some (k,[n])
    |_::_=>match DE r with
     |some (k',l)=>if k=k' then some (k,n::l) else none
     |none=>none
  |_=>none
def every(sz j:Nat):Nat->List AV->List AV
 |0,_=> []
 |n+1,cs=>cs.getD j .dU::every sz j n (cs.drop sz)
def DF(sz k:Nat)(cs:List AV)(n:Int):Nat->Option (List AV)
 |0=>some []
 |m+1=>match DF sz k cs n m,DE (every sz m k cs) with
  |some vs,some (kd,l)=>some (vs++ [.int kd (l.getD n.toNat 0)])
  |_,_=>none
def Jw(T:cJ)(t:TypeId):Option (Nat×TE):=match T.find t with
 |some te=>match te.desc with
  | .array k e=>match T.find e with
    |some ee=>some (k,ee)
    |none=>none
  |_=>none
 |none=>none
def wI(T:cJ)(t:TypeId)(cs:List AV)(n:Int):Option Out:=match Jw T t with
 |some (k,ee)=>bif Nat.beq cs.length (k*ee.size) then match DF ee.size k cs n ee.size with
  |some vs=>bif ee.desc.mB then some {cond:= [0<=n/\n<(k:Int)],res:= .agg vs} else match vs with
   | [a]=>some {cond:= [0<=n/\n<(k:Int)],res:=a}
   |_=>none
  |none=>none
  else none
 |none=>none
def rK(k:Nat):Bool:=Nat.ble 50000 k&&Nat.blt k 60000
def fresh(h:bg)(k:Nat):Bool:=match h k with
 |none=> !(rK k)
 |some _=>false
def wJ(n:Int):List Int->Prop
 | []=>True
 |k::r=>n≠k/\wJ n r
def Jx(n:Int):List Int->Bool
 | []=>false
 |k::r=>decide (n=k) || Jx n r
def kQ:List Int->Bool
 | []=>true
 |k::r=> !Jx k r&&kQ r
def Ct:TypeDesc->Bool
 | .int .i64=>true
 |_=>false
def UZ:Value->Bool
 | .nilFunc=>true
 |_=>false
def Cu(T:cJ)(Na:Nat)(t:TypeId)(ok:Bool)(ks:List Int)(cs:List AV)(n:Int):Option Out:=match T.find t with
 |some te=>match te.desc with
  | .map kt et=>bif eH T kt Ct&&kQ ks then
      (match ks[Na]?,cs[Na]? with
      |some k,some c=>some {cond:= [n=k],res:=bif ok then .bA [c, .tt] else c}
      |_,_=>match T.find et with
       |some ee=>bif UZ ee.zero then some {cond:= [wJ n ks],res:=bif ok then .bA [.lW, .ff] else .lW} else none
       |none=>none)
    else none
  |_=>none
 |none=>none
def dR(E:Env)(st:St)(o:Oper):Option Out:=
 let T:=E.T
 let h:=st.h
 let ρ:=ev st
 match o.op with
 | .move x| .assign x=>some {cond:= [],res:=ρ x}
 | .pick c a b=>match ρ c with
   | .tt=>some {cond:= [],res:=ρ a}
   | .ff=>some {cond:= [],res:=ρ b}
   | .bool p=>some {cond:= [],res:=DC p (ρ a) (ρ b)}
   |_=>none
 | .alloc t=>match T.find t,o.dst with
   |some te,some d=>bif Nat.ble te.size 40 then(bif (ofConst te.zero).cells.all AV.one then some {cond:= [],res:= .ref (st.kb+d) 0,new:= [(st.kb+d, .cells (gz (st.kb+d) (ofConst te.zero).cells))]} else none) else none
   |_,_=>none
 | .box _ x=>match o.dst with
   |some d=>bif (ρ x).cells.all AV.one then some {cond:= [],res:= .ref (st.kb+d) 0,new:= [(st.kb+d, .cells (gz (st.kb+d) (ρ x).cells))]} else none
   |none=>none
 | .build t parts=>FE T t (parts.toList.map fun p=>(p.1,ρ p.2))
 | .buildSlice t len parts=>match o.dst with
   |some d=>bif fresh h (st.kb+d) then jY T h (st.kb+d) t len (parts.toList.map fun p=>(p.1,ρ p.2)) else none
   |none=>none
 | .load t p=>qH T h t (ρ p)
 | .store t p v=>ly T h t (ρ p) (ρ v)
 | .nilCheck x=>match ρ x with
   | .ref k off=>some {cond:= [],res:= .ref k off}
   | .iM r x j=>some {cond:= [],res:= .iM r x j}
   | .elem k sz i j=>some {cond:= [],res:= .elem k sz i j}
   | .fn (.func f) first bH=>some {cond:= [],res:= .fn (.func f) first bH}
   |_=>none
 | .binOp op t x y _=>Pt T t op (ρ x) (ρ y)
 | .unOp op _ x=>UX op (ρ x)
 | .convert s d x=>ov T h s d (ρ x)
 | .makeFunc f first bH=>some {cond:= [],res:= .fn f (first.toList.map ρ) (bH.toList.map ρ)}
 | .makeSlice t l c=>match o.dst with
   |some d=>bif fresh h (st.kb+d) then uM T (st.kb+d) t (ρ l) (ρ c) else none
   |none=>none
 | .slice t x lo hi mx=>sa T h t (ρ x) (lo.map ρ) (hi.map ρ) (mx.map ρ)
 | .fieldAddr s x f=>uK T s f (ρ x)
 | .field s x f=>match Dx T s f,ρ x with
   |some (ft,off), .agg cs=>match T.find ft with
    |some te=>match pick te cs off with
     |some a=>some {cond:= [],res:=a}
     |none=>none
    |none=>none
   |_,_=>none
 | .indexAddr t x i=>sr T h t (apA i) (ρ x) (ρ i)
 | .index t x i=>match ρ x,ρ i with
   | .str s, .int _ n=>bif eH T t rJ then some {cond:= [0<=n/\n<(s.length:Int)],res:= .int .u8 ((s.getD n.toNat 0).toNat:Int)} else none
   | .agg cs, .int _ n=>wI T t cs n
   |_,_=>none
 | .extract x i=>match ρ x with
   | .bA vs=>match vs[i]? with
     |some a=>some {cond:= [],res:=a}
     |none=>none
   |_=>none
 | .lookup t x i ok=>match ρ x,ρ i with
   | .je ks cs, .int .i64 n=>Cu T E.Na t ok ks cs n
   |_,_=>none
 | .call c=>match c.callee with
   | .builtin b=>match b,c.args.toList,c.argTypes.toList with
     | .len,[x],[t]=>match FD h (ρ x) with
       |some n=>bif (bif wH (ρ x) then eH T t jk else eH T t rJ) then some {cond:= [],res:= .int .i64 n} else none
       |none=>none
     | .append,[s,x],[t,t']=>match o.dst with
       |some d=>bif fresh h (st.kb+d) then pK T h (st.kb+d) t t' (ρ s) (ρ x) else none
       |none=>none
     | .copy,[s,x],[t,t']=>su T h t t' (ρ s) (ρ x)
     | .clear,[x],[t]=>sb T h t (ρ x)
     | .min,[x,y],_=>match ρ x,ρ y with
       | .int k n, .int k' m=>if k=k' then some {cond:= [],res:= .int k (min n m)} else none
       |_,_=>none
     | .max,[x,y],_=>match ρ x,ρ y with
       | .int k n, .int k' m=>if k=k' then some {cond:= [],res:= .int k (max n m)} else none
       |_,_=>none
     |_,_,_=>none
   | .value f=>match ρ f,o.dst with
     | .fn (.func f) first bH,some d=>oR E h (st.kb+d) f (first++(c.args.toList.map ρ)++bH)
     | .fn (.func f) first bH,none=>oR E h st.kb f (first++(c.args.toList.map ρ)++bH)
     |_,_=>none
   |_=>none
 |_=>none
def kT(h:bg):List (Nat×AB)->Bool
 | []=>true
 |(k,_)::r=>(match h k with|none=> !(rK k)|some _=>false)&&kT h r
def qo(new:List (Nat×AB))(a:AV):AV:=match new with
 | []=>a
 |(k,_)::r=>qo r (eI k a)
def dF(new:List (Nat×AB))(a:AB):AB:=match new with
 | []=>a
 |(k,_)::r=>dF r (qn k a)
def ay(l:List (Nat×AB))(k:Nat):Option AB:=match l with
 | []=>none
 |(j,b)::r=>bif Nat.beq k j then some b else ay r k
def aM(l:List Nat)(k:Nat):Bool:=match l with
 | []=>false
 |j::r=>Nat.beq k j || aM r k
def BD(out:Out)(k:Nat)(b:AB):AB:=bif aM out.raw k then b else dF out.new b
def Jy(h:bg)(out:Out):bg:=fun k=>match ay out.new k with
 |some b=>some b
 |none=>bif aM out.del k then none else match ay out.jq k with
  |some b=>some (BD out k b)
  |none=>match h k with
   |some b=>some (dF out.new b)
   |none=>none
def St.put(st:St)(d:Option Nat)(out:Out):St:=
 {st with
  t:=match d with
   |some d=>fun i=>bif Nat.beq i d then out.res else qo out.new (st.t i)
   |none=>fun i=>qo out.new (st.t i)
  h:=Jy st.h out
  ct:=out.jq.map (·.1)++(out.del++(out.new.map (·.1)++st.ct))
  news:=st.news++out.new.map fun x=> .one x.1
  G5:=out.del++st.G5}
def G7:List Prop->Prop
 | []=>True
 | [p]=>p
 |p::ps=>p/\G7 ps
end Go.Vg

end
section
namespace Go.Vg
open Go
def eu {α:Type}(R:List Value->α->Prop):List Value->List α->Prop
 |cs,[]=>cs= []
 |cs,x::l=>∃c1 c2,cs=c1++c2/\R c1 x/\eu R c2 l
mutual
def Rd(w:World)(A:Nat->Prop):(t:Ty)->Value->D t->Prop
 | .int k,v,x=>v= .int k (DI.toInt k x)/\lo k<=DI.toInt k x/\DI.toInt k x<=hi k
 | .bool,v,b=>v= .bool b
 | .str,v,s=>v= .string ⟨s.toArray⟩/\s.length<=maxLen
 | .slice row,v,l=>∃a cap cs,v= .slice a l.length cap/\l.length<=cap/\cap<=maxLen/\eu (bT w A row) cs l/\
     (cs≠ []->∃b o,a=some ⟨b,o,none⟩/\A b/\w.rangeAt b o cs)
def bT(w:World)(A:Nat->Prop):(ts:List Ty)->List Value->Row ts->Prop
 | [],vs,_=>vs= []
 |t::ts,vs,x=>∃v cK,vs=v::cK/\Rd w A t v (Row.hd x)/\bT w A ts cK (Row.tl x)
end
mutual
def af(w:World)(A:Nat->Prop)(β:Nat->Value):Value->AV->Prop
 |_, .dU=>True
 |v, .undef=>v=undef
 |v, .int k n=>v= .int k n/\lo k<=n/\n<=hi k
 |v, .bool b=>v= .bool b
 |v, .tt=>v= .bool true
 |v, .ff=>v= .bool false
 |v, .str s=>v= .string ⟨s.toArray⟩/\s.length<=maxLen
 |v, .nil=>v= .slice none 0 0
 |v, .lp=>v= .pointer none
 |v, .lW=>v= .nilFunc
 |v, .sl row l=>Rd w A (.slice row) v l
 |v, .full row l=>Rd w A (.slice row) v l/\∃a,v= .slice a l.length l.length
 |v, .iM row x j=>∃b o cs,v= .pointer (some ⟨b,o+j,none⟩)/\A b/\w.rangeAt b o cs/\bT w A row cs x
 |v, .sq row l=>∃b o cs,v= .pointer (some ⟨b,o,none⟩)/\A b/\w.rangeAt b o cs/\eu (bT w A row) cs l
 |v, .own k=>v=β k/\v.oneCell'=true
 |v, .pre k n=>(β k= .slice none 0 0/\v= .slice none 0 0/\n=0)\/
    ∃b m cap,β k= .slice (some ⟨b,0,none⟩) m cap/\v= .slice (some ⟨b,0,none⟩) n cap/\n<=m
 |v, .view k sz off n=>(n=0/\∃a cap,v= .slice a 0 cap/\cap<=maxLen)\/
    ∃b m cap l4,β k= .slice (some ⟨b,0,none⟩) m cap/\v= .slice (some ⟨b,off*sz,none⟩) n l4/\n<=l4/\off+l4<=cap/\off+n<=m
 |v, .ref k off=>∃b,β k= .pointer (some ⟨b,0,none⟩)/\v= .pointer (some ⟨b,off,none⟩)
 |v, .elem k sz i j=>∃b m cap,β k= .slice (some ⟨b,0,none⟩) m cap/\v= .pointer (some ⟨b,i*sz+j,none⟩)
 |v, .agg cs=>∃arr:Array Value,v= .agg arr/\ak w A β arr.toList cs
 |v, .bA vs=>∃arr:Array Value,v= .tuple arr/\ak w A β arr.toList vs
 |v, .rD _ l=>∃b,v= .bool b/\(b=true->l= [])
 |v, .fn f first bH=>∃a1 a2:Array Value,v= .func f a1 a2/\ak w A β a1.toList first/\ak w A β a2.toList bH
 |v, .je ks cs=>∃(b:Nat) (es:Array MapEntry) (clock:Nat),v= .map (some b)/\A b/\w.heap[b]? =some (.map es clock)/\es.toList.map (·.key)=ks.map (Value.int .i64)/\ak w A β (es.toList.map (·.val)) cs
def ak(w:World)(A:Nat->Prop)(β:Nat->Value):List Value->List AV->Prop
 |vs,[]=>vs= []
 |vs,a::aK=>∃v cK,vs=v::cK/\af w A β v a/\ak w A β cK aK
end
def aB:Value->Option Nat
 | .pointer (some a)=>some a.block
 | .slice (some a) _ _=>some a.block
 |_=>none
def BR(w:World)(A:Nat->Prop)(β:Nat->Value)(k:Nat):AB->Prop
 | .cells cs=>∃b arr e,β k= .pointer (some ⟨b,0,none⟩)/\w.heap[b]? =some (.cells arr e (0,0))/\¬A b/\
     ak w A β arr.toList cs/\∀v∈arr.toList,v.oneCell'=true
 | .row e row l fr=>∃xs,w.ownsRow 0 e row.length (β k) l.length xs/\eu (bT w A row) xs l/\
     ∀b,aB (β k)=some b->if fr then A b else ¬A b
 | .arr row l=>∃b arr e,β k= .pointer (some ⟨b,0,none⟩)/\w.heap[b]? =some (.cells arr e (0,0))/\¬A b/\eu (bT w A row) arr.toList l
 | .jc e j row l i=>∃xs v0,w.ownsRow 0 e row.length (β k) l.length xs/\(∀b,aB (β k)=some b->¬A b)/\eu (bT w A row) (xs.set (i*row.length+(row.length-1)) v0) l/\
     ∀j',j=some j'->xs[i*row.length+(row.length-1)]? =some (β j')
 | .views e j n m sz=>∃xs,w.ownsRow 0 e 1 (β k) n xs/\(∀b,aB (β k)=some b->¬A b)/\
     ∀j',j=some j'->∀i,i<m->∃v,xs[i]? =some v/\af w A β v (.view j' 1 (i*sz) sz)
def rm(w:World)(A:Nat->Prop)(i:Nat)(d:GD):Prop :=A i/\∃cs,w.rangeAt i 0 cs/\eu (bT w A d.row) cs d.l
structure Ctx where
 w0:World
 A0:Nat->Prop
 M0:Nat->Prop
 G:Nat->Option GD
 DG:Nat->Value
structure Fr (C:Ctx) (w:World):Prop where
 os:w.os=C.w0.os
 tape:w.tape=C.w0.tape
 output:w.output=C.w0.output
 size:C.w0.heap.size<=w.heap.size
 block:∀b,b<C.w0.heap.size->¬C.M0 b->w.heap[b]? =C.w0.heap[b]?
structure aJ (C:Ctx) (A:Nat->Prop) (β:Nat->Value) (st:St) (a:Act) (w:World):Prop where
 defers:a.defers= []
 size:a.tmps.size=st.n
 tmps:∀i,af w A β (a.tmps.getD i undef) (st.t i)
 blocks:∀k ab,st.h k=some ab->BR w A β k ab
 apart:∀k k' b,(st.h k).isSome->(st.h k').isSome->aB (β k)=some b->aB (β k')=some b->k=k'
 bound:∀b,A b->b<w.heap.size
 frame:Fr C w
 nh:∀b,b<C.w0.heap.size->A b->C.A0 b\/C.M0 b
 base:∀b,C.A0 b->A b
 qI:∀k b,(st.h k).isSome->aB (β k)=some b->C.w0.heap.size<=b\/C.M0 b
 uO:∀i d,st.g i=some d->C.G i=some d
 laid:∀i d,C.G i=some d->rm w A i d
 held:∀k,rK k=true->β k=C.DG k
def Rel(C:Ctx)(st:St)(a:Act)(w:World):Prop :=∃A β,aJ C A β st a w
theorem qp {w w':World} {b o:Nat} {cs:List Value}(h:w'.heap[b]? =w.heap[b]?)(hr:w.rangeAt b o cs):w'.rangeAt b o cs:=by
 intro j v hj;have :=hr j v hj;grind[World.cell?_of_block]
theorem bZ {α:Type} {R R':List Value->α->Prop}(h:∀c x,R c x->R' c x):∀(l:List α) (cs:List Value),eu R cs l->eu R' cs l
 | [],_,hr=>hr
 |_::l,_,⟨c1,c2,hc,h1,h2⟩=>⟨c1,c2,hc,h _ _ h1,bZ h l c2 h2⟩
def dC(w w':World)(A A':Nat->Prop):Prop :=∀b,A b->A' b/\w'.heap[b]? =w.heap[b]?
mutual
theorem DH {w w':World} {A A':Nat->Prop}(h:dC w w' A A'):∀(t:Ty) (v:Value) (x:D t),Rd w A t v x->Rd w' A' t v x
 | .int _,_,_,hr=>by simpa only [Rd] using hr
 | .bool,_,_,hr=>by simpa only [Rd] using hr
 | .str,_,_,hr=>by simpa only [Rd] using hr
 | .slice row,v,l,hr=>by
   simp only [Rd] at hr |-;obtain⟨a,cap,cs,h1,h2,h3,h4,h5⟩:=hr;refine⟨a,cap,cs,h1,h2,h3,bZ (fun c x hx=>b4 h row c x hx) l cs h4,fun gI=> ?_⟩;obtain⟨b,o,ha,hA,hra⟩:=h5 gI;exact⟨b,o,ha,(h b hA).1,qp (h b hA).2 hra⟩
theorem b4 {w w':World} {A A':Nat->Prop}(h:dC w w' A A'):∀(ts:List Ty) (vs:List Value) (x:Row ts),bT w A ts vs x->bT w' A' ts vs x
 | [],_,_,hr=>by simpa only [bT] using hr
 |t::ts,vs,x,hr=>by
  simp only [bT] at hr |-;obtain⟨v,cK,h1,h2,h3⟩:=hr;exact⟨v,cK,h1,DH h t v _ h2,b4 h ts cK _ h3⟩
end
theorem rm.mono {w w':World} {A A':Nat->Prop} {i:Nat} {d:GD}(hd:rm w A i d)(h:dC w w' A A'):rm w' A' i d:=by
 obtain⟨h1,cs,h2,h3⟩:=hd;exact⟨(h i h1).1,cs,qp (h i h1).2 h2,bZ (fun c x hx=>b4 h _ _ _ hx) _ _ h3⟩
mutual
theorem kD {w w':World} {A A':Nat->Prop} {β:Nat->Value}(h:dC w w' A A'):∀(a:AV) (v:Value),af w A β v a->af w' A' β v a
 | .dU,_,hr=>by simp [af]
 | .undef,_,hr=>by simpa only [af] using hr
 | .int _ _,_,hr=>by simpa only [af] using hr
 | .bool _,_,hr=>by simpa only [af] using hr
 | .tt,_,hr=>by simpa only [af] using hr
 | .ff,_,hr=>by simpa only [af] using hr
 | .str _,_,hr=>by simpa only [af] using hr
 | .nil,_,hr=>by simpa only [af] using hr
 | .lp,_,hr=>by simpa only [af] using hr
 | .rD _ _,_,hr=>by simpa only [af] using hr
 | .lW,_,hr=>by simpa only [af] using hr
 | .sl row l,v,hr=>by
   simp only [af] at hr |-;exact DH h _ _ _ hr
 | .full row l,v,hr=>by
   simp only [af] at hr |-;exact⟨DH h _ _ _ hr.1,hr.2⟩
 | .iM row x j,v,hr=>by
   simp only [af] at hr |-;obtain⟨b,o,cs,h1,h2,h3,h4⟩:=hr;exact⟨b,o,cs,h1,(h b h2).1,qp (h b h2).2 h3,b4 h _ _ _ h4⟩
 | .sq row l,v,hr=>by
   simp only [af] at hr |-;obtain⟨b,o,cs,h1,h2,h3,h4⟩:=hr;exact⟨b,o,cs,h1,(h b h2).1,qp (h b h2).2 h3,bZ (fun c x hx=>b4 h _ _ _ hx) _ _ h4⟩
 | .own _,_,hr=>by simpa only [af] using hr
 | .pre _ _,_,hr=>by simpa only [af] using hr
 | .view _ _ _ _,_,hr=>by simpa only [af] using hr
 | .ref _ _,_,hr=>by simpa only [af] using hr
 | .elem _ _ _ _,_,hr=>by simpa only [af] using hr
 | .agg cs,v,hr=>by
   simp only [af] at hr |-;obtain⟨arr,h1,h2⟩:=hr;exact⟨arr,h1,fO h cs _ h2⟩
 | .bA cs,v,hr=>by
   simp only [af] at hr |-;obtain⟨arr,h1,h2⟩:=hr;exact⟨arr,h1,fO h cs _ h2⟩
 | .fn f first bH,v,hr=>by
   simp only [af] at hr |-;obtain⟨a1,a2,h1,h2,h3⟩:=hr;exact⟨a1,a2,h1,fO h first _ h2,fO h bH _ h3⟩
 | .je ks cs,v,hr=>by
   simp only [af] at hr |-;obtain⟨b,es,ck,h1,h2,h3,h4,h5⟩:=hr;exact⟨b,es,ck,h1,(h b h2).1,(h b h2).2.trans h3,h4,fO h cs _ h5⟩
theorem fO {w w':World} {A A':Nat->Prop} {β:Nat->Value}(h:dC w w' A A'):∀(aK:List AV) (vs:List Value),ak w A β vs aK->ak w' A' β vs aK
 | [],_,hr=>by simpa only [ak] using hr
 |a::aK,vs,hr=>by
  simp only [ak] at hr |-;obtain⟨v,cK,h1,h2,h3⟩:=hr;exact⟨v,cK,h1,kD h a v h2,fO h aK cK h3⟩
end
theorem bh {k d:Nat}(h:¬k=d):Nat.beq k d=false :=by
 grind[Nat.eq_of_beq_eq_true]
theorem ek(k:Nat):Nat.beq k k=true :=Nat.beq_refl k
def cd(β:Nat->Value)(d:Nat)(v:Value):Nat->Value:=fun k=>if k=d then v else β k
mutual
theorem wK {w:World} {A:Nat->Prop} {β:Nat->Value}(d:Nat)(u:Value):∀(a:AV) (v:Value),af w A β v a->af w A (cd β d u) v (eI d a)
 | .dU,_,hr=>by simp [eI,af]
 | .undef,_,hr=>by simpa only [eI,af] using hr
 | .int _ _,_,hr=>by simpa only [eI,af] using hr
 | .bool _,_,hr=>by simpa only [eI,af] using hr
 | .tt,_,hr=>by simpa only [eI,af] using hr
 | .ff,_,hr=>by simpa only [eI,af] using hr
 | .str _,_,hr=>by simpa only [eI,af] using hr
 | .nil,_,hr=>by simpa only [eI,af] using hr
 | .lp,_,hr=>by simpa only [eI,af] using hr
 | .rD _ _,_,hr=>by simpa only [eI,af] using hr
 | .lW,_,hr=>by simpa only [eI,af] using hr
 | .sl _ _,_,hr=>by simpa only [eI,af] using hr
 | .full _ _,_,hr=>by simpa only [eI,af] using hr
 | .iM _ _ _,_,hr=>by simpa only [eI,af] using hr
 | .sq _ _,_,hr=>by simpa only [eI,af] using hr
 | .own k,v,hr=>by
   simp only [eI];by_cases hk:k=d
   . subst hk;simp [af]
   . have :Nat.beq k d=false :=bh hk;simp only [this,Q!];simpa only [af,cd,N! hk] using hr
 | .pre k n,v,hr=>by
   simp only [eI];by_cases hk:k=d
   . subst hk;simp [af]
   . have :Nat.beq k d=false :=bh hk;simp only [this,Q!];simpa only [af,cd,N! hk] using hr
 | .view k sz off n,v,hr=>by
   simp only [eI];by_cases hk:k=d
   . subst hk;simp [af]
   . have :Nat.beq k d=false :=bh hk;simp only [this,Q!];simpa only [af,cd,N! hk] using hr
 | .ref k off,v,hr=>by
   simp only [eI];by_cases hk:k=d
   . subst hk;simp [af]
   . have :Nat.beq k d=false :=bh hk;simp only [this,Q!];simpa only [af,cd,N! hk] using hr
 | .elem k sz i j,v,hr=>by
   simp only [eI];by_cases hk:k=d
   . subst hk;simp [af]
   . have :Nat.beq k d=false :=bh hk;simp only [this,Q!];simpa only [af,cd,N! hk] using hr
 | .agg cs,v,hr=>by
   simp only [eI,af] at hr |-;obtain⟨arr,h1,h2⟩:=hr;exact⟨arr,h1,iG d u cs _ h2⟩
 | .bA cs,v,hr=>by
   simp only [eI,af] at hr |-;obtain⟨arr,h1,h2⟩:=hr;exact⟨arr,h1,iG d u cs _ h2⟩
 | .fn f first bH,v,hr=>by
   simp only [eI,af] at hr |-;obtain⟨a1,a2,h1,h2,h3⟩:=hr;exact⟨a1,a2,h1,iG d u first _ h2,iG d u bH _ h3⟩
 | .je ks cs,v,hr=>by
   simp only [eI,af] at hr |-;obtain⟨b,es,ck,h1,h2,h3,h4,h5⟩:=hr;exact⟨b,es,ck,h1,h2,h3,h4,iG d u cs _ h5⟩
theorem iG {w:World} {A:Nat->Prop} {β:Nat->Value}(d:Nat)(u:Value):∀(aK:List AV) (vs:List Value),ak w A β vs aK->ak w A (cd β d u) vs (gz d aK)
 | [],_,hr=>by simpa only [gz,ak] using hr
 |a::aK,vs,hr=>by
  simp only [gz,ak] at hr |-;obtain⟨v,cK,h1,h2,h3⟩:=hr;exact⟨v,cK,h1,wK d u a v h2,iG d u aK cK h3⟩
end
theorem U0 {w:World} {A:Nat->Prop} {β aS:Nat->Value}(h:∀k,aS k=β k) {v:Value} {a:AV}(hr:af w A β v a):af w A aS v a:=by
 simp_all[funext]
theorem BE {w:World} {A:Nat->Prop}:∀(new:List (Nat×AB)) (β aS:Nat->Value) (v:Value) (a:AV),(∀k,ay new k=none->aS k=β k)->af w A β v a->af w A aS v (qo new a)
 | [],β,aS,v,a,h,hr=>by
   grind[qo,U0,ay]
 |(d,b)::r,β,aS,v,a,h,hr=>by
  refine BE r (cd β d (aS d)) aS v (eI d a) (fun k hk=> ?_) (wK d (aS d) a v hr);by_cases hkd:k=d
  . grind[cd]
  simp_all[cd,N!,ay,bh,Q!]
def ye(new:List (Nat×AB))(cs:List AV):List AV:=match new with
 | []=>cs
 |(k,_)::r=>ye r (gz k cs)
theorem yf {w:World} {A:Nat->Prop}:∀(new:List (Nat×AB)) (β aS:Nat->Value) (vs:List Value) (aK:List AV),(∀k,ay new k=none->aS k=β k)->ak w A β vs aK->ak w A aS vs (ye new aK)
 | [],β,aS,v,a,h,hr=>by
   simp_all[ye,funext,ay]
 |(d,b)::r,β,aS,v,a,h,hr=>by
  refine yf r (cd β d (aS d)) aS v (gz d a) (fun k hk=> ?_) (iG d (aS d) a v hr);by_cases hkd:k=d
  . grind[cd]
  simp_all[cd,N!,ay,bh,Q!]
theorem yg:∀(new:List (Nat×AB)) (cs:List AV),dF new (.cells cs)= .cells (ye new cs)
 | [],_=>rfl
 |(k,_)::r,cs=>by simp [dF,qn,ye,yg r]
theorem mD:∀(new:List (Nat×AB)) (e:Nat) (row:List Ty) (l:List (Row row)) (fr:Bool),dF new (.row e row l fr)= .row e row l fr
 | [],_,_,_,_=>rfl
 |(k,_)::r,e,row,l,fr=>by simp [dF,qn,mD r]
theorem DJ:∀(new:List (Nat×AB)) (row:List Ty) (l:List (Row row)),dF new (.arr row l)= .arr row l
 | [],_,_=>rfl
 |(k,_)::r,row,l=>by simp [dF,qn,DJ r]
def oS(new:List (Nat×AB))(j:Option Nat):Option Nat:=match new with
 | []=>j
 |(k,_)::r=>oS r (wG k j)
theorem yh:∀(new:List (Nat×AB)) (e:Nat) (j:Option Nat) (n m sz:Nat),dF new (.views e j n m sz)= .views e (oS new j) n m sz
 | [],_,_,_,_,_=>rfl
 |(k,_)::r,e,j,n,m,sz=>by simp [dF,qn,oS,yh r]
theorem DK:∀(new:List (Nat×AB)) (e:Nat) (j:Option Nat) (row:List Ty) (l:List (Row row)) (i:Nat),dF new (.jc e j row l i)= .jc e (oS new j) row l i
 | [],_,_,_,_,_=>rfl
 |(k,_)::r,e,j,row,l,i=>by simp [dF,qn,oS,DK r]
theorem uP:∀(new:List (Nat×AB)),oS new none=none
 | []=>rfl
 |(k,_)::r=>by simp [oS,wG,uP r]
theorem uQ:∀(new:List (Nat×AB)) (j:Option Nat) (j':Nat),oS new j=some j'->j=some j'/\ay new j'=none
 | [],j,j',h=>⟨h,rfl⟩
 |(k,_)::r,none,j',h=>by grind[uP]
 |(k,_)::r,some i,j',h=>by
  simp [oS,wG] at h;cases hb:Nat.beq i k with
  |true=>simp_all[L!,uP]
  |false=>
   rw [hb] at h;obtain⟨h1,h2⟩:=uQ r (some i) j' h;simp at h1;subst h1;exact⟨rfl,by simp_all[ay,Q!]⟩
theorem yi {w w':World} {A A':Nat->Prop} {β aS:Nat->Value} {v:Value} {j sz off n:Nat}(h:aS j=β j)(hr:af w A β v (.view j sz off n)):af w' A' aS v (.view j sz off n):=by
 grind[af]
theorem iH {w w':World} {e size n:Nat} {v:Value} {xs:List Value}(h:w.ownsRow 0 e size v n xs)(hb:∀b,aB v=some b->w'.heap[b]? =w.heap[b]?):w'.ownsRow 0 e size v n xs:=by
 refine⟨h.1,?_⟩;rcases h.2 with hn|⟨g,cap,cur,rfl,h0,hg,rest⟩
 . grind
 . refine .inr ⟨g,cap,cur,rfl,h0,?_,rest⟩;rw [hb g rfl];omega
theorem yj {w w':World} {A A':Nat->Prop} {β aS:Nat->Value} {new:List (Nat×AB)} {k:Nat} {ab:AB}(cY:∀k,ay new k=none->aS k=β k)(hk:aS k=β k)
  (hblk:∀b,aB (β k)=some b->w'.heap[b]? =w.heap[b]? /\(A' b->A b)) (hK:dC w w' A A') (h:BR w A β k ab):BR w' A' aS k (dF new ab):=by
 cases ab with
 |cells cs=>
  rw [yg];obtain⟨b,arr,e,h1,h2,h3,h4,h5⟩:=h;have hb:=hblk b (by rw [h1];rfl);exact⟨b,arr,e,hk.trans h1,hb.1.trans h2,fun hA=>h3 (hb.2 hA),yf new β aS _ _ cY (fO hK _ _ h4),h5⟩
 |row e row l fr=>
  rw [mD];obtain⟨xs,h1,h2,h3⟩:=h;simp [BR,hk];refine⟨xs,iH h1 (fun b hb=>(hblk b hb).1),bZ (fun c x hx=>b4 hK row c x hx) l xs h2,fun b hb=> ?_⟩;have :=h3 b hb;cases fr with
  |true=>exact(hK b this).1
  |false=>grind
 |arr row l=>
  rw [DJ];obtain⟨b,arr,e,h1,h2,h3,h4⟩:=h;have hb:=hblk b (by rw [h1];rfl);exact⟨b,arr,e,hk.trans h1,hb.1.trans h2,fun hA=>h3 (hb.2 hA),bZ (fun c x hx=>b4 hK row c x hx) l _ h4⟩
 |views e j n m sz=>
  rw [yh];obtain⟨xs,h1,h2,h3⟩:=h;simp [BR,hk];refine⟨xs,iH h1 (fun b hb=>(hblk b hb).1),fun b hb hA=>h2 b hb ((hblk b hb).2 hA),fun j' lU i hi=> ?_⟩;obtain⟨hj,hC⟩:=uQ new j j' lU;grind[yi]
 |jc e j row l i=>
  grind[DK,BR,iH,bZ,b4,uQ]
def nr(st:St)(out:Out)(k:Nat):Prop :=(st.h k).isSome/\((ay out.jq k).isSome\/aM out.del k=true)
theorem aJ.cR {C:Ctx} {A A':Nat->Prop} {β aS:Nat->Value} {st:St} {a:Act} {w w':World} {out:Out} {d:Option Nat} {v:Value}
  (hB:aJ C A β st a w) (hd:∀t,d=some t->t<st.n)
  (FG:∀k b,ay out.new k=some b->st.h k=none/\rK k=false)
  (FH:∀k b,ay out.jq k=some b->(st.h k).isSome)
  (cY:∀k,ay out.new k=none->aS k=β k)
  (hK:dC w w' A A')
  (hos:w'.os=w.os) (U1:w'.tape=w.tape) (tS:w'.output=w.output) (oT:w.heap.size<=w'.heap.size)
  (yk:∀b,b<w.heap.size->(∀k,nr st out k->aB (β k)≠some b)->w'.heap[b]? =w.heap[b]?)
  (hbound:∀b,A' b->b<w'.heap.size)
  (hA:∀b,A' b->A b\/w.heap.size<=b\/∃k,nr st out k/\aB (β k)=some b)
  (Jz:∀k ab,ay out.jq k=some ab->aM out.del k=false->BR w' A' aS k (BD out k ab))
  (hC:∀k ab,ay out.new k=some ab->BR w' A' aS k ab)
  (yl:∀k b ab,ay out.new k=some ab->aB (aS k)=some b->w.heap.size<=b\/∃k0,aM out.del k0=true/\(st.h k0).isSome/\aB (β k0)=some b)
  (Cv:∀k k' b,(ay out.new k).isSome->(ay out.new k').isSome->aB (aS k)=some b->aB (aS k')=some b->k=k')
  (vC:af w' A' aS v out.res):aJ C A' aS (st.put d out) (a.put d v) w':=by
 have kU:∀k b,(st.h k).isSome->aB (β k)=some b->b<w.heap.size:=by
  intro k b hk hb;obtain⟨ab,mE⟩:=T!.1 hk;have iu:=hB.blocks k ab mE;cases ab with
  |arr row l=>
   obtain⟨b',arr,e,h1,h2,_⟩:=iu;grind[aB,Option.some.injEq,Array.getElem?_eq_some_iff]
  |cells cs=>
   obtain⟨b',arr,e,h1,h2,_⟩:=iu;grind[aB,Option.some.injEq,Array.getElem?_eq_some_iff]
  |row e row l fr=>
   obtain⟨xs,h1,_⟩:=iu;rcases h1.2 with⟨hn,_⟩|⟨g,cap,cur,hv,_,hg,_⟩
   . grind[aB]
   grind[aB,Option.some.injEq,Array.getElem?_eq_some_iff]
  |jc e j row l i=>
   obtain⟨xs,v0,h1,_⟩:=iu;rcases h1.2 with⟨hn,_⟩|⟨g,cap,cur,hv,_,hg,_⟩
   . rw [hn] at hb;simp [aB] at hb
   . rw [hv] at hb;simp only [aB,A!] at hb;subst hb;exact(E?.1 hg).1
  |views e j n m sz=>
   obtain⟨xs,h1,_⟩:=iu;rcases h1.2 with⟨hn,_⟩|⟨g,cap,cur,hv,_,hg,_⟩
   . rw [hn] at hb;simp [aB] at hb
   . rw [hv] at hb;simp only [aB,A!] at hb;subst hb;exact(E?.1 hg).1
 have ahq:∀k FI,(st.put d out).h k=some FI->(∃ab,ay out.new k=some ab/\ab=FI)\/(ay out.new k=none/\aM out.del k=false/\
   ((∃ab,ay out.jq k=some ab/\FI=BD out k ab)\/(ay out.jq k=none/\∃ab,st.h k=some ab/\FI=dF out.new ab))):=by
  intro k FI hk;simp only [St.put,Jy] at hk;cases hn:ay out.new k with
  |some ab=>simp only [hn,A!] at hk;exact .inl ⟨ab,rfl,hk⟩
  |none=>
   simp only [hn] at hk;cases ayY:aM out.del k with
   |true=>simp [ayY] at hk
   |false=>
    simp only [ayY,Q!] at hk;cases hu:ay out.jq k with
    |some ab=>simp only [hu,A!] at hk;exact .inr ⟨rfl,rfl, .inl ⟨ab,rfl,hk.symm⟩⟩
    |none=>
     simp only [hu] at hk;cases hs:st.h k with
     |none=>simp [hs] at hk
     |some ab=>simp only [hs,A!] at hk;exact .inr ⟨rfl,rfl, .inr ⟨rfl,ab,rfl,hk.symm⟩⟩
 have gJ:∀k,((st.put d out).h k).isSome->(ay out.new k).isSome\/(ay out.new k=none/\aM out.del k=false/\(st.h k).isSome):=by
  intro k hk;obtain⟨FI,aHq⟩:=T!.1 hk;rcases ahq k FI aHq with⟨ab,h,_⟩|⟨h1,h2,⟨ab,h,_⟩|⟨_,ab,h,_⟩⟩
  . exact .inl (by simp [h])
  . exact .inr ⟨h1,h2,FH k ab h⟩
  . exact .inr ⟨h1,h2,by simp [h]⟩
 have ayZ:∀v a,af w A β v a->af w' A' aS v (qo out.new a):=fun v a h=>BE out.new β aS v a cY (kD hK a v h)
 refine⟨?_,?_,?_,?_,?_,hbound,?_,?_,?_,?_,hB.uO,fun i d hd=>(hB.laid i d hd).mono hK,fun k hk=>by
  rw [cY k (by
   cases hn:ay out.new k with
   |none=>rfl
   |some ab=>rw [(FG k ab hn).2] at hk;cases hk)]
  exact hB.held k hk⟩
 . cases d<;>exact hB.defers
 . cases d with
   |none=>exact hB.size
   |some t=>show(a.put (some t) v).tmps.size=st.n;simp [Act.put,hB.size]
 . intro i;cases d with
   |none=>exact ayZ _ _ (hB.tmps i)
   |some t=>
    have ht:=hd t rfl;simp only [St.put,Act.put];by_cases hi:i=t
    . subst hi;simp only [ek,L!];rw [G?,Array.getElem?_setIfInBounds_self_of_lt (by rw [hB.size];exact ht)];exact vC
    . simp only [bh hi,Q!];have :=ayZ _ _ (hB.tmps i);rw [G?,Array.getElem?_setIfInBounds_ne (fun h=>hi h.symm),<-G?];exact this
 . intro k FI hk;rcases ahq k FI hk with⟨ab,h,rfl⟩|⟨h1,h2,⟨ab,h,rfl⟩|⟨h3,ab,h,rfl⟩⟩
   . exact hC k _ h
   . exact Jz k ab h h2
   . have Pu:=hB.blocks k ab h;refine yj cY (cY k h1) (fun b hb=> ?_) hK Pu
     have hnt:∀k',nr st out k'->aB (β k')≠some b:=by
      intro k' ht fv;have :k'=k:=hB.apart k' k b ht.1 (by simp [h]) fv hb;subst this;rcases ht.2 with hu|hu
      . simp [h3] at hu
      . simp [h2] at hu
     refine⟨yk b (kU k b (by simp [h]) hb) hnt,fun JA=> ?_⟩;rcases hA b JA with hh|hh|⟨k',ht,fv⟩
     . exact hh
     . exact absurd (kU k b (by simp [h]) hb) w!
     . exact absurd fv (hnt k' ht)
 . intro k k' b hk gg hb fv;rcases gJ k hk with h1|⟨h1,h2,h3⟩<;>rcases gJ k' gg with g1|⟨g1,g2,g3⟩
   . exact Cv k k' b h1 g1 hb fv
   . obtain⟨ab,mE⟩:=T!.1 h1;rw [cY k' g1] at fv;rcases yl k b ab mE hb with hh|⟨k0,hd0,Pv,Pw⟩
     . exact absurd (kU k' b g3 fv) w!
     . have :k0=k':=hB.apart k0 k' b Pv g3 Pw fv;subst this;rw [hd0] at g2;cases g2
   . obtain⟨ab,mE⟩:=T!.1 g1;rw [cY k h1] at hb;rcases yl k' b ab mE fv with hh|⟨k0,hd0,Pv,Pw⟩
     . exact absurd (kU k b h3 hb) w!
     . have :k0=k:=hB.apart k0 k b Pv h3 Pw hb;subst this;rw [hd0] at h2;cases h2
   . rw [cY k h1] at hb;rw [cY k' g1] at fv;exact hB.apart k k' b h3 g3 hb fv
 . refine⟨hos.trans hB.frame.os,U1.trans hB.frame.tape,tS.trans hB.frame.output,f? hB.frame.size oT,fun b hb hM=> ?_⟩;rw [yk b (Y? hb hB.frame.size) (fun k ht Pu=> ?_)]
   . exact hB.frame.block b hb hM
   . rcases hB.qI k b ht.1 Pu with h|h
     . omega
     . exact hM h
 . intro b hb JA;rcases hA b JA with hh|hh|⟨k,ht,Pu⟩
   . exact hB.nh b hb hh
   . exact absurd hB.frame.size w!
   . rcases hB.qI k b ht.1 Pu with h|h
     . omega
     . exact .inr h
 . exact fun b hb=>(hK b (hB.base b hb)).1
 . intro k b hk hb;rcases gJ k hk with h1|⟨h1,h2,h3⟩
   . obtain⟨ab,mE⟩:=T!.1 h1;rcases yl k b ab mE hb with hh|⟨k0,hd0,Pv,Pw⟩
     . exact .inl (f? hB.frame.size hh)
     . exact hB.qI k0 b Pv Pw
   . rw [cY k h1] at hb;exact hB.qI k b h3 hb
theorem aJ.step {C:Ctx} {A A':Nat->Prop} {β aS:Nat->Value} {st:St} {a:Act} {w w':World} {out:Out} {d:Option Nat} {v:Value}
  (hB:aJ C A β st a w) (hd:∀t,d=some t->t<st.n)
  (FG:∀k b,ay out.new k=some b->st.h k=none/\rK k=false)
  (FH:∀k b,ay out.jq k=some b->(st.h k).isSome)
  (cY:∀k,ay out.new k=none->aS k=β k)
  (hK:dC w w' A A')
  (hos:w'.os=w.os) (U1:w'.tape=w.tape) (tS:w'.output=w.output) (oT:w.heap.size<=w'.heap.size)
  (yk:∀b,b<w.heap.size->(∀k,nr st out k->aB (β k)≠some b)->w'.heap[b]? =w.heap[b]?)
  (hbound:∀b,A' b->b<w'.heap.size)
  (hA:∀b,A' b->A b\/w.heap.size<=b\/∃k,nr st out k/\aB (β k)=some b)
  (Jz:∀k ab,ay out.jq k=some ab->aM out.del k=false->BR w' A' aS k (dF out.new ab))
  (hC:∀k ab,ay out.new k=some ab->BR w' A' aS k ab)
  (yl:∀k b ab,ay out.new k=some ab->aB (aS k)=some b->w.heap.size<=b\/∃k0,aM out.del k0=true/\(st.h k0).isSome/\aB (β k0)=some b)
  (Cv:∀k k' b,(ay out.new k).isSome->(ay out.new k').isSome->aB (aS k)=some b->aB (aS k')=some b->k=k')
  (vC:af w' A' aS v out.res) (hr:out.raw= []:=by rfl):aJ C A' aS (st.put d out) (a.put d v) w':=
 hB.cR hd FG FH cY hK hos U1 tS oT yk hbound hA (fun k ab h1 h2=>by
  grind[BD,dF,aM]) hC yl Cv vC
end Go.Vg

end
section
namespace Go.Vg
open Go
def U2(P:Program)(t:TypeId):TypeDesc->Prop
 | .struct fs=>P.stoodInHeld t=false/\P.eqGuardType P.depth t=false/\(fs.toList.all fun f=>f.name != "_")=true
 |_=>True
structure bD (T:cJ) (P:Program):Prop where
 ok:∀t te,T.find t=some te->P.underlying t=some te.desc/\∃i,P.info? t=some i/\i.size=te.size/\i.bytes=te.bytes/\i.zero=some te.zero
 held:∀t te,T.find t=some te->U2 P t te.desc
section
variable {P:Program} {C:Ctx} {A:Nat->Prop} {β:Nat->Value} {st:St} {a:Act} {w:World}
theorem dM {o:Oper} {K:Act->World->Prop} {Q:Exit->Act->World->Prop} {v:Value} {w':World}(h:(execOp a.eval o).run P w= .ok (.value v) w')(hk:K (a.put o.dst v) w'):o.wp P a w K Q:=by
 unfold Oper.wp;rw [h];exact hk
theorem vD {o:Oper} {K:Act->World->Prop} {Q:Exit->Act->World->Prop} {w':World}(h:(execOp a.eval o).run P w= .ok .skip w')(hk:K (a.put o.dst undef) w'):o.wp P a w K Q:=by
 unfold Oper.wp;rw [h];exact hk
theorem RO(v:Value):af w A β v (As v):=by
 unfold As;split
 . split
   . simp_all[af,trivial]
   grind[af]
 . grind[af]
 . rename_i s;cases hb:Nat.ble s.data.toList.length 1000000 with
   |false=>simp [af]
   |true=>
    have :=Nat.le_of_ble_eq_true hb;simp only [cond_true,af];grind[maxLen]
 . rfl
 . rfl
 . rfl
 grind[af]
theorem G8(f:Value->AV)(hf:∀v,af w A β v (f v)):∀(vs:List Value),ak w A β vs (vs.map f)
 | []=>by rfl
 |v::vs=>by
  exact⟨v,vs,rfl,hf v,G8 f hf vs⟩
theorem wL(v:Value):af w A β v (ofConst v):=by
 unfold ofConst;grind[af,G8,RO]
theorem bk(hB:aJ C A β st a w)(x:Operand):af w A β (a.eval x) (ev st x):=by
 cases x with
 |tmp i=>exact hB.tmps i
 |const v=>exact wL v
 |global g=>
  simp [ev,Act.eval];cases hg:st.g g with
  |none=>simp [af]
  |some d=>
   obtain⟨h1,cs,h2,h3⟩:=hB.laid g d (hB.uO g d hg);grind[af]
 |func f=>
  exact⟨#[], #[],rfl,by rfl,by rfl⟩
theorem dC.refl(w:World)(A:Nat->Prop):dC w w A A:=fun _ h=>⟨h,rfl⟩
theorem aJ.pure(hB:aJ C A β st a w) {d:Option Nat}(hd:∀t,d=some t->t<st.n) {c:List Prop} {r:AV} {v:Value}(h:af w A β v r):
  aJ C A β (st.put d {cond:=c,res:=r}) (a.put d v) w:=
 hB.step (out:= {cond:=c,res:=r}) hd (by simp [ay]) (by simp [ay]) (fun _ _=>rfl) (dC.refl w A) rfl rfl rfl (O! _) (fun _ _ _=>rfl) hB.bound
  (fun b h=> .inl h) (by simp [ay]) (by simp [ay]) (by simp [ay]) (by simp [ay]) h
theorem Rel.ni {A:Nat->Prop} {β:Nat->Value}(h:aJ C A β st a w):Rel C st a w:=⟨A,β,h⟩
theorem wM(b:Bool) {v:Value}:∀(x y:AV),(if b then af w A β v x else af w A β v y)->af w A β v (DB b x y):=by
 intro x y h
 have hb:∀x y p q,tP x=some p->tP y=some q->(if b then af w A β v x else af w A β v y)->af w A β v (.bool (bif b then p else q)):=by
  intro x y p q hx hy h;cases b<;>cases x<;>simp_all [tP,af]<;>cases y<;>simp_all [af]
 unfold DB;split
 . grind[af]
 . grind
 . grind[gu,af,Ty.lX,Option.some.injEq]
 . cases b with
   |true=>grind
   |false=>
    simp only [af,H?,h?] at h;simp only [af,Rd,Q!];exact⟨none,0,[],w!,z!,z!,by rfl,z!⟩
 . cases b with
   |false=>grind
   |true=>
    simp only [af,K?] at h;simp only [af,Rd,L!];exact⟨none,0,[],w!,z!,z!,by rfl,z!⟩
 . grind
 . grind
 . grind[Nat.beq,af,Nat.eq_of_beq_eq_true]
 grind[af]
theorem eJ:∀(aK:List AV) (vs:List Value),ak w A β vs aK->vs.length=aK.length
 | [],vs,h=>by grind[ak]
 |a::aK,vs,h=>by
  obtain⟨v,cK,rfl,_,h2⟩:=h;simp [eJ aK cK h2]
theorem jE(b:Bool):∀(xs ys:List AV) (vs:List Value),xs.length=ys.length->(if b then ak w A β vs xs else ak w A β vs ys)->ak w A β vs (sd b xs ys)
 | [],[],vs,_,h=>by grind[sd]
 |x::xs,y::ys,vs,hl,h=>by
  cases b with
  |true=>
   obtain⟨v,cK,rfl,h1,h2⟩:=h;exact⟨v,cK,rfl,wM true x y (by simpa using h1),jE true xs ys cK (by simpa using hl) (by simpa using h2)⟩
  |false=>
   obtain⟨v,cK,rfl,h1,h2⟩:=h;exact⟨v,cK,rfl,wM false x y (by simpa using h1),jE false xs ys cK (by simpa using hl) (by simpa using h2)⟩
 | [],_::_,_,hl,_=>by grind
 |_::_,[],_,hl,_=>by grind
theorem BF(b:Bool) {v:Value}(x y:AV)(h:if b then af w A β v x else af w A β v y):af w A β v (DC b x y):=by
 unfold DC;split
 . rename_i xs ys;cases hl:Nat.beq xs.length ys.length with
   |false=>simp [af]
   |true=>
    have hl:=D! hl;simp [L!,af];cases b with
    |true=>
     simp [if_true,af] at h;grind[jE]
    |false=>
     simp [Bool.false_eq_true,if_false,af] at h;grind[jE]
 . rename_i xs ys;cases hl:Nat.beq xs.length ys.length with
   |false=>simp [af]
   |true=>
    have hl:=D! hl;simp [L!,af];cases b with
    |true=>
     simp [if_true,af] at h;grind[jE]
    |false=>
     simp [Bool.false_eq_true,if_false,af] at h;grind[jE]
 grind[wM]
end
end Go.Vg

end
section
namespace Go.Vg
open Go
section
variable {P:Program} {C:Ctx} {A:Nat->Prop} {β:Nat->Value} {st:St} {a:Act} {w:World} {T:cJ}
theorem iI:∀(ts:List Ty) (vs:List Value) (x:Row ts),bT w A ts vs x->vs.length=ts.length
 | [],vs,_,h=>by grind[bT]
 |t::ts,vs,x,h=>by
  obtain⟨v,cK,rfl,_,h2⟩:=h;simp [iI ts cK _ h2]
theorem gi {row:List Ty}:∀(l:List (Row row)) (cs:List Value),eu (bT w A row) cs l->cs.length=l.length*row.length
 | [],cs,h=>by grind[eu]
 |x::l,cs,⟨c1,c2,hc,h1,h2⟩=>by
  subst hc;simp [iI row c1 x h1,gi l c2 h2,j?,Nat.add_comm]
theorem sw {row:List Ty}:∀(l:List (Row row)) (cs:List Value) (i:Nat) (hi:i<l.length),eu (bT w A row) cs l->
  ∃c1 c c2,cs=c1++(c++c2)/\c1.length=i*row.length/\bT w A row c l[i]/\eu (bT w A row) c1 (l.take i)/\eu (bT w A row) c2 (l.drop (i+1))
 | [],_,_,hi,_=>by grind
 |x::l,cs,0,_,⟨c1,c2,hc,h1,h2⟩=>⟨[],c1,c2,x!,z!,x!,by rfl,x!⟩
 |x::l,cs,i+1,hi,⟨c1,c2,hc,h1,h2⟩=>by
  obtain⟨d1,d,d2,e1,e2,e3,e4,e5⟩:=sw l c2 i x! h2;subst hc;subst e1;exact⟨c1++d1,d,d2,z!,by grind[iI,Nat.add_mul,Nat.add_comm],by simpa using e3,⟨c1,d1,rfl,h1,e4⟩,by simpa using e5⟩
theorem jr {α:Type} {R:List Value->α->Prop}:∀(l m:List α) (cs ds:List Value),eu R cs l->eu R ds m->eu R (cs++ds) (l++m)
 | [],m,cs,ds,h,h'=>by grind[eu]
 |x::l,m,cs,ds,⟨c1,c2,hc,h1,h2⟩,h'=>by
  subst hc;exact⟨c1,c2++ds,z!,h1,jr l m c2 ds h2 h'⟩
theorem fw {row:List Ty}:∀(l:List (Row row)) (cs:List Value) (i:Nat),eu (bT w A row) cs l->
  eu (bT w A row) (cs.take (i*row.length)) (l.take i)/\eu (bT w A row) (cs.drop (i*row.length)) (l.drop i)
 | [],cs,i,h=>by grind[eu]
 |x::l,cs,0,h=>by grind[eu]
 |x::l,cs,i+1,⟨c1,c2,hc,h1,h2⟩=>by
  subst hc;have hl:=iI row c1 x h1;have ih:=fw l c2 i h2;have e:(i+1)*row.length=c1.length+i*row.length:=by grind
  rw [e];refine⟨⟨c1,c2.take (i*row.length),?_,h1,ih.1⟩,?_⟩
  . grind
  . rw [List.drop_length_add_append];grind
theorem wN {b o:Nat} {c1 c c2:List Value}(h:w.rangeAt b o (c1++(c++c2))):w.rangeAt b (o+c1.length) c:=by
 intro j v hj
 have :=h (c1.length+j) v (by
  grind)
 grind
theorem qq {b o n:Nat} {cs:List Value}(h:w.rangeAt b o cs):w.rangeAt b (o+n) (cs.drop n):=by
 intro j v hj;have :=h (n+j) v x!;grind
theorem jF {b o n:Nat} {cs:List Value}(h:w.rangeAt b o cs):w.rangeAt b o (cs.take n):=by
 intro j v hj;refine h j v ?_;grind
theorem RP:∀(t:Ty) (v:Value) (x:D t),Rd w A t v x->af w A β v (Dw t x)
 | .int k,v,x,h=>by grind[Dw,af,Rd]
 | .bool,v,x,h=>by grind[Dw,af,Rd]
 | .str,v,x,h=>by grind[Dw,af,Rd]
 | .slice row,v,x,h=>by grind[Dw,af]
theorem l6:∀(ts:List Ty) (vs:List Value) (x:Row ts),bT w A ts vs x->ak w A β vs (aF ts x)
 | [],vs,_,h=>by grind[aF,ak,bT]
 |t::ts,vs,x,h=>by
  obtain⟨v,cK,rfl,h1,h2⟩:=h;exact⟨v,cK,rfl,RP t v _ h1,l6 ts cK _ h2⟩
theorem oU:∀(ts:List Ty) (x:Row ts),(aF ts x).length=ts.length
 | [],_=>rfl
 |t::ts,x=>by simp [aF,oU ts]
theorem lz:∀(aK:List AV) (vs:List Value) (n:Nat),ak w A β vs aK->ak w A β (vs.take n) (aK.take n)/\ak w A β (vs.drop n) (aK.drop n)
 | [],vs,n,h=>by grind[ak]
 |a::aK,vs,0,h=>by grind[ak]
 |a::aK,vs,n+1,h=>by
  obtain⟨v,cK,rfl,h1,h2⟩:=h;have ih:=lz aK cK n h2;exact⟨⟨v,_,rfl,h1,ih.1⟩,ih.2⟩
theorem tT:∀(aK:List AV) (vs:List Value) (i:Nat) (r:AV),ak w A β vs aK->aK[i]? =some r->∃v,vs[i]? =some v/\af w A β v r
 | [],vs,i,r,h,hr=>by grind
 |a::aK,vs,0,r,h,hr=>by
  grind[ak]
 |a::aK,vs,i+1,r,h,hr=>by
  obtain⟨v,cK,rfl,h1,h2⟩:=h;obtain⟨u,hu,nX⟩:=tT aK cK i r h2 (by simpa using hr);exact⟨u,by simpa using hu,nX⟩
theorem Nb(d:TypeDesc):d.mB=d.isRow:=by rfl
theorem nY(hT:bD T P) {t:TypeId} {te:TE}(ht:T.find t=some te) {cs:List Value} {aK:List AV}(hrel:ak w A β cs aK) {off:Nat} {r:AV}(hp:pick te aK off=some r)
  {b o:Nat} (hr:w.rangeAt b o cs):∃v,(Instr.loadAt t (.pointer (some ⟨b,o+off,none⟩))).run P w= .ok v w/\af w A β v r:=by
 obtain⟨hu,i,hi,hs,_,_⟩:=hT.ok t te ht;unfold pick at hp;cases RQ:te.desc.mB with
 |true=>
  simp [RQ,L!] at hp;cases hle:Nat.ble (off+te.size) aK.length with
  |false=>grind
  |true=>
   have hle:=M! hle;simp [hle,Nat.ble_eq_true_of_le,L!,A!] at hp;subst hp;have hlen:=eJ aK cs hrel;refine⟨.agg ((cs.drop off).take te.size).toArray,?_,?_⟩
   . refine run_loadAt_mid w b (o+off) t ((cs.drop off).take te.size) te.desc (jF (qq hr)) hu (by grind[Nb]) ?_;grind
   . exact⟨_,rfl,by simp_all[lz]⟩
 |false=>
  simp [RQ,Q!] at hp;obtain⟨v,hv,hrv⟩:=tT aK cs off r hrel hp;have hc:=hr off v hv
  have hia:(isAgg t).run P w= .ok false w:=by
   unfold isAgg;rw [Sem.run_bind,run_underlying hu w];cases hd:te.desc<;>simp_all [TypeDesc.mB]
  simp_all[Instr.loadAt,Instr.sureAddr,loadVar]
theorem fP(hT:bD T P) {t:TypeId} {n:Nat}(h:bC T t n=true):∃e i,P.underlying t=some (.slice e)/\P.info? e=some i/\i.size=n/\0<n:=by
 unfold bC tN at h;cases ht:T.find t with
 |none=>grind
 |some te=>
  simp [ht] at h;cases hd:te.desc with
  |slice e=>
   simp [hd] at h;cases he:T.find e with
   |none=>grind
   |some ee=>
    simp only [he,B!] at h;obtain⟨_,i,hi,hs,_⟩:=hT.ok e ee he;exact⟨e,i,by rw [(hT.ok t te ht).1,hd],hi,hs.trans (D! h.1),by simp_all⟩
  |_=>grind
theorem kW {t e:TypeId} {i:TypeInfo}(hu:P.underlying t=some (.slice e))(hi:P.info? e=some i)(b o len cap:Nat)(k:IntKind)(n:Int)(h0:0<=n)(h1:n<(len:Int)):
  (Instr.indexAt t (.slice (some ⟨b,o,none⟩) len cap) (.int k n)).run P w= .ok (.pointer (some ⟨b,o+n.toNat*i.size,none⟩)) w:=by
 simp [Instr.indexAt,asIntOf,run_underlying hu,sizeOf,typeInfo,hi,h0,h1,Addr.add_mid]
theorem NQ(hT:bD T P) {t:TypeId} {n sz:Nat}(h:Jt T t=some (n,sz)):∃e i,P.underlying t=some (.array n e)/\P.info? e=some i/\i.size=sz:=by
 unfold Jt at h;split at h
 . rename_i te nu;obtain⟨hu,_⟩:=hT.ok t te nu;split at h
   . rename_i k e hd;split at h
     . rename_i ee uR;obtain⟨_,i,hi,hs,_⟩:=hT.ok e ee uR;grind
     grind
   grind
 grind
theorem BG {t e:TypeId} {i:TypeInfo} {len:Nat}(hu:P.underlying t=some (.array len e))(hi:P.info? e=some i)(b o:Nat)(k:IntKind)(n:Int)(h0:0<=n)(h1:n<(len:Int)):
  (Instr.indexAt t (.pointer (some ⟨b,o,none⟩)) (.int k n)).run P w= .ok (.pointer (some ⟨b,o+n.toNat*i.size,none⟩)) w:=by
 simp [Instr.indexAt,Instr.sureAddr,asIntOf,run_underlying hu,sizeOf,typeInfo,hi,h0,h1,Addr.add_mid]
theorem ym:∀(xs ys:List AV) (us vs:List Value),ak w A β us xs->ak w A β vs ys->ak w A β (us++vs) (xs++ys)
 | [],ys,us,vs,h,g=>by
   grind[ak]
 |a::aK,ys,us,vs,h,g=>by
  obtain⟨v,FJ,rfl,h1,h2⟩:=h;exact⟨v,FJ++vs,rfl,h1,ym aK ys FJ vs h2 g⟩
theorem NR(row:List Ty):∀(l:List (Row row)) (cs:List Value),eu (bT w A row) cs l->ak w A β cs (l.flatMap (aF row))
 | [],cs,h=>by grind[eu,ak]
 |x::l,cs,⟨c1,c2,hc,h1,h2⟩=>by
  subst hc;exact ym _ _ _ _ (l6 row c1 x h1) (NR row l c2 h2)
theorem getD_eq {α:Type}(l:List α)(i:Nat)(d:α)(h:i<l.length):l.getD i d=l[i]:=by
 grind
theorem NS(row:List Ty)(l:List (Row row))(v:Value)(n:Int)(hR:Rd w A (.slice row) v l)(h0:0<=n)(h1:n<(l.length:Int)):
  row≠ []->∃b o cap,v= .slice (some ⟨b,o,none⟩) l.length cap/\af w A β (.pointer (some ⟨b,o+n.toNat*row.length,none⟩)) (.iM row (l.getD n.toNat (Row.zero row)) 0):=by
 intro lK;obtain⟨a,cap,cs,hv,_,_,hL,fx⟩:=hR;have hn:n.toNat<l.length:=by omega
 obtain⟨c1,c,c2,e1,e2,e3,_,_⟩:=sw l cs n.toNat hn hL;have hc:=iI row c _ e3
 have gI:cs≠ []:=by
  intro h;rw [h] at e1;have :=congrArg List.length e1;simp at this;exact lK (C? w!)
 obtain⟨b,o,ha,hA,hra⟩:=fx gI;refine⟨b,o,cap,by rw [hv,ha],?_⟩;refine⟨b,o+n.toNat*row.length,c,z!,hA,?_,?_⟩
 . rw [e1] at hra;have :=wN hra;rwa [e2] at this
 . rw [getD_eq l _ _ hn];exact e3
theorem tU(T:cJ)(h:bg)(t:TypeId)(n:Option Int)(x y:AV):sr T h t n x y=gA T h t x y:=by
 unfold sr;grind[gA,NO]
theorem fu {x:Prop} {l:List Prop}(h:∀p∈(x::l),p):x:=h _ (List.Mem.head _)
theorem ay0 {x y:Prop} {l:List Prop}(h:∀p∈(x::y::l),p):y:=h _ (List.Mem.tail _ (List.Mem.head _))
def Out.quiet(out:Out):Prop :=out.jq= []/\out.del= []/\out.new= []
theorem aJ.quiet(hB:aJ C A β st a w) {d:Option Nat}(hd:∀t,d=some t->t<st.n) {out:Out}(hq:out.quiet) {v:Value}(h:af w A β v out.res):
  aJ C A β (st.put d out) (a.put d v) w:=by
 obtain⟨c,r,u,dl,nw,rw'⟩:=out;obtain⟨h1,h2,h3⟩:=hq;subst h1 h2 h3;exact hB.pure (c:=c) hd h
def Reads(P:Program)(A:Nat->Prop)(β:Nat->Value)(w:World)(s:Sem Value)(out:Out):Prop :=out.quiet/\∃v,s.run P w= .ok v w/\af w A β v out.res
theorem ib(hB:aJ C A β st a w) {k e:Nat} {row:List Ty} {l:List (Row row)} {fr:Bool}(h:st.h k=some (.row e row l fr)):
  (β k= .slice none 0 0/\l= [])\/∃b cap cur,β k= .slice (some ⟨b,0,none⟩) l.length cap/\w.heap[b]? =some (.cells cur e (0,0))/\l.length<=cap/\cap<=maxLen/\cur.size=cap*row.length/\
    eu (bT w A row) (cur.toList.take (l.length*row.length)) l/\(if fr then A b else ¬A b):=by
 obtain⟨xs,h1,h2,h3⟩:=hB.blocks k _ h;rcases h1.2 with⟨hv,hn⟩|⟨g,cap,cur,hv,_,hg,h4,h5,h6,h7⟩
 . grind
 . exact .inr ⟨g,cap,cur,hv,hg,h4,h5,h6,x!,h3 g (by rw [hv];rfl)⟩
theorem FK(hT:bD T P)(hB:aJ C A β st a w) {t:TypeId} {x i:AV} {vx vi:Value}(hx:af w A β vx x)(hi:af w A β vi i) {out:Out}
  (h:gA T st.h t x i=some out) (hc:∀p∈out.cond,p):Reads P A β w (Instr.indexAt t vx vi) out:=by
 unfold gA at h;split at h
 . rename_i row l k n;cases hs:bC T t row.length with
   |false=>grind
   |true=>
    simp only [hs,cond_true,Option.some.injEq] at h;subst h;obtain⟨h0,h1⟩:=fu hc;obtain⟨e,ii,hu,mF,fj,mZ⟩:=fP hT hs;simp only [af] at hx hi;obtain⟨b,o,cap,hv,hr⟩:=NS (β:=β) row l vx n hx h0 h1 x!;refine⟨⟨rfl,rfl,rfl⟩,_,?_,hr⟩;grind[kW]
 . rename_i row l k n;cases hs:bC T t row.length with
   |false=>grind
   |true=>
    simp only [hs,cond_true,Option.some.injEq] at h;subst h;obtain⟨h0,h1⟩:=fu hc;obtain⟨e,ii,hu,mF,fj,mZ⟩:=fP hT hs;simp only [af] at hx hi;obtain⟨b,o,cap,hv,hr⟩:=NS (β:=β) row l vx n hx.1 h0 h1 x!;refine⟨⟨rfl,rfl,rfl⟩,_,?_,hr⟩;grind[kW]
 . rename_i k kk n;split at h
   . rename_i e' row l fr hk;cases hs:bC T t row.length with
     |false=>grind
     |true=>
      simp only [hs,L!,A!] at h;subst h;obtain⟨h0,h1⟩:=fu hc;obtain⟨e,ii,hu,mF,fj,mZ⟩:=fP hT hs;simp only [af] at hx hi;rcases ib hB hk with⟨_,hl⟩|⟨b,cap,cur,hv,_⟩
      . grind
      . refine⟨⟨rfl,rfl,rfl⟩, .pointer (some ⟨b,0+n.toNat*row.length,none⟩),?_,?_⟩
        . simp_all[hi,kW]
        grind[af]
   grind
 . rename_i k m kk n;split at h
   . rename_i e' row l fr hk;cases hs:bC T t row.length with
     |false=>grind
     |true=>
      simp only [hs,L!,A!] at h;subst h;obtain⟨h0,h1⟩:=fu hc;obtain⟨e,ii,hu,mF,fj,mZ⟩:=fP hT hs;simp only [af] at hx hi;rcases hx with⟨_,_,hl⟩|⟨b,mm,cap,hv,RR,_⟩
      . omega
      . refine⟨⟨rfl,rfl,rfl⟩, .pointer (some ⟨b,0+n.toNat*row.length,none⟩),?_,?_⟩
        . simp_all[hi,kW]
        grind[af]
   grind
 . rename_i k sz off m kk n;cases hs:bC T t sz with
   |false=>grind
   |true=>
    simp only [hs,L!,A!] at h;subst h;obtain⟨h0,h1⟩:=fu hc;obtain⟨e,ii,hu,mF,fj,mZ⟩:=fP hT hs;simp only [af] at hx hi;rcases hx with⟨hm,_⟩|⟨b,mm,cap,l4,hv,RR,_⟩
    . omega
    . refine⟨⟨rfl,rfl,rfl⟩, .pointer (some ⟨b,off*sz+n.toNat*sz,none⟩),?_,?_⟩
      . grind[kW]
      grind[af,Nat.add_mul]
 . rename_i row l k n;split at h
   . rename_i m sz ha;cases hb:Nat.beq sz row.length with
     |false=>grind
     |true=>
      rw [hb] at h;simp only [L!,A!] at h;subst h;have hm:=fu hc;have hz:=D! hb;obtain⟨h0,h1⟩:=ay0 hc;obtain⟨e,ii,hu,mF,fj⟩:=NQ hT ha;simp only [af] at hx hi;obtain⟨b,o,cs,rfl,hA,hr,hL⟩:=hx;have hn:n.toNat<l.length:=by omega
      obtain⟨c1,c,c2,e1,e2,e3,_,_⟩:=sw l cs n.toNat hn hL;refine⟨⟨rfl,rfl,rfl⟩, .pointer (some ⟨b,o+n.toNat*row.length,none⟩),?_,?_⟩
      . grind[BG]
      grind[af,wN,getD_eq]
   grind
 . rename_i k off kk n;split at h
   . rename_i m sz ha;simp only [A!] at h;subst h;obtain⟨h0,h1⟩:=fu hc;obtain⟨e,ii,hu,mF,fj⟩:=NQ hT ha;simp only [af] at hx hi;obtain⟨b,cY,rfl⟩:=hx;refine⟨⟨rfl,rfl,rfl⟩, .pointer (some ⟨b,off+n.toNat*sz,none⟩),?_,?_⟩
     . rw [hi.1,BG hu mF b off kk n h0 h1,fj]
     . simp only [af];exact⟨b,cY,rfl⟩
   grind
 grind
theorem G9(hT:bD T P)(hB:aJ C A β st a w) {t:TypeId} {x:AV} {vx:Value}(hx:af w A β vx x) {out:Out}
  (h:qH T st.h t x=some out) (hc:∀p∈out.cond,p):Reads P A β w (Instr.loadAt t vx) out:=by
 unfold qH at h;split at h
 . rename_i row x j;split at h
   . rename_i te ht;split at h
     . rename_i r hp;simp only [A!] at h;subst h;simp only [af] at hx;obtain⟨b,o,cs,rfl,hA,hr,hv⟩:=hx;obtain⟨v,h1,h2⟩:=nY (β:=β) hT ht (l6 row cs x hv) hp hr;exact⟨⟨rfl,rfl,rfl⟩,v,h1,h2⟩
     grind
   grind
 . rename_i row l;split at h
   . rename_i te ht;split at h
     . rename_i r hp;simp only [A!] at h;subst h;simp only [af] at hx;obtain⟨b,o,cs,rfl,hA,hr,hv⟩:=hx;obtain⟨v,h1,h2⟩:=nY (β:=β) hT ht (NR row l cs hv) hp hr;exact⟨⟨rfl,rfl,rfl⟩,v,w!,h2⟩
     grind
   grind
 . rename_i k off;split at h
   . rename_i te cs ht hk;split at h
     . rename_i r hp;simp only [A!] at h;subst h;simp only [af] at hx;obtain⟨b,cY,rfl⟩:=hx;obtain⟨b',arr,e,h1,h2,_,h4,_⟩:=hB.blocks k _ hk;rw [cY] at h1;simp at h1;subst h1
       have hr:w.rangeAt b 0 arr.toList:=fun j v hj=>by
        grind[World.cell?]
       obtain⟨v,g1,g2⟩:=nY (β:=β) hT ht h4 hp hr;exact⟨⟨rfl,rfl,rfl⟩,v,x!,g2⟩
     grind
   grind
 . rename_i k sz i j;split at h
   . rename_i te e row l fr ht hk;cases fj:Nat.beq sz row.length with
     |false=>grind
     |true=>
      have fj:=D! fj;subst fj;simp only [ek,L!] at h;split at h
      . rename_i r hp;simp only [A!] at h;subst h;have hi:i<l.length:=fu hc;obtain⟨b,m,cap,cY,rfl⟩:=hx;rcases ib hB hk with⟨_,hl⟩|⟨b',l4,cur,hv,hg,_,_,fx,hL,_⟩
        . grind
        . rw [cY] at hv;simp at hv;obtain⟨hbb,_,_⟩:=hv;subst hbb;obtain⟨c1,c,c2,e1,e2,e3,_,_⟩:=sw l _ i hi hL
          have hr:w.rangeAt b 0 (cur.toList.take (l.length*row.length)):=fun j v hj=>by
           grind[World.cell?]
          rw [e1] at hr;have hr:=wN hr;rw [e2] at hr;rw [getD_eq l _ _ hi] at hp;obtain⟨v,g1,g2⟩:=nY (β:=β) hT ht (l6 row c _ e3) hp hr;exact⟨⟨rfl,rfl,rfl⟩,v,x!,g2⟩
      grind
   grind
 grind
end
end Go.Vg

end
section
namespace Go.Vg
open Go
section
variable {P:Program} {C:Ctx} {A:Nat->Prop} {β:Nat->Value} {st:St} {a:Act} {w:World} {T:cJ}
theorem Ha(hT:bD T P) {s:TypeId} {f ft o:Nat}(h:Dx T s f=some (ft,o)):∃fs fd,P.underlying s=some (.struct fs)/\fs[f]? =some fd/\fd.type=ft/\fd.offset=o:=by
 unfold Dx at h;cases ht:T.find s with
 |none=>grind
 |some te=>
  simp [ht] at h;cases hd:te.desc with
  |struct fs=>
   simp [hd] at h;cases hf:fs[f]? with
   |none=>grind
   |some fd=>
    simp [hf,A!,Prod.mk.injEq] at h;exact⟨fs,fd,by rw [(hT.ok s te ht).1,hd],hf,h.1,h.2⟩
  |_=>grind
theorem RS(hT:bD T P) {t:TypeId}(h:Dy T t=true):∃i,P.info? t=some i/\i.size≠0:=by
 unfold Dy at h;cases ht:T.find t with
 |none=>grind
 |some te=>
  simp only [ht] at h;obtain⟨_,i,hi,hs,_⟩:=hT.ok t te ht;have :=Nat.le_of_ble_eq_true h;grind
theorem wO {s f:Nat} {fs:Array Field} {fd:Field} {i:TypeInfo}(hu:P.underlying s=some (.struct fs))(hf:fs[f]? =some fd)(hi:P.info? fd.type=some i)(hs:i.size≠0)(b o:Nat):
  (Instr.fieldAt s (.pointer (some ⟨b,o,none⟩)) f).run P w= .ok (.pointer (some ⟨b,o+fd.offset,none⟩)) w:=by
 simp [Instr.fieldAt,run_underlying hu,hf,Instr.sureAddr,fieldPlace,sizeOf,typeInfo,hi,hs,Addr.add_mid]
theorem FL(hT:bD T P) {s f:Nat} {x:AV} {vx:Value}(hx:af w A β vx x) {out:Out}
  (h:uK T s f x=some out):Reads P A β w (Instr.fieldAt s vx f) out:=by
 unfold uK at h;split at h
 . rename_i ft o hf;obtain⟨fs,fd,hu,hfd,e1,e2⟩:=Ha hT hf;cases hs:Dy T ft with
   |false=>grind
   |true=>
    simp [hs,L!] at h;obtain⟨i,hi,gI⟩:=RS hT hs;rw [<-e1] at hi;split at h
    . simp at h;subst h;obtain⟨b,h1,rfl⟩:=hx;refine⟨⟨rfl,rfl,rfl⟩,_,wO hu hfd hi gI b _,?_⟩;grind[af]
    . simp at h;subst h;obtain⟨b,oo,cs,rfl,h2,h3,h4⟩:=hx;refine⟨⟨rfl,rfl,rfl⟩,_,wO hu hfd hi gI b _,?_⟩;grind[af,Nat.add_assoc]
    . simp at h;subst h;obtain⟨b,m,cap,h1,rfl⟩:=hx;refine⟨⟨rfl,rfl,rfl⟩,_,wO hu hfd hi gI b _,?_⟩;grind[af,Nat.add_assoc]
    grind
 grind
theorem vE {t:TypeId} {te:TE}(hT:bD T P)(ht:T.find t=some te) {arr:Array Value} {cs:List AV} {off:Nat} {r:AV}(hrel:ak w A β arr.toList cs)(hp:pick te cs off=some r):
  ∃v,(part t arr off).run P w= .ok v w/\af w A β v r:=by
 obtain⟨hu,i,hi,hs,_,_⟩:=hT.ok t te ht;unfold pick at hp;cases RQ:te.desc.mB with
 |true=>
  simp [RQ,L!] at hp;cases hle:Nat.ble (off+te.size) cs.length with
  |false=>grind
  |true=>
   simp [hle,Nat.ble_eq_true_of_le,L!,A!] at hp;subst hp
   have hia:(isAgg t).run P w= .ok true w:=by
    unfold isAgg;rw [Sem.run_bind,run_underlying hu w];cases hd:te.desc<;>simp_all [TypeDesc.mB]
   refine⟨.agg (arr.extract off (off+te.size)),?_,?_⟩
   . simp_all[part,sizeOf,typeInfo,hi]
   . simp [af];simp_all[lz,Array.toList_extract,List.extract]
 |false=>
  simp [RQ,Q!] at hp;obtain⟨v,hv,hrv⟩:=tT cs _ off r hrel hp
  have hia:(isAgg t).run P w= .ok false w:=by
   unfold isAgg;rw [Sem.run_bind,run_underlying hu w];cases hd:te.desc<;>simp_all [TypeDesc.mB]
  simp_all[part]
theorem U3(hB:aJ C A β st a w) {x:AV} {vx:Value}(hx:af w A β vx x) {n:Int}(h:FD st.h x=some n):
  (∃ad l c,vx= .slice ad l c/\n=(l:Int)/\l<=maxLen)\/(∃s,x= .str s/\n=(s.length:Int)):=by
 unfold FD at h;grind[Option.some.injEq,af,Rd,ib,trans,Value.slice.injEq]
theorem yn {k:IntKind} {n:Int}(h:lo k<=n/\n<=hi k):k.wrap n=n:=by
 cases k<;>simp [lo,hi] at h<;>simp [IntKind.wrap,IntKind.signed,IntKind.bits]<;>omega
theorem U4 {k:IntKind} {n c:Int}(h:pz k=some c):k.wrap n=n%c:=by
 cases k<;>simp [pz] at h<;>subst h<;>simp [IntKind.wrap,IntKind.signed,IntKind.bits]
theorem RT {k:IntKind} {n c:Int}(h:pz k=some c):lo k<=n%c/\n%c<=hi k:=by
 cases k<;>simp [pz] at h<;>subst h<;>simp [lo,hi]<;>omega
theorem pM {k:IntKind} {cs:List Prop} {n:Int} {out:Out}(h:tO k cs n=some out)(hc:∀p∈out.cond,p):
  out.quiet/\af w A β (.int k (k.wrap n)) out.res/\∀p∈cs,p:=by
 unfold tO at h;simp at h;subst h;unfold fit at hc |-;cases hk:pz k with
 |none=>
  refine⟨⟨rfl,rfl,rfl⟩,?_,fun p hp=>hc p x!⟩;simp_all[yn,af,trivial]
 |some c=>
  refine⟨⟨rfl,rfl,rfl⟩,?_,fun p hp=>hc p x!⟩;simp_all[U4,af,trivial,RT]
theorem FM {op:BinOp} {t:TypeId} {x y:Operand} {k k':IntKind} {n m:Int}:(eqGuard op t x y (.int k n) (.int k' m)).run P w= .ok () w:=by
 simp_all[eqGuard]
theorem FN {op:BinOp} {t:TypeId} {x y:Operand} {s u:ByteArray}:(eqGuard op t x y (.string s) (.string u)).run P w= .ok () w:=by
 simp_all[eqGuard]
theorem Cw {op:BinOp} {t:TypeId} {x y:Operand} {p q:Option Addr} {n m n' m':Nat}:(eqGuard op t x y (.slice p n m) (.slice q n' m')).run P w= .ok () w:=by
 simp_all[eqGuard]
theorem FO(w:World)(d:Nat)(t e:TypeId)(a:Option Addr)(n c n' c':Nat)(h:P.underlying t=some (.slice e)):
  (Op.equalIn (d+1) t (.slice a n c) (.slice none n' c')).run P w= .ok a.isNone w:=by
 cases a<;>simp [Op.equalIn,run_underlying h]
theorem Px(w:World)(t e:TypeId)(a:Option Addr)(n c n' c':Nat)(h:P.underlying t=some (.slice e)):
  (binOp .eql t (.slice a n c) (.slice none n' c')).run P w= .ok (.bool a.isNone) w:=by
 simp_all[binOp,Op.equal,Op.maxDepth,FO]
theorem DL {op:BinOp} {t:TypeId} {x y:Operand} {s u:Bool}:(eqGuard op t x y (.bool s) (.bool u)).run P w= .ok () w:=by
 simp_all[eqGuard]
theorem qJ {k:IntKind} {n:Int}(hr:lo k<=n)(h:∀p∈BC k n,p):0<=n:=by
 unfold BC at h;cases hc:pz k with
 |none=>simp [hc] at h;exact h _ z!
 |some c=>cases k<;>simp [pz] at hc<;>simpa [lo] using hr
def qK:IntKind->Nat
 | .i8=>7| .i16=>15| .i32=>31| .i64=>63| .u8=>8| .u16=>16| .u32=>32| .u64=>64
theorem toNat_lt {k:IntKind} {n:Int}(h0:0<=n)(h:n<=hi k):n.toNat<2^qK k:=by
 cases k<;>simp [hi] at h<;>simp [qK]<;>omega
theorem ad5 {k:IntKind} {n:Nat}(h:n<2^qK k):lo k<=(n:Int)/\(n:Int)<=hi k:=by
 cases k<;>simp [qK] at h<;>simp [lo,hi]<;>omega
theorem rL {k:IntKind} {n:Int}(h0:0<=n)(h:n<=hi k):(BitVec.ofInt k.bits n).toNat=n.toNat:=by
 cases k<;>simp [hi] at h<;>simp [IntKind.bits]<;>omega
theorem JB {k:IntKind} {n m:Int}(f:Nat->Nat->Nat)(g:BitVec k.bits->BitVec k.bits->BitVec k.bits)(hfg:∀x y,(g x y).toNat=f x.toNat y.toNat)
  (hf:∀a b,a<2^qK k->b<2^qK k->f a b<2^qK k) (hn:lo k<=n/\n<=hi k) (hm:lo k<=m/\m<=hi k) (h0:0<=n) (h1:0<=m):
  k.wrap ((g (BitVec.ofInt k.bits n) (BitVec.ofInt k.bits m)).toNat:Int)=(f n.toNat m.toNat:Int)/\lo k<=(f n.toNat m.toNat:Int)/\(f n.toNat m.toNat:Int)<=hi k:=by
 rw [hfg,rL h0 hn.2,rL h1 hm.2];have :=ad5 (hf _ _ (toNat_lt h0 hn.2) (toNat_lt h1 hm.2));exact⟨yn this,this⟩
theorem BH(s:B8):(⟨s.toArray⟩:ByteArray).toList=s:=by
 simp_all
theorem yo(s:B8):(⟨s.toArray⟩:ByteArray).size=s.length:=by rfl
theorem U5(s u:B8):(⟨s.toArray⟩:ByteArray)++⟨u.toArray⟩=⟨(s++u).toArray⟩:=by
 rfl
theorem JC {x:AV} {v:Value} {p:Bool}(hx:af w A β v x)(h:tP x=some p):v= .bool p:=by cases x<;>simp_all [tP,af]
theorem NT {d:Nat} {E:TypeId->AV->AV->Option Bool}(hT:bD T P)(hE:∀t x y v u r,af w A β v x->af w A β u y->E t x y=some r->(Op.equalIn d t v u).run P w= .ok r w)
  {arr brr:Array Value} {xs ys:List AV} (hx:ak w A β arr.toList xs) (hy:ak w A β brr.toList ys):∀(fs:List Field) (r:Bool),(fs.all fun f=>f.name != "_")=true->NP T E xs ys fs=some r->(Op.eqFields d arr brr fs).run P w= .ok r w
 | [],r,_,h=>by simp_all[NP,A!,Op.eqFields]
 |f::fs,r,hn,h=>by
  simp only [List.all_cons,Bool.and_eq_true] at hn;have RU:f.name≠ "_":=by grind
  simp [NP] at h;cases hf:T.find f.type with
  |none=>grind
  |some te=>
   simp [hf] at h;cases ha:pick te xs f.offset with
   |none=>grind
   |some a=>cases hb:pick te ys f.offset with
    |none=>grind
    |some b=>
     simp [ha,hb] at h;cases he:E f.type a b with
     |none=>grind
     |some q=>cases hr:NP T E xs ys fs with
      |none=>grind
      |some q'=>
       simp [he,hr,A!] at h;subst h;obtain⟨va,a1,a2⟩:=vE hT hf hx ha;obtain⟨vb,b1,b2⟩:=vE hT hf hy hb;have e1:=hE _ _ _ _ _ _ a2 b2 he;have e2:=NT hT hE hx hy fs q' hn.2 hr;simp [Op.eqFields,RU,ne_eq,not_false_eq_true,K?,Sem.run_bind,a1,b1,e1,Result.andThen_ok];cases fs with
       |nil=>
        cases q<;>simp [Op.eqFields]
       |cons g gs=>cases q<;>simp [e2]
theorem NU(hT:bD T P):∀(n d:Nat) (t:TypeId) (x y:AV) (v u:Value) (r:Bool),n<=d->af w A β v x->af w A β u y->G6 T n t x y=some r->(Op.equalIn d t v u).run P w= .ok r w
 |0,_,_,_,_,_,_,_,_,_,_,h=>by grind[G6]
 |n+1,0,_,_,_,_,_,_,hd,_,_,_=>by omega
 |n+1,d+1,t,x,y,v,u,r,hd,hx,hy,h=>by
  simp [G6] at h;cases hf:T.find t with
  |none=>grind
  |some te=>
   simp [hf] at h;obtain⟨hu,_⟩:=hT.ok t te hf;split at h
   . rename_i fs FP;split at h
     . obtain⟨arr,rfl,hx⟩:=hx;obtain⟨brr,rfl,hy⟩:=hy;have hh:=hT.held t te hf;rw [FP] at hh hu;have hfo:P.fieldsOf t=fs:=by grind[Program.fieldsOf]
       rw [run_equalIn_struct w d t arr brr x! hh.1,hfo];exact NT hT (fun t x y v u r g1 g2 g3=>NU hT n d t x y v u r w! g1 g2 g3) hx hy _ _ hh.2.2 h
     grind
   . grind[Option.some.injEq,af,run_equalIn_int]
   . grind[Option.some.injEq,af,run_equalIn_string,BH]
   . rename_i FP;rw [FP] at hu;split at h
     . rename_i p q hp hq;simp at h;subst h;rw [JC hx hp,JC hy hq,run_equalIn_bool' w d t _ _ hu]
     grind
   grind
theorem RV(hT:bD T P) {n:Nat} {t:TypeId} {xs ys:List AV} {r:Bool}(h:G6 T n t (.agg xs) (.agg ys)=some r):P.eqGuardType P.depth t=false :=by
 cases n with
 |zero=>grind[G6]
 |succ n=>
  simp [G6] at h;cases hf:T.find t with
  |none=>grind
  |some te=>
   simp [hf] at h;have hh:=hT.held t te hf;split at h
   . rename_i fs FP;rw [FP] at hh;exact hh.2.1
   . cases h
   . cases h
   . grind[tP]
   grind
set_option maxHeartbeats 1000000 in
theorem U6(hT:bD T P) {op:BinOp} {t:TypeId} {ox oy:Operand} {x y:AV} {vx vy:Value}(hx:af w A β vx x)(hy:af w A β vy y) {out:Out}
  (h:Pt T t op x y=some out) (hc:∀p∈out.cond,p):Reads P A β w (do eqGuard op t ox oy vx vy;binOp op t vx vy) out:=by
 unfold Pt at h;split at h
 . rename_i k n k' m;simp only [af] at hx hy;obtain⟨rfl,hn⟩:=hx;obtain⟨rfl,hm⟩:=hy;unfold Reads;simp only [Sem.run_bind,FM,Result.andThen_ok];split at h
   . obtain⟨hq,hr,fx⟩:=pM (w:=w) (A:=A) (β:=β) h hc;obtain⟨h0,h1⟩:=fu fx;refine⟨hq,_,?_,hr⟩;have ahs:¬m<0:=by omega
     have aht:min m.toNat k.bits=m.toNat:=by
      cases k<;>simp [bitsOf] at h1<;>simp [IntKind.bits]<;>omega
     simp [binOp,Op.shift,ahs,aht]
   . simp only [A!] at h;subst h;obtain⟨h0,h1⟩:=fu hc;have ahs:¬m<0:=by omega
     have aht:min m.toNat k.bits=m.toNat:=by
      cases k<;>simp [bitsOf] at h1<;>simp [IntKind.bits]<;>omega
     refine⟨⟨rfl,rfl,rfl⟩, .int k (n/2^m.toNat),?_,?_⟩
     . simp only [binOp,Op.shift,ahs,aht,if_false,Sem.run_pure];grind
     . simp only [af];have hp:(1:Int)<=2^m.toNat:=Int.pow_pos w!;refine⟨trivial,?_,?_⟩
       . have h2:lo k<=0:=by cases k<;>simp [lo]
         rcases Int.le_total 0 n with hh|hh
         . exact Int.le_trans h2 (Int.ediv_nonneg hh w!)
         . have :n<=n/2^m.toNat:=by
            rw [Int.le_ediv_iff_mul_le w!];have :=Int.mul_le_mul_of_nonpos_left hh hp;omega
           omega
       . have h2:0<=hi k:=by cases k<;>simp [hi]
         rcases Int.le_total 0 n with hh|hh
         . have :n/2^m.toNat<=n:=Int.ediv_le_self _ hh;omega
         . have :n/2^m.toNat<=0:=Int.ediv_nonpos_of_nonpos_of_neg hh w!;omega
   . rename_i hs1 U7;by_cases hkk:k=k'
     . subst hkk;simp only [K?] at h
       have hb:binOp op t (.int k n) (.int k m)=match op with
         | .add| .sub| .mul=>Op.intArith op k n m
         | .quo| .rem=>Op.intDiv op k n m
         | .and| .or| .xor| .andNot=>Op.intBits op k n m
         |_=>Op.intCmp op n m:=by
        cases op<;>first|exact absurd rfl hs1|exact absurd rfl U7|simp [binOp]
       rw [hb];split at h
       . obtain⟨hq,hr,_⟩:=pM (w:=w) (A:=A) (β:=β) h hc;simp_all[Op.intArith]
       . obtain⟨hq,hr,_⟩:=pM (w:=w) (A:=A) (β:=β) h hc;simp_all[Op.intArith]
       . obtain⟨hq,hr,_⟩:=pM (w:=w) (A:=A) (β:=β) h hc;simp_all[Op.intArith]
       . simp only [Option.some.injEq] at h;subst h;have h0:0<=n:=qJ hn.1 (fun p hp=>hc p x!);have h1:0<m:=hc _ z!;have gI:¬m=0:=by omega
         have h2:0<=n/m:=Int.ediv_nonneg h0 w!;have h3:n/m<=n:=Int.ediv_le_self _ h0;have Py:lo k<=0:=by cases k<;>simp [lo]
         have hr:lo k<=n/m/\n/m<=hi k:=⟨w!,w!⟩;refine⟨⟨rfl,rfl,rfl⟩, .int k (n/m),?_,by simp_all[af,trivial]⟩;simp_all[Op.intDiv,h?,Int.tdiv_eq_ediv_of_nonneg,yn,Sem.run_pure]
       . simp only [Option.some.injEq] at h;subst h;have h0:0<=n:=qJ hn.1 (fun p hp=>hc p x!);have h1:0<m:=hc _ z!;have gI:¬m=0:=by omega
         have h2:0<=n%m:=Int.emod_nonneg _ gI
         have h3:n%m<=n:=by
          have e1:=Int.emod_def n m;have e2:0<=m*(n/m):=Int.mul_nonneg w! (Int.ediv_nonneg h0 w!);omega
         have Py:lo k<=0:=by cases k<;>simp [lo]
         have hr:lo k<=n%m/\n%m<=hi k:=⟨w!,w!⟩;refine⟨⟨rfl,rfl,rfl⟩, .int k (n%m),?_,by simp_all[af,trivial]⟩;simp_all[Op.intDiv,h?,Int.tmod_eq_emod_of_nonneg,Sem.run_pure]
       . simp only [Option.some.injEq] at h;subst h;have h0:0<=n:=qJ hn.1 (fun p hp=>hc p x!);have h1:0<=m:=qJ hm.1 (fun p hp=>hc p x!);obtain⟨e1,e2⟩:=JB (k:=k) (· &&& ·) (· &&& ·) (fun x y=>BitVec.toNat_and x y) (fun a b ha hb=>Nat.lt_of_le_of_lt Nat.and_le_left ha) hn hm h0 h1;exact⟨⟨rfl,rfl,rfl⟩,_,by simp only [Op.intBits,Sem.run_pure,e1];rfl,by simp only [af];exact⟨rfl,e2⟩⟩
       . simp only [Option.some.injEq] at h;subst h;have h0:0<=n:=qJ hn.1 (fun p hp=>hc p x!);have h1:0<=m:=qJ hm.1 (fun p hp=>hc p x!);obtain⟨e1,e2⟩:=JB (k:=k) (· ||| ·) (· ||| ·) (fun x y=>BitVec.toNat_or x y) (fun a b ha hb=>Nat.or_lt_two_pow ha hb) hn hm h0 h1;exact⟨⟨rfl,rfl,rfl⟩,_,by simp only [Op.intBits,Sem.run_pure,e1];rfl,by simp only [af];exact⟨rfl,e2⟩⟩
       . simp only [Option.some.injEq] at h;subst h;have h0:0<=n:=qJ hn.1 (fun p hp=>hc p x!);have h1:0<=m:=qJ hm.1 (fun p hp=>hc p x!);obtain⟨e1,e2⟩:=JB (k:=k) (· ^^^ ·) (· ^^^ ·) (fun x y=>BitVec.toNat_xor x y) (fun a b ha hb=>Nat.xor_lt_two_pow ha hb) hn hm h0 h1;exact⟨⟨rfl,rfl,rfl⟩,_,by simp only [Op.intBits,Sem.run_pure,e1];rfl,by simp only [af];exact⟨rfl,e2⟩⟩
       . simp only [A!] at h;subst h;exact⟨⟨rfl,rfl,rfl⟩, .bool (decide (n=m)),by rfl,by rfl⟩
       . simp only [A!] at h;subst h;exact⟨⟨rfl,rfl,rfl⟩, .bool (!decide (n=m)),by rfl,by rfl⟩
       . simp only [A!] at h;subst h;exact⟨⟨rfl,rfl,rfl⟩, .bool (decide (n<m)),by rfl,by rfl⟩
       . simp only [A!] at h;subst h;exact⟨⟨rfl,rfl,rfl⟩, .bool (decide (n<=m)),by rfl,by rfl⟩
       . simp only [A!] at h;subst h;exact⟨⟨rfl,rfl,rfl⟩, .bool (decide (m<n)),by rfl,by rfl⟩
       . simp only [A!] at h;subst h;exact⟨⟨rfl,rfl,rfl⟩, .bool (decide (m<=n)),by rfl,by rfl⟩
       grind
     grind
 . rename_i s u;simp only [af] at hx hy;obtain⟨rfl,hn⟩:=hx;obtain⟨rfl,hm⟩:=hy;unfold Reads;simp only [Sem.run_bind,FN,Result.andThen_ok];have hb:binOp op t (.string ⟨s.toArray⟩) (.string ⟨u.toArray⟩)=Op.stringOp op ⟨s.toArray⟩ ⟨u.toArray⟩:=by cases op<;>rfl
   have aHs:(s==u)=decide (s=u):=by
    grind
   rw [hb];split at h
   . simp only [A!] at h;subst h;have h0:=fu hc;refine⟨⟨rfl,rfl,rfl⟩, .string ⟨(s++u).toArray⟩,?_,?_⟩
     . simp_all[IntKind.max,IntKind.signed,IntKind.bits,Op.stringOp,yo,U5]
     . simp only [af];refine⟨trivial,?_⟩;grind[List.length_append,maxLen]
   all_goals first|(simp only [A!] at h;subst h;exact⟨⟨rfl,rfl,rfl⟩,_,by simp only [Op.stringOp,Sem.run_pure,BH,aHs];rfl,by rfl⟩)|cases h
 . rename_i r rs l;cases hd:eH T t jk with
   |false=>grind
   |true=>
    simp only [hd,L!] at h
    obtain⟨e,hu⟩:∃e,P.underlying t=some (.slice e):=by
     unfold eH at hd;cases ht:T.find t with
     |none=>grind
     |some te=>
      simp only [ht] at hd;rw [(hT.ok t te ht).1];cases DN:te.desc<;>simp_all [jk]
    simp only [af,Rd] at hx hy;obtain⟨ad,cap,cs,rfl,h1,h2,h3,h4⟩:=hx;subst hy;split at h
    . simp only [Option.some.injEq] at h;subst h;unfold Reads;simp only [Sem.run_bind,Cw,Result.andThen_ok];refine⟨⟨rfl,rfl,rfl⟩, .bool ad.isNone,Px w t e ad _ _ _ _ hu,?_⟩;simp only [af];refine⟨_,rfl,fun hn=> ?_⟩;cases l with
      |nil=>rfl
      |cons x l=>
       grind[eu,bT]
    grind
 . rename_i xs ys;split at h
   . rename_i r hr;have hg:=RV hT hr;have hq:=NU (w:=w) (A:=A) (β:=β) hT 8 10000 t _ _ _ _ r w! hx hy hr;simp only [af] at hx hy;obtain⟨arr,rfl,hx⟩:=hx;obtain⟨brr,rfl,hy⟩:=hy;unfold Reads;simp only [Sem.run_bind,run_eqGuard_agg w op t ox oy arr brr hg,Result.andThen_ok];split at h
     . simp only [A!] at h;subst h;exact⟨⟨rfl,rfl,rfl⟩,_,by rw [run_eql_struct,hq];rfl,by rfl⟩
     . simp only [A!] at h;subst h;exact⟨⟨rfl,rfl,rfl⟩,_,by rw [run_neq_struct,hq];rfl,by rfl⟩
     grind
   grind
 . rename_i Nc hy1 hz1;split at h
   . rename_i p q hp hq;have ex:vx= .bool p:=by cases x<;>simp_all [tP,af]
     have ey:vy= .bool q:=by cases y<;>simp_all [tP,af]
     subst ex;subst ey;unfold Reads;simp only [Sem.run_bind,DL,Result.andThen_ok];cases hd:eH T t Ju with
     |false=>grind
     |true=>
      simp only [hd,L!] at h
      have hu:P.underlying t=some .bool:=by
       unfold eH at hd;cases ht:T.find t with
       |none=>grind
       |some te=>
        simp only [ht] at hd;rw [(hT.ok t te ht).1];grind[Ju]
      split at h
      . simp only [A!] at h;subst h;exact⟨⟨rfl,rfl,rfl⟩, .bool (p==q),run_eql_bool w t p q hu,by rfl⟩
      . simp only [A!] at h;subst h;exact⟨⟨rfl,rfl,rfl⟩, .bool (!(p==q)),run_neq_bool w t p q hu,by rfl⟩
      grind
   grind
theorem JD(sz j:Nat):∀(k:Nat) (cs:List AV) (i:Nat),i<k->(every sz j k cs)[i]? =some (cs.getD (i*sz+j) .dU)
 |k+1,cs,0,_=>by simp [every]
 |k+1,cs,i+1,h=>by
  simp [every,List.getElem?_cons_succ];rw [JD sz j k (cs.drop sz) i w!];simp;rw [show sz+(i*sz+j)=(i+1)*sz+j by rw [j?];omega]
theorem DO:∀(l:List AV) (kd:IntKind) (ns:List Int),DE l=some (kd,ns)->∀(i:Nat) (a:AV),l[i]? =some a->a= .int kd (ns.getD i 0)
 | [],kd,ns,h,i,a,hi=>by grind
 |x::r,kd,ns,h,i,a,hi=>by
  unfold DE at h;split at h
  . split at h
    . obtain⟨rfl,rfl⟩:=h;cases i with
      |zero=>simp at hi;subst hi;simp
      |succ i=>simp at hi
    . split at h
      . rename_i k' l hl;split at h
        . rename_i hk;subst hk;obtain⟨rfl,rfl⟩:=h;cases i with
          |zero=>simp at hi;subst hi;simp
          |succ i=>
           have :=DO _ _ _ hl i a hi;rw [this];simp [List.getD]
        . cases h
      . cases h
  . cases h
theorem yp {sz k:Nat} {cs:List AV} {n:Int}(hn:n.toNat<k):∀(m:Nat) (vs:List AV),DF sz k cs n m=some vs->vs.length=m/\∀j,j<m->vs[j]? =some (cs.getD (n.toNat*sz+j) .dU)
 |0,vs,h=>by grind[DF,Option.some.injEq]
 |m+1,vs,h=>by
  simp only [DF] at h;split at h
  . rename_i us kd l h1 h2;simp only [Option.some.injEq] at h;obtain⟨g1,g2⟩:=yp hn m us h1;refine⟨x!,fun j hj=> ?_⟩;by_cases hjm:j<m
    . grind
    . have :j=m:=by omega
      grind[DO,JD]
  grind
theorem RW {t:TypeId}(hT:bD T P) {k:Nat} {ee:TE}(h:Jw T t=some (k,ee)):∃e i,P.underlying t=some (.array k e)/\T.find e=some ee/\P.info? e=some i/\i.size=ee.size:=by
 unfold Jw at h;split at h
 . rename_i te nu;obtain⟨hu,_⟩:=hT.ok t te nu;split at h
   . rename_i k' e hd;split at h
     . rename_i ee' uR;obtain⟨_,i,hi,hs,_⟩:=hT.ok e ee' uR;grind
     grind
   grind
 grind
theorem Iu(hT:bD T P) {t:TypeId} {cs:List AV} {n:Int} {kd:IntKind} {arr:Array Value} {vi:Value}(hx:ak w A β arr.toList cs)(hi:vi= .int kd n) {out:Out}
  (h:wI T t cs n=some out) (hc:∀p∈out.cond,p):Reads P A β w (Instr.index t (.agg arr) vi) out:=by
 unfold wI at h;split at h
 . rename_i k ee ha;cases hb:Nat.beq cs.length (k*ee.size) with
   |false=>grind
   |true=>
    rw [hb] at h;simp only [L!] at h;have hlen:=D! hb;obtain⟨e,i,hu,uR,hie,hs⟩:=RW hT ha
    have kF:∀(h0:0<=n) (h1:n<(k:Int)),(Instr.index t (.agg arr) vi).run P w=(part e arr (n.toNat*ee.size)).run P w:=by
     simp_all[hi,Instr.index,asIntOf,run_underlying,sizeOf,typeInfo]
    split at h
    . rename_i vs hv;cases Pz:ee.desc.mB with
      |true=>
       rw [Pz] at h;simp only [L!,A!] at h;subst h;obtain⟨h0,h1⟩:=fu hc;obtain⟨g1,g2⟩:=yp w! _ _ hv
       have hle:n.toNat*ee.size+ee.size<=cs.length:=by
        rw [hlen,<-Nat.succ_mul];exact D? _ w!
       have hp:pick ee cs (n.toNat*ee.size)=some (.agg vs):=by
        unfold pick;rw [Pz,cond_true,show Nat.ble (n.toNat*ee.size+ee.size) cs.length=true from Nat.ble_eq_true_of_le hle,cond_true];congr 2
        refine List.ext_getElem? fun j=> ?_;grind
       obtain⟨v,k1,k2⟩:=vE hT uR hx hp;exact⟨⟨rfl,rfl,rfl⟩,v,x!,k2⟩
      |false=>
       rw [Pz] at h;simp only [Q!] at h;split at h
       . rename_i a;simp only [Option.some.injEq] at h;subst h;obtain⟨h0,h1⟩:=fu hc;obtain⟨g1,g2⟩:=yp w! _ _ hv;have fj:ee.size=1:=by grind
         have hp:pick ee cs (n.toNat*ee.size)=some a:=by
          simp_all[pick,Q!,List.getElem?_cons_zero,A!,Nat.add_zero,E!,List.getD]
         obtain⟨v,k1,k2⟩:=vE hT uR hx hp;exact⟨⟨rfl,rfl,rfl⟩,v,x!,k2⟩
       grind
    grind
 grind
end
end Go.Vg

end
section
namespace Go.Vg
open Go
section
variable {P:Program} {C:Ctx} {A:Nat->Prop} {β:Nat->Value} {st:St} {a:Act} {w:World} {T:cJ}
theorem vF(n:Int):∀ks,Jx n ks=true↔n∈ks
 | []=>by simp [Jx]
 |k::r=>by simp [Jx,vF n r]
theorem yq(n:Int):∀ks,wJ n ks↔n∉ks
 | []=>by simp [wJ]
 |k::r=>by simp [wJ,yq n r]
theorem uS(n:Int):∀(es:List MapEntry) (ks:List Int) (i:Nat),es.map (·.key)=ks.map (Value.int .i64)->n∉ks->Instr.findNow (.int .i64) (.int .i64 n) es i=some none
 | [],_,_,_,_=>rfl
 |e::es,[],_,h,_=>by grind
 |e::es,k::ks,i,h,hn=>by
  simp at h;have hk:n≠k:=fun q=>hn (by rw [q];exact S! ..)
  have hs:Instr.sameNow (.int .i64) (.int .i64 n) e.key=some false :=by
   rw [h.1];simp [Instr.sameNow,hk]
  simp [Instr.findNow,hs];exact uS n es ks (i+1) h.2 (fun q=>hn (G! _ q))
theorem Hb(n:Int):∀(es:List MapEntry) (ks:List Int) (i j:Nat),es.map (·.key)=ks.map (Value.int .i64)->kQ ks=true->ks[j]? =some n->
  ∃e,es[j]? =some e/\Instr.findNow (.int .i64) (.int .i64 n) es i=some (some (i+j,e.val))
 | [],[],_,j,_,_,hj=>by grind
 | [],_::_,_,_,h,_,_=>by grind
 |e::es,[],_,_,h,_,_=>by grind
 |e::es,k::ks,i,j,h,hd,hj=>by
  simp at h;simp [kQ,B!,I?] at hd;cases j with
  |zero=>
   have hs:Instr.sameNow (.int .i64) (.int .i64 k) e.key=some true :=by
    grind[Instr.sameNow]
   exact⟨e,rfl,by grind[Instr.findNow]⟩
  |succ j=>
   have hk:n≠k:=by
    grind[List.mem_of_getElem?,vF]
   have hs:Instr.sameNow (.int .i64) (.int .i64 n) e.key=some false :=by
    grind[Instr.sameNow]
   obtain⟨e',h1,h2⟩:=Hb n es ks (i+1) j h.2 hd.2 hj;grind[Instr.findNow]
theorem JE:∀(aK:List AV) (vs:List Value) (i:Nat) (x:AV) (v:Value),ak w A β vs aK->aK[i]? =some x->vs[i]? =some v->af w A β v x
 | [],_,i,x,v,_,h,_=>by grind
 |a::aK,vs,i,x,v,h,hx,hv=>by
  obtain⟨u,cK,rfl,h1,h2⟩:=h;cases i with
  |zero=>
   simp at hx hv;rw [<-hx,<-hv];exact h1
  |succ i=>exact JE aK cK i x v h2 (by simpa using hx) (by simpa using hv)
theorem Nd(hT:bD T P) {t:TypeId} {ok:Bool} {ks:List Int} {cs:List AV} {n:Int} {Na:Nat} {vm:Value} {out:Out}(hm:af w A β vm (.je ks cs))
  (h:Cu T Na t ok ks cs n=some out) (hc:∀p∈out.cond,p):Reads P A β w (Instr.lookup t vm (.int .i64 n) ok) out:=by
 simp only [af] at hm;obtain⟨b,es,ck,rfl,hA,hb,hk,hv⟩:=hm;unfold Cu at h;split at h
 . rename_i te nu;obtain⟨hu,_⟩:=hT.ok t te nu;split at h
   . rename_i kt et hd;rw [hd] at hu;cases hq:(eH T kt Ct&&kQ ks) with
     |false=>grind
     |true=>
     rw [hq] at h;simp only [L!] at h;simp only [B!] at hq
     have PA:P.underlying kt=some (.int .i64):=by
      have h1:=hq.1;unfold eH at h1;split at h1
      . rename_i tk Cx;obtain⟨hku,_⟩:=hT.ok kt tk Cx;grind[Ct]
      grind
     have hck:∀e,(Instr.checkKey e 10000 kt (.int .i64 n)).run P w= .ok () w:=fun e=>MapKept.run_checkKey PA (by rfl) e 9999;split at h
     . rename_i k c RX hc1;simp only [Option.some.injEq] at h;subst h;have hn:n=k:=hc _ (List.mem_cons_self ..);subst hn;obtain⟨e,he,hf⟩:=Hb n es.toList ks 0 Na hk hq.2 RX;have hrel:=JE cs _ Na c e.val hv hc1 x!;refine⟨⟨rfl,rfl,rfl⟩,(if ok then .tuple #[e.val, .bool true] else e.val),?_,?_⟩
       . simp [Instr.lookup,run_underlying hu,MapKept.run_getObj_map hb,hck,MapKept.run_findKey PA hf,Result.andThen]
       . cases ok
         . grind
         . simp only [L!,K?,af];exact⟨_,rfl,by simp only [ak];exact⟨_,_,rfl,hrel,_,_,rfl,by rfl,rfl⟩⟩
     . split at h
       . rename_i ee uR;cases hz:UZ ee.zero with
         |false=>grind
         |true=>
         rw [hz] at h;simp only [L!,A!] at h;subst h;have hn:n∉ks:=(yq n ks).1 (hc _ (S! ..));have hf:=uS n es.toList ks 0 hk hn;obtain⟨_,i,hi,_,_,hzz⟩:=hT.ok et ee uR
         have hz':ee.zero= .nilFunc:=by
          grind[UZ]
         have hzr:(zeroValue et).run P w= .ok .nilFunc w:=by
          simp_all[zeroValue,typeInfo,hi]
         refine⟨⟨rfl,rfl,rfl⟩,(if ok then .tuple #[.nilFunc, .bool false] else .nilFunc),?_,?_⟩
         . simp [Instr.lookup,run_underlying hu,MapKept.run_getObj_map hb,hck,MapKept.run_findKey PA hf,hzr,Result.andThen]
         . cases ok
           . rfl
           . exact⟨_,rfl,by simp only [ak];exact⟨_,_,rfl,by simp [af],_,_,rfl,by simp [af],rfl⟩⟩
       grind
   grind
 grind
end
end Go.Vg

end
section
namespace Go.Vg
open Go
section
variable {P:Program} {C:Ctx} {A:Nat->Prop} {β:Nat->Value} {st:St} {a:Act} {w:World} {T:cJ}
theorem ad7 {op:UnOp} {x:AV} {vx:Value}(hx:af w A β vx x) {out:Out}(h:UX op x=some out)(hc:∀p∈out.cond,p):Reads P A β w (Op.unary op vx) out:=by
 unfold UX at h;split at h
 . split at h
   . simp at h;subst h;subst hx;exact⟨⟨rfl,rfl,rfl⟩,_,rfl,by rfl⟩
   grind
 . split at h
   . simp at h;subst h;subst hx;exact⟨⟨rfl,rfl,rfl⟩,_,rfl,by rfl⟩
   grind
 . split at h
   . simp at h;subst h;subst hx;exact⟨⟨rfl,rfl,rfl⟩,_,rfl,by rfl⟩
   grind
 . rename_i k n;obtain⟨rfl,hn⟩:=hx;split at h
   . obtain⟨hq,hr,_⟩:=pM (w:=w) (A:=A) (β:=β) h hc;exact⟨hq, .int k (k.wrap (0-n)),by rfl,hr⟩
   . cases hk:pz k with
     |none=>grind
     |some c=>
      simp [hk,A!] at h;subst h;have hs:k.signed=false :=by cases k<;>simp [pz] at hk<;>rfl
      have h0:0<=n:=by cases k<;>simp [pz] at hk<;>simpa [lo] using hn.1
      have hc1:c-1=hi k:=by cases k<;>simp [pz] at hk<;>subst hk<;>rfl
      have hx:(c-1-n)=k.wrap ((BitVec.ofInt k.bits (hi k)^^^BitVec.ofInt k.bits n).toNat:Int):=by
       rw [BitVec.toNat_xor,rL w! (Int.le_refl _),rL h0 hn.2]
       have e:(hi k).toNat^^^n.toNat=(hi k).toNat-n.toNat:=by
        have e2:(hi k).toNat=2^qK k-1:=by cases k<;>simp [pz] at hk<;>rfl
        rw [e2];apply Nat.eq_of_testBit_eq;grind[Nat.lt_or_ge,Nat.testBit_lt_two_pow,Nat.lt_of_lt_of_le,Nat.pow_le_pow_right]
       have hr:lo k<=(((hi k).toNat-n.toNat:Nat):Int)/\(((hi k).toNat-n.toNat:Nat):Int)<=hi k:=by
        have :lo k=0:=by cases k<;>simp [pz] at hk<;>rfl
        omega
       grind[yn]
      have aJ9:lo k<=c-1-n/\c-1-n<=hi k:=by
       have :lo k=0:=by cases k<;>simp [pz] at hk<;>rfl
       omega
      refine⟨⟨rfl,rfl,rfl⟩, .int k (c-1-n),?_,by simp_all[af,trivial]⟩;have ZQ:k.max=hi k:=by cases k<;>simp [pz] at hk<;>rfl
      simp_all[Op.unary,Op.intBits,H?,h?,Sem.run_pure]
   grind
 grind
theorem DP(s:B8)(x y:Nat)(hy:y<=s.length):(⟨s.toArray⟩:ByteArray).extract x y=⟨((s.take y).drop x).toArray⟩:=by
 apply ByteArray.ext;grind[Array.ext',ByteArray.data_extract,List.drop_take]
theorem run_sliceBound {k:IntKind} {n:Int} {y:Nat} {code:BoundsCode}(h0:0<=n)(h1:n<=(y:Int)):(Instr.sliceBound (.int k n) y code).run P w= .ok n.toNat w:=by
 simp_all[Instr.sliceBound,asIntOf]
def fy:Option Int->Nat
 |none=>0
 |some a=>a.toNat
def bE(len:Nat):Option Int->Nat
 |none=>len
 |some b=>b.toNat
def qs(w:World)(A:Nat->Prop)(β:Nat->Value):Option AV->Option Value->Prop
 |none,none=>True
 |some x,some v=>af w A β v x
 |_,_=>False
theorem ic {x:Option AV} {n:Option Int} {v:Option Value}(h:tR x=some n)(hr:qs w A β x v):
  (n=none/\v=none)\/∃k m,n=some m/\v=some (.int k m):=by
 cases x with
 |none=>
  grind[tR,qs]
 |some x=>
  cases v with
  |none=>grind[qs]
  |some v=>
   cases x with
   |int k m=>
    grind[tR,Option.some.injEq,qs,af]
   |_=>grind[tR]
theorem mG {s:Bool} {len cap:Nat} {lo hi:Option Int} {vl vh:Option Value}(hl:(lo=none/\vl=none)\/∃k m,lo=some m/\vl=some (.int k m))(hh:(hi=none/\vh=none)\/∃k m,hi=some m/\vh=some (.int k m))
  (hlen:len<=cap) (h0:∀m,hi=some m->0<=m/\m<=(len:Int)) (h1:∀m,lo=some m->0<=m/\m<=(bE len hi:Int)):
  (Instr.sliceBounds s len cap vl vh none).run P w= .ok (fy lo,bE len hi,cap) w:=by
 rcases hl with⟨rfl,rfl⟩|⟨k,m,rfl,rfl⟩<;>rcases hh with⟨rfl,rfl⟩|⟨k',m',rfl,rfl⟩
 . rfl
 . obtain⟨g0,g1⟩:=h0 m' rfl;simp [Instr.sliceBounds,fy,bE,run_sliceBound (P:=P) (w:=w) (k:=k') g0 (show m'<=(cap:Int) by omega)]
 . simp_all[bE,Instr.sliceBounds,fy,run_sliceBound]
 . obtain⟨g0,g1⟩:=h0 m' rfl;obtain⟨f0,f1⟩:=h1 m rfl;simp only [bE] at f1;simp [Instr.sliceBounds,fy,bE,run_sliceBound (P:=P) (w:=w) (k:=k') g0 (show m'<=(cap:Int) by omega),run_sliceBound (P:=P) (w:=w) (k:=k) f0 f1]
theorem wP {row:List Ty} {v:Value} {l:List (Row row)}(h:Rd w A (.slice row) v l):∃ad cap,v= .slice ad l.length cap/\l.length<=cap/\cap<=maxLen:=by
 grind[Rd]
theorem RY {row:List Ty} {ad:Option Addr} {len cap:Nat} {l:List (Row row)}(h:Rd w A (.slice row) (.slice ad len cap) l)(x y:Nat)(hx:x<=y)(hy:y<=l.length)(FQ:Option Addr)
  (had:x<cap->FQ=ad.map (·.add (x*row.length))):Rd w A (.slice row) (.slice FQ (y-x) (cap-x)) ((l.take y).drop x):=by
 obtain⟨a0,aHv,cs,h1,h2,h3,h4,h5⟩:=h;obtain⟨rfl,rfl,rfl⟩:=h1;have hs:=fw (w:=w) (A:=A) l cs y h4;have U7:=fw (w:=w) (A:=A) (l.take y) _ x hs.1;have hlen:((l.take y).drop x).length=y-x:=by grind
 refine⟨FQ,cap-x,((cs.take (y*row.length)).drop (x*row.length)),x!,w!,w!,U7.2,fun gI=> ?_⟩;have fx:cs≠ []:=by grind
 grind[qq,jF,Addr.add_mid]
theorem FT {t:TypeId}(hu:P.underlying t=some .string)(s:B8) {vl vh:Option Value} {x y c:Nat}(hy:y<=s.length)(hb:(Instr.sliceBounds false s.length s.length vl vh none).run P w= .ok (x,y,c) w):
  (Instr.sliceAt t (.string ⟨s.toArray⟩) vl vh none).run P w= .ok (.string ⟨((s.take y).drop x).toArray⟩) w:=by
 simp_all[Instr.sliceAt,Instr.slice,run_underlying,yo,DP]
theorem rn {t e:TypeId} {i:TypeInfo}(hu:P.underlying t=some (.slice e))(hi:P.info? e=some i)(ad:Option Addr)(len cap:Nat) {vl vh:Option Value} {x y:Nat}(hb:(Instr.sliceBounds true len cap vl vh none).run P w= .ok (x,y,cap) w):
  (Instr.sliceAt t (.slice ad len cap) vl vh none).run P w= .ok (.slice (if cap=x then ad else ad.map (·.add (x*i.size))) (y-x) (cap-x)) w:=by
 simp_all[Instr.sliceAt,Instr.slice,run_underlying,sizeOf,typeInfo,hi]
theorem l7(hT:bD T P) {t:TypeId} {te:TE}(ht:T.find t=some te):P.underlying t=some te.desc:=(hT.ok t te ht).1
theorem PB(hT:bD T P)(hB:aJ C A β st a w) {t:TypeId} {x:AV} {lo hi mx:Option AV} {vx:Value} {vl vh vm:Option Value}(hx:af w A β vx x)
  (hl:qs w A β lo vl)
  (hh:qs w A β hi vh)
  (hm:qs w A β mx vm) {out:Out}
  (h:sa T st.h t x lo hi mx=some out) (hc:∀p∈out.cond,p):Reads P A β w (Instr.sliceAt t vx vl vh vm) out:=by
 unfold sa at h;split at h
 . rename_i s Cy jO Py U8 Bl
   have hvm:vm=none:=by
    grind[ic]
   subst hvm;have l8:=ic Py hl;have hh':=ic U8 hh;simp only [af] at hx;obtain⟨rfl,hs⟩:=hx;cases hd:eH T t rJ with
   |false=>grind
   |true=>
    simp only [hd,L!] at h
    have hu:P.underlying t=some .string:=by
     unfold eH at hd;cases ht:T.find t with
     |none=>grind
     |some te=>
      simp only [ht] at hd;rw [(hT.ok t te ht).1];grind[rJ]
    have fin:∀(r:B8),(bE s.length jO<=s.length)->(∀m,jO=some m->0<=m/\m<=(s.length:Int))->(∀m,Cy=some m->0<=m/\m<=(bE s.length jO:Int))->
      r=((s.take (bE s.length jO)).drop (fy Cy))->∃v,(Instr.sliceAt t (.string ⟨s.toArray⟩) vl vh none).run P w= .ok v w/\af w A β v (.str r):=by
     intro r h1 h2 h3 h4;have hb:=mG (P:=P) (w:=w) (s:=false) (cap:=s.length) l8 hh' (Nat.le_refl _) h2 h3;refine⟨_,FT hu s h1 hb,?_⟩;grind[af]
    split at h
    . simp only [A!] at h;subst h;exact⟨⟨rfl,rfl,rfl⟩,fin s (by simp [bE]) z! z! (by simp [bE,fy])⟩
    . rename_i b;simp only [Option.some.injEq] at h;subst h;obtain⟨c0,c1⟩:=fu hc;exact⟨⟨rfl,rfl,rfl⟩,fin _ (by grind[bE]) x! z! (by rfl)⟩
    . rename_i x;simp only [Option.some.injEq] at h;subst h;obtain⟨c0,c1⟩:=fu hc;exact⟨⟨rfl,rfl,rfl⟩,fin _ (by simp [bE]) z! (by grind[Option.some.injEq,bE]) (by simp [bE,fy])⟩
    . rename_i x b;simp only [Option.some.injEq] at h;subst h;obtain⟨c0,c1,c2⟩:=fu hc;exact⟨⟨rfl,rfl,rfl⟩,fin _ (by grind[bE]) x! (by grind[Option.some.injEq,bE]) (by rfl)⟩
 . rename_i row l Cy jO Py U8 Bl
   have hvm:vm=none:=by
    grind[ic]
   subst hvm;have l8:=ic Py hl;have hh':=ic U8 hh;simp only [af] at hx;cases hs:bC T t row.length with
   |false=>grind
   |true=>
    simp only [hs,L!] at h;obtain⟨e,ii,hu,mF,fj,mZ⟩:=fP hT hs;obtain⟨ad,cap,rfl,hle,PC⟩:=wP hx
    have fin:∀(r:List (Row row)),(bE l.length jO<=l.length)->(fy Cy<=bE l.length jO)->(∀m,jO=some m->0<=m/\m<=(l.length:Int))->(∀m,Cy=some m->0<=m/\m<=(bE l.length jO:Int))->
      r=((l.take (bE l.length jO)).drop (fy Cy))->∃v,(Instr.sliceAt t (.slice ad l.length cap) vl vh none).run P w= .ok v w/\af w A β v (.sl row r):=by
     intro r h1 h1' h2 h3 h4;have hb:=mG (P:=P) (w:=w) (s:=true) (cap:=cap) l8 hh' hle h2 h3;refine⟨_,rn hu mF ad l.length cap hb,?_⟩;grind[af,RY]
    split at h
    . simp only [A!] at h;subst h;exact⟨⟨rfl,rfl,rfl⟩,fin l (by simp [bE]) (by simp [fy]) z! z! (by simp [bE,fy])⟩
    . rename_i b;simp only [Option.some.injEq] at h;subst h;obtain⟨c0,c1⟩:=fu hc;exact⟨⟨rfl,rfl,rfl⟩,fin _ (by grind[bE]) (by simp [fy]) x! z! (by rfl)⟩
    . rename_i x;simp only [Option.some.injEq] at h;subst h;obtain⟨c0,c1⟩:=fu hc;exact⟨⟨rfl,rfl,rfl⟩,fin _ (by simp [bE]) (by grind[bE,fy]) z! (by grind[Option.some.injEq,bE]) (by simp [bE,fy])⟩
    . rename_i x b;simp only [Option.some.injEq] at h;subst h;obtain⟨c0,c1,c2⟩:=fu hc;exact⟨⟨rfl,rfl,rfl⟩,fin _ (by grind[bE]) (by grind[bE,fy]) x! (by simp only [Option.some.injEq,bE];rintro m rfl;omega) (by simp [bE,fy])⟩
 . rename_i row l b c Py U8 Bl
   have hvl:vl=none:=by
    rcases ic Py hl with⟨_,h⟩|⟨k,m,h,_⟩
    . exact h
    . cases h
   subst hvl
   obtain⟨kb,rfl⟩:∃kb,vh=some (.int kb b):=by
    rcases ic U8 hh with⟨h,_⟩|⟨k,m,h,h2⟩
    . cases h
    . cases h;exact⟨k,h2⟩
   obtain⟨kc,rfl⟩:∃kc,vm=some (.int kc c):=by
    rcases ic Bl hm with⟨h,_⟩|⟨k,m,h,h2⟩
    . cases h
    . cases h;exact⟨k,h2⟩
   simp only [af] at hx;cases hs:bC T t row.length with
   |false=>simp [hs] at h
   |true=>
    simp only [hs,L!] at h;obtain⟨e,ii,hu,mF,fj,mZ⟩:=fP hT hs;obtain⟨ad,cap,rfl,hle,PC⟩:=wP hx;simp only [A!] at h;subst h;obtain⟨c0,c1,c2⟩:=fu hc;subst c1
    have hb:(Instr.sliceBounds true l.length cap none (some (.int kb b)) (some (.int kc b))).run P w= .ok (0,b.toNat,b.toNat) w:=by
     simp [Instr.sliceBounds,run_sliceBound (P:=P) (w:=w) (k:=kc) (n:=b) (y:=cap) w! w!,run_sliceBound (P:=P) (w:=w) (k:=kb) (n:=b) (y:=b.toNat) w! w!]
    have kF:(Instr.sliceAt t (.slice ad l.length cap) none (some (.int kb b)) (some (.int kc b))).run P w=
      .ok (.slice (if b.toNat=0 then ad else ad.map (·.add (0*ii.size))) (b.toNat-0) (b.toNat-0)) w:=by
     simp [Instr.sliceAt,Instr.slice,run_underlying hu,sizeOf,typeInfo,mF,hb]
    have hR:=RY hx 0 b.toNat w! w! (if b.toNat=0 then ad else ad.map (·.add (0*ii.size))) (fun _=>by
     by_cases hz:b.toNat=0
     . rw [R! hz];cases ad<;>simp [Addr.add]
     . rw [N! hz];cases ad<;>simp [Addr.add])
    have hlen:((l.take b.toNat).drop 0).length=b.toNat:=by rw [List.drop_zero,X!];omega
    simp only [Rd] at hR;obtain⟨a0,aHv,cs,g1,g2,g3,g4,g5⟩:=hR;simp only [Value.slice.injEq] at g1;obtain⟨g6,g7,g8⟩:=g1;rw [List.drop_zero] at hlen g4;rw [g6,Nat.sub_zero] at kF;refine⟨⟨rfl,rfl,rfl⟩, .slice a0 b.toNat b.toNat,kF,?_⟩;simp only [af,Rd];refine⟨⟨a0,b.toNat,cs,?_,w!,w!,g4,g5⟩,a0,?_⟩<;>rw [hlen]
 . rename_i k Cy jO Py U8 Bl
   have hvm:vm=none:=by
    rcases ic Bl hm with⟨_,h⟩|⟨k,m,h,_⟩
    . exact h
    . cases h
   subst hvm;have l8:=ic Py hl;have hh':=ic U8 hh;split at h
   . rename_i e' row l fr hk;cases hs:bC T t row.length with
     |false=>simp [hs] at h
     |true=>
      simp only [hs,L!] at h;obtain⟨e,ii,hu,mF,fj,mZ⟩:=fP hT hs;simp only [af] at hx;obtain⟨rfl,_⟩:=hx
      have fin:(bE l.length jO<=l.length)->(fy Cy<=bE l.length jO)->(∀m,jO=some m->0<=m/\m<=(l.length:Int))->(∀m,Cy=some m->0<=m/\m<=(bE l.length jO:Int))->
        (β k= .slice none 0 0/\l= []/\(Instr.sliceAt t (β k) vl vh none).run P w= .ok (.slice none 0 0) w)\/∃b cap FQ,β k= .slice (some ⟨b,0,none⟩) l.length cap/\(l.length<=cap/\cap<=maxLen)/\
          (Instr.sliceAt t (β k) vl vh none).run P w= .ok (.slice FQ (bE l.length jO-fy Cy) (cap-fy Cy)) w/\(fy Cy<cap->FQ=some ⟨b,fy Cy*row.length,none⟩)/\(fy Cy=0->FQ=some ⟨b,0,none⟩):=by
       intro h1 h1' h2 h3;rcases ib hB hk with⟨g1,g2⟩|⟨b,cap,cur,g1,_,g3,g4,_⟩
       . subst g2;have hb:=mG (P:=P) (w:=w) (s:=true) (cap:=0) l8 hh' (O! _) h2 h3;have hz:bE 0 jO=0:=by simpa using h1
         have hz2:fy Cy=0:=by simp only [List.length_nil] at h1';omega
         refine .inl ⟨g1,rfl,?_⟩;rw [g1,rn hu mF none 0 0 hb,hz,hz2];simp
       . have hb:=mG (P:=P) (w:=w) (s:=true) (cap:=cap) l8 hh' g3 h2 h3;refine .inr ⟨b,cap,_,g1,⟨g3,g4⟩,by rw [g1];exact rn hu mF (some ⟨b,0,none⟩) l.length cap hb,fun kU=> ?_,fun hz=> ?_⟩
         . rw [N! w!,fj];simp [Addr.add_mid]
         . split
           . rfl
           . rw [hz];simp [Addr.add]
      split at h
      . simp only [A!] at h;subst h;rcases fin (by simp [bE]) (by simp [fy]) z! z! with⟨g1,g2,g3⟩|⟨b,cap,FQ,g1,g2,g3,_,g5⟩
        . exact⟨⟨rfl,rfl,rfl⟩,_,g3,by simp only [af];exact⟨g1.symm,rfl⟩⟩
        . refine⟨⟨rfl,rfl,rfl⟩,_,g3,?_⟩;simp only [af];rw [g5 rfl,g1];simp [bE,fy,Value.oneCell']
      . rename_i b;simp only [A!] at h;subst h;obtain⟨c0,c1⟩:=fu hc;rcases fin (by simp only [bE];omega) (by simp [fy]) (by simp only [A!];rintro m rfl;exact⟨c0,c1⟩) z! with⟨g1,g2,g3⟩|⟨bb,cap,FQ,g1,g2,g3,_,g5⟩
        . refine⟨⟨rfl,rfl,rfl⟩,_,g3,?_⟩;simp only [af];refine .inl ⟨g1,trivial,?_⟩;subst g2;simp at c1;omega
        . refine⟨⟨rfl,rfl,rfl⟩,_,g3,?_⟩;simp only [af];rw [g5 rfl];exact .inr ⟨bb,_,cap,g1,by simp [bE,fy],w!⟩
      . rename_i x;simp only [A!] at h;subst h;obtain⟨c0,c1⟩:=fu hc;rcases fin (by simp [bE]) (by simp only [bE,fy];omega) z! (by simp only [A!,bE];rintro m rfl;exact⟨c0,c1⟩) with⟨g1,g2,g3⟩|⟨bb,cap,FQ,g1,g2,g3,g4,_⟩
        . refine⟨⟨rfl,rfl,rfl⟩,_,g3,?_⟩;simp only [af];subst g2;exact .inl ⟨z!,none,0,rfl,z!⟩
        . refine⟨⟨rfl,rfl,rfl⟩,_,g3,?_⟩;simp only [af,bE,fy] at g4 |-;by_cases hz:l.length-x.toNat=0
          . exact .inl ⟨hz,FQ,_,by rw [hz],w!⟩
          . exact .inr ⟨bb,_,cap,cap-x.toNat,g1,by rw [g4 w!],w!,w!,w!⟩
      . rename_i x b;simp only [A!] at h;subst h;obtain⟨c0,c1,c2⟩:=fu hc;rcases fin (by simp only [bE];omega) (by simp only [bE,fy];omega) (by simp only [A!];rintro m rfl;exact⟨w!,c2⟩) (by simp only [A!,bE];rintro m rfl;omega) with⟨g1,g2,g3⟩|⟨bb,cap,FQ,g1,g2,g3,g4,_⟩
        . refine⟨⟨rfl,rfl,rfl⟩,_,g3,?_⟩;simp only [af];subst g2;exact .inl ⟨by simp at c2;omega,none,0,rfl,z!⟩
        . refine⟨⟨rfl,rfl,rfl⟩,_,g3,?_⟩;simp only [af,bE,fy] at g4 |-;by_cases hz:b.toNat-x.toNat=0
          . exact .inl ⟨hz,FQ,_,by rw [hz],w!⟩
          . exact .inr ⟨bb,_,cap,cap-x.toNat,g1,by rw [g4 w!],w!,w!,w!⟩
   . cases h
 grind
end
end Go.Vg

end
section
namespace Go.Vg
open Go
section
variable {P:Program} {C:Ctx} {A:Nat->Prop} {β:Nat->Value} {st:St} {a:Act} {w:World} {T:cJ}
theorem PD:∀(t:Ty) (v:Value) (x:D t),Rd w A t v x->v.oneCell'=true
 | .int _,v,x,h=>by rw [h.1];rfl
 | .bool,v,x,h=>by rw [h];rfl
 | .str,v,x,h=>by rw [h.1];rfl
 | .slice _,v,x,h=>by obtain⟨_,_,_,h1,_⟩:=h;rw [h1];rfl
theorem yr:∀(ts:List Ty) (vs:List Value) (x:Row ts),bT w A ts vs x->∀v∈vs,v.oneCell'=true
 | [],vs,_,h=>by grind[bT]
 |t::ts,vs,x,h=>by
  obtain⟨v,cK,rfl,h1,h2⟩:=h;intro u hu;rcases P!.1 hu with rfl|hu
  . exact PD t _ _ h1
  . exact yr ts cK _ h2 u hu
theorem yu {row:List Ty}:∀(l:List (Row row)) (cs:List Value),eu (bT w A row) cs l->∀v∈cs,v.oneCell'=true
 | [],cs,h=>by grind[eu]
 |x::l,cs,⟨c1,c2,hc,h1,h2⟩=>by
  subst hc;intro u hu;rcases F!.1 hu with hu|hu
  . exact yr row c1 x h1 u hu
  . exact yu l c2 h2 u hu
theorem j4 {r r':List Ty} {l:List (Row r)} {l':List (Row r')}(h:gu r r' l=some l'):∃e:r=r',e▸l=l':=by
 grind[gu,Option.some.injEq,Ty.lX]
structure Src (P:Program) (w:World) (A:Nat->Prop) (row:List Ty) (m:List (Row row)) (v:Value) (cs:List Value):Prop where
 rd:eu (bT w A row) cs m
 len:(Builtin.lenOf v).run P w= .ok m.length w
 first :∀w':World,w'.heap=w.heap->∀n,n<=m.length->(Builtin.firstCells row.length n v).run P w'= .ok (cs.take (n*row.length)).toArray w'
 max:m.length<=maxLen
theorem JF {w w':World}(h:w'.heap=w.heap)(p:Addr):w'.cell? p=w.cell? p:=by grind[World.cell?]
theorem pO {row:List Ty} {m:List (Row row)} {cs:List Value} {ad:Option Addr} {cap:Nat}(rM:eu (bT w A row) cs m)(fx:cs≠ []->∃b o,ad=some ⟨b,o,none⟩/\w.rangeAt b o cs)(ZQ:m.length<=maxLen):
  Src P w A row m (.slice ad m.length cap) cs:=by
 refine⟨rM,by rfl,fun w' hw n hn=> ?_,ZQ⟩;have hlen:=gi m cs rM;by_cases h0:cs= []
 . subst h0
   have hz:n*row.length=0:=by
    grind[Nat.eq_zero_or_pos,Nat.mul_eq_zero]
   cases ad with
   |none=>simp [Builtin.firstCells]
   |some p=>simp [Builtin.firstCells,hz,loadCells,loadCellsFrom]
 . obtain⟨b,o,rfl,hr⟩:=fx h0
   have kU:(cs.take (n*row.length)).length=n*row.length:=by
    simp_all
   have :=run_loadCells_list (P:=P) w' ⟨b,o,none⟩ (cs.take (n*row.length)) (fun j v hv=>by
    rw [Addr.add_mid,JF hw];exact jF hr j v hv)
   grind[Builtin.firstCells]
theorem JG {row:List Ty}:Src P w A row ([]:List (Row row)) (.slice none 0 0) []:=
 pO (m:=([]:List (Row row))) (by rfl) (fun h=>absurd rfl h) z!
theorem PE {row:List Ty} {l:List (Row row)} {v:Value}(h:Rd w A (.slice row) v l):∃cs,Src P w A row l v cs:=by
 obtain⟨ad,cap,cs,rfl,h2,h3,h4,h5⟩:=h;exact⟨cs,pO h4 (fun gI=>let⟨b,o,h1,_,h2⟩:=h5 gI;⟨b,o,h1,h2⟩) w!⟩
theorem JH(s:B8):eu (bT w A [.int .u8]) (s.map fun b=>Value.int .u8 (b.toNat:Int)) s:=by
 induction s with
 |nil=>rfl
 |cons b s ih=>
  refine⟨[.int .u8 (b.toNat:Int)],s.map fun b=>Value.int .u8 (b.toNat:Int),rfl,?_,ih⟩;refine⟨_,[],rfl,⟨rfl,?_,?_⟩,rfl⟩
  . simp [lo,Row.hd,DI.toInt]
  . have :=b.toNat_lt;grind[hi,Row.hd,DI.toInt]
theorem ahv(s:B8)(hs:s.length<=maxLen):Src P w A [.int .u8] s (.string ⟨s.toArray⟩) (s.map fun b=>Value.int .u8 (b.toNat:Int)):=by
 refine⟨JH s,by rfl,fun w' hw n hn=> ?_,hs⟩;simp_all[Builtin.firstCells,J!,Nat.mul_one,Sem.run_pure,DP,Array.ext',List.map_take]
theorem nZ {k e:Nat} {row:List Ty} {l:List (Row row)} {fr:Bool}(hB:aJ C A β st a w)(h:st.h k=some (.row e row l fr)):
  (β k= .slice none 0 0/\l= [])\/∃b cap cs,β k= .slice (some ⟨b,0,none⟩) l.length cap/\l.length<=cap/\cap<=maxLen/\eu (bT w A row) cs l/\w.rangeAt b 0 cs:=by
 rcases ib hB h with h|⟨b,cap,cur,h1,h2,h3,h4,h5,h6,_⟩
 . grind
 . refine .inr ⟨b,cap,_,h1,h3,h4,h6,fun j v hj=> ?_⟩;grind[World.cell?]
theorem IU(hB:aJ C A β st a w) {x:AV} {v:Value}(hx:af w A β v x) {row:List Ty} {m:List (Row row)}(h:ng st.h row x=some m):∃cs,Src P w A row m v cs:=by
 unfold ng at h;split at h
 . rename_i s;obtain⟨e,h⟩:=j4 h;subst e;simp only at h;subst h;simp only [af] at hx;obtain⟨rfl,hs⟩:=hx;exact⟨_,ahv s hs⟩
 . simp only [A!] at h;subst h;simp only [af] at hx;subst hx;exact⟨[],JG⟩
 . rename_i h1 h2
   have key:∀r (l:List (Row r)),(iF st.h x).1= .sl r l->gu r row l=some m->∃cs,Src P w A row m v cs:=by
    intro r l hp hc;obtain⟨e,hc⟩:=j4 hc;subst e;simp only at hc;subst hc;unfold iF at hp;split at hp
    . rename_i k;simp only [af] at hx;split at hp
      . rename_i e' lZ l' fr hk;simp only [AV.sl.injEq] at hp;obtain⟨rfl,hp⟩:=hp;simp only [heq_eq_eq] at hp;subst hp;rcases nZ hB hk with⟨g1,g2⟩|⟨b,cap,cs,g1,g2,g3,g4,g5⟩
        . subst g2;rw [hx.1,g1];exact⟨[],JG⟩
        . rw [hx.1,g1];exact⟨cs,pO g4 (fun _=>⟨b,0,rfl,g5⟩) w!⟩
      grind
    . rename_i k n;simp only [af] at hx;split at hp
      . rename_i e' lZ l' fr hk;simp only [AV.sl.injEq] at hp;obtain⟨rfl,hp⟩:=hp;simp only [heq_eq_eq] at hp;subst hp;rcases nZ hB hk with⟨g1,g2⟩|⟨b,cap,cs,g1,g2,g3,g4,g5⟩
        . subst g2;rcases hx with⟨_,hv,hn⟩|⟨b,m,cap,hv,_⟩
          . subst hn;rw [hv];exact⟨[],by grind[JG]⟩
          grind
        . rcases hx with⟨hv,_,_⟩|⟨b',m,l4,hv,RR,hle⟩
          . grind
          . rw [g1] at hv;obtain⟨rfl,rfl,rfl⟩:=hv;have hl:(l'.take n).length=n:=by grind
            rw [RR];have :=pO (P:=P) (ad:=some ⟨b,0,none⟩) (cap:=cap) (fw l' cs n g4).1 (fun _=>⟨b,0,rfl,jF g5⟩) w!;grind
      grind
    . rename_i k sz off n;simp only [af] at hx;split at hp
      . rename_i e' lZ l' fr hk;cases fj:Nat.beq sz lZ.length with
        |false=>grind
        |true=>
         have fj:=D! fj;subst fj;simp only [ek,L!,AV.sl.injEq] at hp;obtain⟨rfl,hp⟩:=hp;simp only [heq_eq_eq] at hp;subst hp;rcases hx with⟨hn,ad,cap,hv,_⟩|⟨b',m,l4,Cz,hv,RR,hle,aLZ,aKi⟩
         . subst hn;rw [hv];have :=pO (P:=P) (w:=w) (A:=A) (row:=lZ) (m:= []) (ad:=ad) (cap:=cap) (cs:= []) (by rfl) (fun h=>absurd rfl h) z!;grind
         . rcases nZ hB hk with⟨g1,g2⟩|⟨b,cap,cs,g1,g2,g3,g4,g5⟩
           . grind
           . rw [g1] at hv;simp only [Value.slice.injEq,Option.some.injEq,Addr.mk.injEq,and_true] at hv;obtain⟨rfl,rfl,rfl⟩:=hv;have hl:((l'.drop off).take n).length=n:=by grind
             rw [RR];have :=pO (P:=P) (ad:=some ⟨b,off*lZ.length,none⟩) (cap:=Cz) (fw _ _ n (fw l' cs off g4).2).1 (fun _=>⟨b,_,rfl,by have :=jF (n:=n*lZ.length) (qq (n:=off*lZ.length) g5);grind⟩) w!;grind
      grind
    simp_all[af,PE]
   split at h
   . grind
   . rename_i r l hp
     have Iv:x= .full r l:=by
      unfold iF at hp;grind
     grind[af,j4,PE]
   grind
end
end Go.Vg

end
section
namespace Go.Vg
open Go
section
variable {P:Program} {C:Ctx} {A:Nat->Prop} {β:Nat->Value} {st:St} {a:Act} {w:World} {T:cJ}
structure ZR (P:Program) (t t' e:TypeId) (size bytes:Nat) (z:Value):Prop where
 under:P.underlying t=some (.slice e)
 aKa:∃d,P.underlying t'=some d/\(d= .string\/∃e',d= .slice e')
 info:∃i,P.info? e=some i/\i.size=size/\i.bytes=bytes/\i.zero=some z
 ahw:z.cells.size=size
 pos:0<size
theorem oV {t t' ty e:TypeId} {size bytes:Nat} {z:Value}(hE:ZR P t t' e size bytes z) {base:Option Addr} {n cap:Nat} {ay1:List Value} {x:Value} {m:Nat} {news:List Value}
  (hold:∀w':World,w'.heap=w.heap->(Builtin.firstCells size n (.slice base n cap)).run P w'= .ok ay1.toArray w')
  (hlen:(Builtin.lenOf x).run P w= .ok m w) (jT:∀w':World,w'.heap=w.heap->(Builtin.firstCells size m x).run P w'= .ok news.toArray w')
  (hg:cap<n+m) (U9:n+m<=maxLen) (Aw:(n+m)*bytes<=140737488355328):
  (Builtin.append_ #[t,t'] ty #[.slice base n cap,x]).run P w=
    .ok (.slice (some ⟨w.heap.size,0,none⟩) (n+m) (grownCap w (n+m) cap e))
      (w.drew.alloc (.cells (ay1.toArray++(news.toArray++Builtin.zeroCells z.cells (grownCap w (n+m) cap e-(n+m)))) e)):=by
 obtain⟨hu,⟨d',JI,wQ⟩,⟨i,hi,hs,hb,hz⟩,hzs,mZ⟩:=hE;subst hs;subst hb;have hn:¬(n+m<=cap):=by omega
 have ay2:¬(9223372036854775807<((n:Int)+(m:Int))):=by grind[maxLen]
 have h48:=growslice_fits hg Aw;have ay3:¬(281474976710656<Builtin.nextslicecap (n+m) cap*i.bytes):=by omega
 have hfo:=hold w.drew rfl;have hf:=jT w.drew rfl;rcases wQ with rfl|⟨e',rfl⟩
 . simp [Builtin.append_,run_underlying hu,run_underlying JI,sizeOf,typeInfo,zeroValue,hi,hz,hlen,hn,ay2,ay3,Question.forced,hf,hfo,newRow,grownCap]
 . simp [Builtin.append_,run_underlying hu,run_underlying JI,sizeOf,typeInfo,zeroValue,hi,hz,hlen,hn,ay2,ay3,Question.forced,hf,hfo,newRow,grownCap]
theorem DQ {t t' ty e:TypeId} {size bytes:Nat} {z:Value}(hE:ZR P t t' e size bytes z) {g n cap:Nat} {cur:Array Value}(hg:w.heap[g]? =some (.cells cur e (0,0))) {x:Value} {m:Nat} {news:List Value}
  (hlen:(Builtin.lenOf x).run P w= .ok m w) (jT:∀w':World,w'.heap=w.heap->(Builtin.firstCells size m x).run P w'= .ok news.toArray w')
  (hl:news.length=m*size) (h1:∀u∈news,u.oneCell'=true) (JJ:n+m<=cap) (fx:cur.size=cap*size):
  (Builtin.append_ #[t,t'] ty #[.slice (some ⟨g,0,none⟩) n cap,x]).run P w=
    .ok (.slice (some ⟨g,0,none⟩) (n+m) cap) (w.setRow g (cur.toList.take (n*size)++news++cur.toList.drop (n*size+news.length)).toArray):=by
 obtain⟨hu,⟨d',JI,wQ⟩,⟨i,hi,hs,hb,hz⟩,hzs,mZ⟩:=hE;subst hs;have Hc:n*i.size+news.length<=cur.size:=by rw [hl,fx,<-j?];simp_all[D?]
 have sx:=run_storeCells_at P g (n*i.size) e news 0 cur w hg w! h1;have hf:=jT w rfl;rcases wQ with rfl|⟨e',rfl⟩
 . simp [Builtin.append_,run_underlying hu,run_underlying JI,sizeOf,typeInfo,hi,hlen,JJ,hf,Addr.add_lit,sx]
 . simp [Builtin.append_,run_underlying hu,run_underlying JI,sizeOf,typeInfo,hi,hlen,JJ,hf,Addr.add_lit,sx]
theorem pP {t t' ty e:TypeId} {size bytes:Nat} {z:Value}(hE:ZR P t t' e size bytes z) {v:Value} {n:Nat} {xs:List Value}(jN:w.ownsRow 0 e size v n xs) {x:Value} {m:Nat} {news:List Value}
  (hlen:(Builtin.lenOf x).run P w= .ok m w) (jT:∀w':World,w'.heap=w.heap->(Builtin.firstCells size m x).run P w'= .ok news.toArray w')
  (hl:news.length=m*size) (h1:∀u∈news,u.oneCell'=true) (U9:n+m<=maxLen) (Aw:(n+m)*bytes<=140737488355328):
  ∃v' w',(Builtin.append_ #[t,t'] ty #[v,x]).run P w= .ok v' w'/\w'.ownsRow 0 e size v' (n+m) (xs++news)/\w.grownBy w' v.ownBlock/\∀b,aB v'=some b->aB v=some b\/w.heap.size<=b:=by
 have ahy:(xs++news).length=(n+m)*size:=by rw [C!,jN.1,hl,j?]
 have grown:∀(nh:Nat) (row:Option Nat),
   (w.drew.alloc (.cells (xs.toArray++(news.toArray++Builtin.zeroCells z.cells (grownCap w (n+m) nh e-(n+m)))) e)).ownsRow 0 e size
     (.slice (some ⟨w.heap.size,0,none⟩) (n+m) (grownCap w (n+m) nh e)) (n+m) (xs++news)/\
   w.grownBy (w.drew.alloc (.cells (xs.toArray++(news.toArray++Builtin.zeroCells z.cells (grownCap w (n+m) nh e-(n+m)))) e)) row:=by
  intro nh row;have Nf:=grownCap_ge w (n+m) nh e;have FU:grownCap w (n+m) nh e<=maxLen:=grownCap_le_maxLen w (n+m) nh e U9;refine⟨⟨ahy, .inr ⟨w.heap.size,_,_,rfl,w!,heap_alloc_new w.drew _,Nf,FU,?_,?_⟩⟩,⟨rfl,rfl,rfl,z!,fun k hk _=>heap_alloc_old w.drew _ k hk⟩⟩
  . simp only [Array.size_append,List.size_toArray,size_zeroCells,hE.ahw,jN.1,hl,<-Nat.add_mul];grind
  grind
 rcases jN.2 with⟨rfl,rfl⟩|⟨g,cap,cur,rfl,hbg,hg,hnc,FU,fx,aKk⟩
 . have hx:xs= []:=List.eq_nil_of_length_eq_zero x!;subst hx;by_cases hm:m=0
   . subst hm;have hn:news= []:=List.eq_nil_of_length_eq_zero w!;subst hn;refine⟨.slice none 0 0,w,?_,x!,⟨rfl,rfl,rfl,Nat.le_refl _,fun _ _ _=>rfl⟩,x!⟩;obtain⟨hu,⟨d',JI,wQ⟩,⟨i,hi,hs,hb,hz⟩,hzs,mZ⟩:=hE;subst hs;have hf:=jT w rfl;rcases wQ with rfl|⟨e',rfl⟩
     . simp [Builtin.append_,run_underlying hu,run_underlying JI,sizeOf,typeInfo,hi,hlen,hf]
     . simp [Builtin.append_,run_underlying hu,run_underlying JI,sizeOf,typeInfo,hi,hlen,hf]
   . have hold:∀w':World,w'.heap=w.heap->(Builtin.firstCells size 0 (.slice none 0 0)).run P w'= .ok ([]:List Value).toArray w':=fun w' _=>by rfl
     have hr:=oV (ty:=ty) hE hold hlen jT w! U9 Aw;have hgr:=grown 0 (Value.ownBlock (.slice none 0 0));grind[aB,Option.some.injEq]
 . by_cases JJ:n+m<=cap
   . have Hc:n*size+news.length<=cur.size:=by rw [hl,fx,<-j?];simp_all[D?]
     have hr:=DQ (ty:=ty) hE hg hlen jT hl h1 JJ fx;refine⟨_,_,hr,⟨ahy, .inr ⟨g,cap,_,rfl,hbg,setRow_heap w g cur _ e _ hg,JJ,FU,?_,?_⟩⟩,⟨rfl,rfl,rfl,z!,fun k _ hk=>setRow_other w g k _ (fun e=>hk (by grind[Value.ownBlock]))⟩,fun b hb=> .inl hb⟩
     . grind
     grind
   . have holds:=jN.cells (g:=g) rfl
     have hold:∀w':World,w'.heap=w.heap->(Builtin.firstCells size n (.slice (some ⟨g,0,none⟩) n cap)).run P w'= .ok xs.toArray w':=fun w' hw'=>by
      grind[run_loadCells_list,JF,Builtin.firstCells]
     have hr:=oV (ty:=ty) hE hold hlen jT w! U9 Aw;have hgr:=grown cap (Value.ownBlock (.slice (some ⟨g,0,none⟩) n cap));grind[aB,Option.some.injEq]
theorem aJ.newRow(hB:aJ C A β st a w) {dst:Option Nat}(hd:∀t,dst=some t->t<st.n) {d e:Nat} {row:List Ty} {l:List (Row row)} {cond:List Prop} {del:List Nat} {v':Value} {w':World} {rw :Option Nat} {xs:List Value}
  (kY:st.h d=none/\rK d=false) (hg:w.grownBy w' rw) (lK:∀b,rw=some b->∃k,aM del k=true/\(st.h k).isSome/\aB (β k)=some b) (l9:∀b,rw=some b->¬A b)
  (jN:w'.ownsRow 0 e row.length v' l.length xs) (rM:eu (bT w A row) xs l) (hblk:∀b,aB v'=some b->rw=some b\/w.heap.size<=b):
  aJ C A (cd β d v') (st.put dst {cond:=cond,res:= .own d,del:=del,new:= [(d, .row e row l false)]}) (a.put dst v') w':=by
 have hK:dC w w' A A:=fun b hb=>⟨hb,hg.block b (hB.bound b hb) (fun h=>l9 b h.symm hb)⟩
 have hf:∀k b,ay [(d,AB.row e row l false)] k=some b->k=d/\b= .row e row l false :=by
  grind[ay,bh]
 refine hB.step (out:= {cond:=cond,res:= .own d,del:=del,new:= [(d, .row e row l false)]}) hd ?_ (by simp [ay]) ?_ hK hg.os hg.tape hg.output hg.size ?_ (fun b hb=>Y? (hB.bound b hb) hg.size) (fun b hb=> .inl hb) (by simp [ay]) ?_ ?_ ?_ ?_
 . grind
 . intro k h;have :k≠d:=by rintro rfl;simp [ay] at h
   grind[cd]
 . intro b hb ht;refine hg.block b hb (fun h=> ?_);obtain⟨k,h1,h2,h3⟩:=lK b h.symm;exact ht k ⟨h2, .inr h1⟩ h3
 . intro k ab h;obtain⟨rfl,rfl⟩:=hf k ab h;refine⟨xs,by simpa [cd] using jN,bZ (fun c x hx=>b4 hK row c x hx) l xs rM,fun b hb=> ?_⟩;simp [cd,K?] at hb;rcases hblk b hb with h|h
   . exact l9 b h
   . intro hA;exact absurd (hB.bound b hA) w!
 . intro k b ab h hb;obtain⟨rfl,_⟩:=hf k ab h;simp [cd,K?] at hb;rcases hblk b hb with h|h
   . exact .inr (let⟨k,h1,h2,h3⟩:=lK b h;⟨k,h1,h2,h3⟩)
   . exact .inl h
 . intro k k' b h h' _ _;obtain⟨x,hx⟩:=T!.1 h;obtain⟨y,hy⟩:=T!.1 h';rw [(hf k x hx).1,(hf k' y hy).1]
 . simp [af,cd,K?,true_and]
   obtain⟨ad,l',c,rfl⟩:∃ad l c,v'= .slice ad l c:=by
    rcases jN.2 with⟨rfl,_⟩|⟨g,cap,cur,rfl,_⟩
    . exact⟨_,_,_,rfl⟩
    . exact⟨_,_,_,rfl⟩
   rfl
end
end Go.Vg

end
section
namespace Go.Vg
open Go
section
variable {P:Program} {C:Ctx} {A:Nat->Prop} {β:Nat->Value} {st:St} {a:Act} {w:World} {T:cJ}
theorem DR(hT:bD T P) {t e:TypeId} {te:TE}(h1:Au T t=some e)(h2:tN T t=some te):P.underlying t=some (.slice e)/\T.find e=some te/\∃i,P.info? e=some i/\i.size=te.size/\i.bytes=te.bytes/\i.zero=some te.zero:=by
 unfold Au at h1;unfold tN at h2;cases ht:T.find t with
 |none=>grind
 |some tt=>
  simp [ht] at h1 h2;cases hd:tt.desc with
  |slice e'=>
   simp [hd,Option.some.injEq] at h1 h2;subst h1;exact⟨by grind[l7],h2,(hT.ok _ _ h2).2⟩
  |_=>grind
theorem yv(z:Value):(ofConst z).cells.length=z.cells.size:=by
 unfold ofConst;split
 . simp [AV.cells,Value.cells]
 . rename_i h
   have h1:(As z).cells.length=1:=by
    unfold As;split
    . split<;>rfl
    . split<;>rfl
    . rename_i s;cases Nat.ble s.data.toList.length 1000000<;>rfl
    all_goals rfl
   rw [h1];cases z<;>first|rfl|grind
theorem wR {n k x:Nat}(h:n<=x/k):n*k<=x:=f? (D? _ h) (Nat.div_mul_le_self x k)
theorem sy(hT:bD T P) {t:TypeId} {f:TypeDesc->Bool}(h:eH T t f=true):∃d,P.underlying t=some d/\f d=true :=by
 grind[eH,l7]
theorem Va {d:TypeDesc}(h:IS d=true):d= .string\/∃e,d= .slice e:=by
 cases d<;>simp_all [IS]
theorem JK(hB:aJ C A β st a w) {k e:Nat} {row:List Ty} {l:List (Row row)}(h:st.h k=some (.row e row l false)):
  ∃xs,w.ownsRow 0 e row.length (β k) l.length xs/\eu (bT w A row) xs l/\∀b,aB (β k)=some b->¬A b:=by
 obtain⟨xs,h1,h2,h3⟩:=hB.blocks k _ h;grind
theorem DS {v:Value}(h:(∃ad l c,v= .slice ad l c)):v.ownBlock=aB v:=by
 obtain⟨ad,l,c,rfl⟩:=h;cases ad<;>rfl
theorem sA {w:World} {e size n:Nat} {v:Value} {xs:List Value}(h:w.ownsRow 0 e size v n xs):∃ad l c,v= .slice ad l c:=by
 rcases h.2 with⟨rfl,_⟩|⟨g,cap,cur,rfl,_⟩
 . grind
 grind
theorem Ng(hT:bD T P)(hB:aJ C A β st a w) {dst:Option Nat}(hd:∀t,dst=some t->t<st.n) {d:Nat}(kY:st.h d=none/\rK d=false) {t t' ty:TypeId} {s x:AV} {vs vx:Value}(hs:af w A β vs s)(hx:af w A β vx x) {out:Out}
  (h:pK T st.h d t t' s x=some out) (hc:∀p∈out.cond,p):∃v' w',(Builtin.append_ #[t,t'] ty #[vs,vx]).run P w= .ok v' w'/\Rel C (st.put dst out) (a.put dst v') w':=by
 unfold pK at h;split at h
 . rename_i e te he nu;split at h
   . rename_i row lK;obtain⟨hu,RZ,i,hi,BI,Vb,Vc⟩:=DR hT he nu;cases hq:(Nat.beq row.length te.size&&Nat.blt 0 te.size&&Nat.beq (ofConst te.zero).cells.length te.size&&eH T t' IS) with
     |false=>grind
     |true=>
      simp only [hq,cond_true] at h;simp only [Bool.and_eq_true] at hq;obtain⟨⟨⟨q1,q2⟩,q3⟩,q4⟩:=hq;have q1:=Nat.eq_of_beq_eq_true q1;have q2:=Nat.le_of_ble_eq_true q2;have q3:=Nat.eq_of_beq_eq_true q3;obtain⟨d',JI,wQ⟩:=sy hT q4;have hE:ZR P t t' e row.length te.bytes te.zero:=⟨hu,⟨d',JI,Va wQ⟩,⟨i,hi,w!,Vb,Vc⟩,by grind[yv],w!⟩;split at h
      . rename_i m hm;obtain⟨cs,il⟩:=IU (P:=P) hB hx hm;have hlen:=gi m cs il.rd;have ma:=yu m cs il.rd
        have jT:∀w':World,w'.heap=w.heap->(Builtin.firstCells row.length m.length vx).run P w'= .ok cs.toArray w':=fun w' hw'=>by
         have :=il.first w' hw' m.length (Nat.le_refl _);grind
        split at h
        . 
         simp only [Option.some.injEq] at h;subst h;have sB:=fu hc;simp only [af] at hs;subst hs;have jN:=World.ownsRow_nil w 0 e row.length;obtain⟨v',w',g1,g2,g3,g4⟩:=pP (ty:=ty) hE jN il.len jT hlen ma (by have :=Nat.le_trans sB (Nat.div_le_self _ _);grind[maxLen]) (by simp_all[wR]);refine⟨v',w',g1,Rel.ni (hB.newRow hd kY (rw :=none) (by grind[Value.ownBlock]) z! z! x! il.rd (fun b hb=> ?_))⟩;grind[aB]
        . rename_i k;split at h
          . rename_i e' lZ l hk;cases uR:Nat.beq e' e with
            |false=>grind
            |true=>
             have uR:=D! uR;subst uR;simp only [ek,L!] at h;split at h
             . rename_i l' l8;simp only [Option.some.injEq] at h;subst h;have sB:=fu hc;obtain⟨er,l8⟩:=j4 l8;subst er;simp only at l8;subst l8;simp only [af] at hs;obtain⟨rfl,_⟩:=hs;obtain⟨xs,o1,o2,o3⟩:=JK hB hk;obtain⟨v',w',g1,g2,g3,g4⟩:=pP (ty:=ty) hE o1 il.len jT hlen ma (by have :=Nat.le_trans sB (Nat.div_le_self _ _);unfold maxLen;omega) (wR sB);rw [DS (sA o1)] at g3;refine⟨v',w',g1,Rel.ni (hB.newRow hd kY (rw :=aB (β k)) g3 (fun b hb=>⟨k,by simp [aM],by simp [hk],hb⟩) o3 (by simpa using g2) (jr l m xs cs o2 il.rd) (fun b hb=>g4 b hb))⟩
             grind
          grind
        . rename_i k n;split at h
          . rename_i e' lZ l hk;cases uR:Nat.beq e' e with
            |false=>simp [uR] at h
            |true=>
             have uR:=D! uR;subst uR;simp only [ek,L!] at h;split at h
             . rename_i l' l8;simp only [A!] at h;subst h;have sB:=fu hc;obtain⟨er,l8⟩:=j4 l8;subst er;simp only at l8;subst l8;obtain⟨xs,o1,o2,o3⟩:=JK hB hk;have CA:=fw l xs n o2;simp only [af] at hs
               have jN:w.ownsRow 0 e' lZ.length vs n (xs.take (n*lZ.length))/\n<=l.length/\aB vs=aB (β k):=by
                rcases hs with⟨h1,h2,h3⟩|⟨b,mm,cap,h1,h2,h3⟩
                . subst h3;subst h2;rw [h1];exact⟨by simpa using World.ownsRow_nil w 0 e' lZ.length,w!,rfl⟩
                . rcases o1.2 with⟨g1,_⟩|⟨g,l4,cur,g1,g2,g3,g4,g5,g6,g7⟩
                  . rw [h1] at g1;cases g1
                  . rw [h1] at g1;simp only [Value.slice.injEq,A!,Addr.mk.injEq,and_true] at g1;obtain⟨rfl,rfl,rfl⟩:=g1;refine⟨⟨?_, .inr ⟨b,cap,cur,h2,w!,g3,w!,g5,g6,?_⟩⟩,h3,by rw [h1,h2];rfl⟩
                    . rw [X!,o1.1];exact Nat.min_eq_left (D? _ h3)
                    . rw [<-g7,List.take_take,Nat.min_eq_left (D? _ h3)]
               obtain⟨jN,hnl,hbv⟩:=jN;obtain⟨v',w',g1,g2,g3,g4⟩:=pP (ty:=ty) hE jN il.len jT hlen ma (by have :=Nat.le_trans sB (Nat.div_le_self _ _);unfold maxLen;omega) (wR sB);rw [DS (sA jN),hbv] at g3;refine⟨v',w',g1,Rel.ni (hB.newRow hd kY (rw :=aB (β k)) g3 (fun b hb=>⟨k,by simp [aM],by simp [hk],hb⟩) o3 ?_ (jr _ m _ cs CA.1 il.rd) (fun b hb=>by rw [<-hbv];exact g4 b hb))⟩;have :(l.take n++m).length=n+m.length:=by simp;omega
               rw [this];exact g2
             . cases h
          . cases h
        . rename_i r l;split at h
          . rename_i l' l8;simp only [A!] at h;subst h;have hc0:=fu hc;have sB:=ay0 hc;obtain⟨er,l8⟩:=j4 l8;subst er;simp only at l8;subst l8;simp only [af] at hs;obtain⟨rM,ad,rfl⟩:=hs;obtain⟨Vd,Ve⟩:=PE (P:=P) rM;have Vf:=gi l Vd Ve.rd
            have hold:∀w':World,w'.heap=w.heap->(Builtin.firstCells r.length l.length (.slice ad l.length l.length)).run P w'= .ok Vd.toArray w':=fun w' hw'=>by
             have :=Ve.first w' hw' l.length (O! _);rwa [<-Vf,List.take_length] at this
            have U9:l.length+m.length<=maxLen:=by have :=Nat.le_trans sB (Nat.div_le_self _ _);unfold maxLen;omega
            have hr:=oV (ty:=ty) hE hold il.len jT w! U9 (wR sB);refine⟨_,_,hr,Rel.ni (hB.newRow hd kY (rw :=none) (xs:=Vd++cs) ⟨rfl,rfl,rfl,z!,fun k hk _=>heap_alloc_old w.drew _ k hk⟩ z! z! ?_ (jr l m Vd cs Ve.rd il.rd) (fun b hb=> .inr (by simp only [aB,A!] at hb;omega)))⟩;have Nf:=grownCap_ge w (l.length+m.length) l.length e;have FU:=grownCap_le_maxLen w (l.length+m.length) l.length e U9;have hll:(Vd++cs).length=(l.length+m.length)*r.length:=by rw [C!,Vf,hlen,j?]
            rw [C!];refine⟨hll, .inr ⟨w.heap.size,_,_,rfl,w!,heap_alloc_new w.drew _,Nf,FU,?_,?_⟩⟩
            . simp only [Array.size_append,List.size_toArray,size_zeroCells,hE.ahw,Vf,hlen,<-j?];congr 1
              omega
            . simp only [Array.toList_append];rw [<-U!,<-hll];exact List.take_left
          . cases h
        grind
      grind
   grind
 grind
end
end Go.Vg

end
section
namespace Go.Vg
open Go
section
variable {P:Program} {C:Ctx} {A:Nat->Prop} {β:Nat->Value} {st:St} {a:Act} {w:World} {T:cJ}
theorem one_cell {v:Value}:∀(x:AV),x.one=true->af w A β v x->v.oneCell'=true
 | .dU,h,_=>by grind[AV.one]
 | .undef,h,_=>by grind[AV.one]
 | .agg _,h,_=>by grind[AV.one]
 | .bA _,h,_=>by grind[AV.one]
 | .int _ _,_,h=>by rw [h.1];rfl
 | .bool _,_,h=>by rw [h];rfl
 | .tt,_,h=>by rw [h];rfl
 | .ff,_,h=>by rw [h];rfl
 | .str _,_,h=>by rw [h.1];rfl
 | .nil,_,h=>by rw [h];rfl
 | .lp,_,h=>by rw [h];rfl
 | .rD _ _,_,h=>by obtain⟨b,h,_⟩:=h;rw [h];rfl
 | .lW,_,h=>by rw [h];rfl
 | .sl _ _,_,h=>by grind[af,PD]
 | .full _ _,_,h=>by grind[af,PD]
 | .iM _ _ _,_,h=>by obtain⟨b,o,cs,h,_⟩:=h;rw [h];rfl
 | .sq _ _,_,h=>by obtain⟨b,o,cs,h,_⟩:=h;rw [h];rfl
 | .own _,_,h=>by grind[af]
 | .pre _ _,_,h=>by
   rcases h with⟨_,h,_⟩|⟨b,m,cap,_,h,_⟩<;>rw [h]<;>rfl
 | .view _ _ _ _,_,h=>by
   rcases h with⟨_,ad,c,h,_⟩|⟨b,m,cap,l4,_,h,_⟩<;>rw [h]<;>rfl
 | .ref _ _,_,h=>by obtain⟨b,_,h⟩:=h;rw [h];rfl
 | .elem _ _ _ _,_,h=>by obtain⟨b,m,cap,_,h⟩:=h;rw [h];rfl
 | .fn _ _ _,_,h=>by obtain⟨_,_,h,_⟩:=h;rw [h];rfl
 | .je _ _,_,h=>by obtain⟨_,_,_,h,_⟩:=h;rw [h];rfl
theorem cells_one {v:Value}(h:v.oneCell'=true):v.cells= #[v]:=by
 cases v<;>simp_all [Value.oneCell',Value.cells]
theorem R0:∀(xs:List AV) (vs:List Value),xs.all AV.one=true->ak w A β vs xs->∀v∈vs,v.oneCell'=true
 | [],vs,_,h=>by grind[ak]
 |x::xs,vs,ho,h=>by
  obtain⟨v,cK,rfl,h1,h2⟩:=h;simp only [List.all_cons,B!] at ho;intro u hu;rcases P!.1 hu with rfl|hu
  . exact one_cell x ho.1 h1
  . exact R0 xs cK ho.2 h2 u hu
theorem wS {x:AV} {v:Value}(ho:x.cells.all AV.one=true)(h:af w A β v x):ak w A β v.cells.toList x.cells/\(∀u∈v.cells.toList,u.oneCell'=true)/\v.cells.size=x.cells.length:=by
 by_cases hx:∃cs,x= .agg cs
 . obtain⟨cs,rfl⟩:=hx;obtain⟨arr,rfl,h⟩:=h;have :=eJ cs _ h;grind[R0,Value.cells,AV.cells]
 . have hc:x.cells= [x]:=by cases x<;>first|rfl|grind
   rw [hc] at ho |-;have ho':x.one=true :=by grind
   have h1:=one_cell x ho' h;rw [cells_one h1];refine⟨by grind[ak],x!,rfl⟩
theorem fk:∀(xs ys:List AV) (us vs:List Value),ak w A β us xs->ak w A β vs ys->ak w A β (us++vs) (xs++ys)
 | [],ys,us,vs,h,h'=>by grind[ak]
 |x::xs,ys,us,vs,h,h'=>by
  obtain⟨v,FJ,rfl,h1,h2⟩:=h;exact⟨v,FJ++vs,rfl,h1,fk xs ys FJ vs h2 h'⟩
theorem yw {cs vs:List AV} {arr us:List Value} {off:Nat}(h:ak w A β arr cs)(hv:ak w A β us vs):ak w A β (arr.take off++us++arr.drop (off+us.length)) (IQ cs off vs):=by
 have hl:=eJ vs us hv;rw [hl];exact fk _ _ _ _ (fk _ _ _ _ (lz cs arr off h).1 hv) (lz cs arr _ h).2
theorem sC(hT:bD T P) {t n:Nat}(h:mC T t n=true):∃i,P.info? t=some i/\i.size=n:=by
 unfold mC at h;cases ht:T.find t with
 |none=>grind
 |some te=>
  obtain⟨_,i,hi,hs,_⟩:=hT.ok t te ht;simp_all
theorem oW {t:TypeId} {i:TypeInfo}(hi:P.info? t=some i) {v:Value}(hs:v.cells.size=i.size)(h1:∀u∈v.cells.toList,u.oneCell'=true) {b off:Nat} {arr:Array Value} {e:TypeId}(hg:w.heap[b]? =some (.cells arr e (0,0)))
  (Hc:off+v.cells.size<=arr.size):(Instr.storeAt t (.pointer (some ⟨b,off,none⟩)) v).run P w= .ok () (w.setRow b (arr.toList.take off++v.cells.toList++arr.toList.drop (off+v.cells.toList.length)).toArray):=by
 have :=run_storeCells_at P b off e v.cells.toList 0 arr w hg w! h1;simp_all[Nat.add_zero,Instr.storeAt,Instr.sureAddr,storeVar,sizeOf,typeInfo,hi]
theorem Nh(b:Nat)(cs:Array Value):(w.setRow b cs).os=w.os/\(w.setRow b cs).tape=w.tape/\(w.setRow b cs).output=w.output/\(w.setRow b cs).heap.size=w.heap.size:=⟨rfl,rfl,rfl,z!⟩
theorem aJ.write(hB:aJ C A β st a w) {dst:Option Nat}(hd:∀t,dst=some t->t<st.n) {out:Out} {k b:Nat} {ab:AB} {fz:List Nat} {new:Array Value} {e:Nat} {nh:Array Value} {v:Value}
  (gJ:(st.h k).isSome) (hb:aB (β k)=some b) (l9:¬A b) (hg:w.heap[b]? =some (.cells nh e (0,0)))
  (tS:out.new= []/\out.del= []/\out.jq=(k,ab)::cU st.h fz) (DT:∀j∈fz,j≠k/\∃e row l fr,st.h j=some (.row e row l fr))
  (mE:∀A',(∀b',A b'->A' b')->(∀b',A' b'->A b'\/∃j∈fz,aB (β j)=some b')->(∀j∈fz,∀b',aB (β j)=some b'->A' b')->BR (w.setRow b new) A' β k ab)
  (vC:af (w.setRow b new) A β v out.res) (aHw:out.raw= []:=by rfl):Rel C (st.put dst out) (a.put dst v) (w.setRow b new):=by
 obtain⟨o1,o2,o3⟩:=tS;let A':Nat->Prop :=fun b'=>A b'\/∃j∈fz,aB (β j)=some b'
 have kU:∀j b',(st.h j).isSome->aB (β j)=some b'->b'<w.heap.size:=by
  intro j b' hj fv;obtain⟨ab,mE⟩:=T!.1 hj;have iu:=hB.blocks j ab mE;cases ab with
  |arr row l=>
   obtain⟨b'',arr,e,h1,h2,_⟩:=iu;rw [h1] at fv;simp only [aB,A!] at fv;subst fv;exact(E?.1 h2).1
  |cells cs=>
   obtain⟨b'',arr,e,h1,h2,_⟩:=iu;grind[aB,Option.some.injEq,Array.getElem?_eq_some_iff]
  |row e row l fr=>
   obtain⟨xs,h1,_⟩:=iu;rcases h1.2 with⟨hn,_⟩|⟨g,cap,cur,hv,_,hg,_⟩
   . rw [hn] at fv;simp [aB] at fv
   grind[aB,Option.some.injEq,Array.getElem?_eq_some_iff]
  |jc e j row l i=>
   obtain⟨xs,v0,h1,_⟩:=iu;rcases h1.2 with⟨hn,_⟩|⟨g,cap,cur,hv,_,hg,_⟩
   . grind[aB]
   grind[aB,Option.some.injEq,Array.getElem?_eq_some_iff]
  |views e j n m sz=>
   obtain⟨xs,h1,_⟩:=iu;rcases h1.2 with⟨hn,_⟩|⟨g,cap,cur,hv,_,hg,_⟩
   . grind[aB]
   grind[aB,Option.some.injEq,Array.getElem?_eq_some_iff]
 have qt:∀b',b'≠b->(w.setRow b new).heap[b']? =w.heap[b']? :=fun b' h=>setRow_other w b b' new (fun h'=>h h');have hK0:dC w (w.setRow b new) A A:=fun b' h=>⟨h,qt b' (fun h'=>l9 (h'▸h))⟩;have hK:dC w (w.setRow b new) A A':=fun b' h=>⟨.inl h,qt b' (fun h'=>l9 (h'▸h))⟩;have Vh:dC (w.setRow b new) (w.setRow b new) A A':=fun b' h=>⟨.inl h,rfl⟩
 have hfr:∀(fz:List Nat) j x,ay (cU st.h fz) j=some x->j∈fz/\∃e row l fr,st.h j=some (.row e row l fr)/\x= .row e row l true :=by
  intro fz;induction fz with
  |nil=>grind[cU,ay]
  |cons i fz ih=>
   intro j x h;simp only [cU] at h;split at h
   . rename_i e row l fr hi;simp only [ay] at h;by_cases R1:j=i
     . grind
     simp_all[bh,Q!]
   grind
 have aHx:∀(fz:List Nat) j,j∈fz->(∃e row l fr,st.h j=some (.row e row l fr))->(ay (cU st.h fz) j).isSome:=by
  intro fz;induction fz with
  |nil=>grind
  |cons i fz ih=>
   intro j h hr;simp only [cU];by_cases R1:j=i
   . subst R1;obtain⟨e,row,l,fr,hr⟩:=hr;simp [hr,ay]
   . have :=ih j ((P!.1 h).resolve_left R1) hr;split
     . simp only [ay,bh R1,Q!];exact this
     . exact this
 have Jz:∀j x,ay out.jq j=some x->(j=k/\x=ab)\/(j≠k/\j∈fz/\∃e row l fr,st.h j=some (.row e row l fr)/\x= .row e row l true):=by
  intro j x h;rw [o3] at h;simp only [ay] at h;by_cases PF:j=k
  . subst PF;simp only [ek,L!,A!] at h;exact .inl ⟨rfl,h.symm⟩
  . simp only [bh PF,Q!] at h;obtain⟨h1,h2⟩:=hfr fz j x h;exact .inr ⟨PF,h1,h2⟩
 have Cx:nr st out k:=⟨gJ, .inl (by rw [o3];simp [ay])⟩;refine⟨A',β,hB.step hd (by rw [o1];simp [ay]) ?_ (fun _ _=>rfl) hK rfl rfl rfl z! ?_ ?_ ?_ ?_ (by rw [o1];simp [ay]) (by rw [o1];simp [ay]) (by rw [o1];simp [ay]) (kD Vh _ _ vC) aHw⟩
 . intro j x h;rcases Jz j x h with⟨rfl,_⟩|⟨_,_,e,row,l,fr,h,_⟩
   . exact gJ
   . simp [h]
 . intro b' _ ht;exact qt b' (fun h=>ht k Cx (h▸hb))
 . intro b' h;rw [(Nh b new).2.2.2];rcases h with h|⟨j,hj,Vi⟩
   . exact hB.bound b' h
   . obtain⟨_,e,row,l,fr,hr⟩:=DT j hj;exact kU j b' (by simp [hr]) Vi
 . intro b' h;rcases h with h|⟨j,hj,Vi⟩
   . exact .inl h
   . obtain⟨PF,hr⟩:=DT j hj;refine .inr (.inr ⟨j,⟨by obtain⟨e,row,l,fr,hr⟩:=hr;simp [hr], .inl ?_⟩,Vi⟩);rw [o3];simp only [ay,bh PF,Q!];exact aHx fz j hj hr
 . intro j x h _;rw [o1];simp only [dF];rcases Jz j x h with⟨rfl,rfl⟩|⟨PF,hj,e',row,l,fr,hr,rfl⟩
   . exact mE A' (fun _ h=> .inl h) (fun _ h=>h) (fun j hj b' h=> .inr ⟨j,hj,h⟩)
   . obtain⟨xs,h1,h2,h3⟩:=hB.blocks j _ hr;have yx:∀b',aB (β j)=some b'->b'≠b:=fun b' h h'=>PF (hB.apart j k b (by simp [hr]) gJ (h'▸h) hb);refine⟨xs,iH h1 (fun b' h=>qt b' (yx b' h)),bZ (fun c x hx=>b4 hK row c x hx) l xs h2,fun b' h=> ?_⟩;simp only [K?];exact .inr ⟨j,hj,h⟩
theorem FV(hT:bD T P)(hB:aJ C A β st a w) {dst:Option Nat}(hd:∀t,dst=some t->t<st.n) {t:TypeId} {k off:Nat} {x:AV} {vp vx:Value}(hp:af w A β vp (.ref k off))(hx:af w A β vx x) {out:Out}
  (h:ly T st.h t (.ref k off) x=some out):∃w',(Instr.storeAt t vp vx).run P w= .ok () w'/\Rel C (st.put dst out) (a.put dst undef) w':=by
 simp [ly] at h;split at h
 . rename_i cs hk;cases hq:(x.cells.all AV.one&&mC T t x.cells.length&&Nat.ble (off+x.cells.length) cs.length) with
   |false=>grind
   |true=>
    simp [hq,L!,A!] at h;subst h;simp only [B!] at hq;obtain⟨⟨q1,q2⟩,q3⟩:=hq;have q3:=M! q3;obtain⟨i,hi,fj⟩:=sC hT q2;obtain⟨c1,c2,c3⟩:=wS q1 hx;obtain⟨b,cY,rfl⟩:=hp;obtain⟨b',arr,e,h1,h2,h3,h4,h5⟩:=hB.blocks k _ hk;rw [cY] at h1;simp at h1;subst h1;have hlen:=eJ cs _ h4;have hb:aB (β k)=some b:=by rw [cY];rfl
    refine⟨_,oW hi w! c2 h2 x!,?_⟩;refine hB.write hd (k:=k) (fz:= []) (ab:= .cells (IQ cs off x.cells)) x! hb h3 h2 ⟨rfl,rfl,rfl⟩ z! ?_ (by rfl);intro A' hA1 hA2 hA3;have hK:dC w (w.setRow b (arr.toList.take off++vx.cells.toList++arr.toList.drop (off+vx.cells.toList.length)).toArray) A A':=fun b' h=>⟨hA1 b' h,setRow_other w b b' _ (fun h'=>h3 (h'▸h))⟩;refine⟨b,_,e,cY,setRow_heap w b arr _ e _ h2,fun h=> ?_,fO hK _ _ (yw h4 c1),?_⟩
    . grind
    grind
 grind
end
end Go.Vg

end
section
namespace Go.Vg
open Go
section
variable {P:Program} {C:Ctx} {A A':Nat->Prop} {β:Nat->Value} {st:St} {a:Act} {w:World} {T:cJ}
theorem NV {k:IntKind} {n:Int}(h:lo k<=n/\n<=hi k):DI.toInt k (DI.ofInt k n)=n:=by
 cases k<;>try rfl
 grind[lo,hi,DI.toInt,DI.ofInt,UInt8.toNat_ofNat']
theorem JL:∀(t:Ty) (x:AV) (v:Value) (d:D t),af w A β v x->RM t x=some d->Rd w A t v d:=by
 intro t x v d h hd;unfold RM at hd;split at hd
 . grind[Option.some.injEq,af,Rd,NV]
 . grind[Option.some.injEq,Rd,af]
 . grind[Option.some.injEq,Rd,af]
 . grind[Option.some.injEq,Rd,af]
 . grind[Option.some.injEq,Rd,af]
 . grind[j4,af]
 . grind[j4,af]
 . simp at hd;subst hd;simp [af] at h;exact⟨none,0,[],w!,z!,z!,by rfl,z!⟩
 grind
theorem uU {t:Ty}:∀(ts:List Ty) (x:D t) (y:Row ts),Row.hd (Row.mk x y:Row (t::ts))=x
 | [],_,_=>rfl
 |_::_,_,_=>rfl
theorem yy {t:Ty}:∀(ts:List Ty) (x:D t) (y:Row ts),Row.tl (Row.mk x y:Row (t::ts))=y
 | [],_,_=>rfl
 |_::_,_,_=>rfl
theorem sD:∀(ts:List Ty) (xs:List AV) (vs:List Value) (r:Row ts),ak w A β vs xs->nd ts xs=some r->bT w A ts vs r
 | [],[],vs,r,h,_=>by grind[ak,bT]
 |t::ts,x::xs,vs,r,h,hr=>by
  obtain⟨v,cK,rfl,h1,h2⟩:=h;simp [nd] at hr;split at hr
  . rename_i d y hd hy;simp at hr;subst hr;exact⟨v,cK,rfl,by rw [uU];exact JL t x v d h1 hd,by rw [yy];exact sD ts xs cK y h2 hy⟩
  . cases hr
 | [],_::_,_,_,_,hr=>by grind[nd]
 |_::_,[],_,_,_,hr=>by grind[nd]
theorem He:∀(ts:List Ty) (r:Row ts) (j:Nat) (x:AV) (cs:List Value) (v:Value) (r':Row ts),bT w A ts cs r->af w A β v x->setRow ts r j x=some r'->bT w A ts (cs.set j v) r'/\j<cs.length
 | [],_,_,_,_,_,_,_,_,hr=>by grind[setRow]
 |t::ts,r,0,x,cs,v,r',h,hx,hr=>by
  simp [bT] at h;simp [setRow] at hr;split at hr
  . simp [bT,List.set_cons_zero];grind[uU,JL,yy]
  grind
 |t::ts,r,j+1,x,cs,v,r',h,hx,hr=>by
  obtain⟨u,jd,rfl,h1,h2⟩:=h;simp [setRow] at hr;split at hr
  . rename_i y hy;simp at hr;subst hr;obtain⟨g1,g2⟩:=He ts _ j x jd v y h2 hx hy;exact⟨⟨u,_,rfl,by rw [uU];exact h1,by rw [yy];exact g1⟩,by simp [g2]⟩
  . cases hr
theorem R2(cs:List Value)(j:Nat)(v:Value)(us:List Value)(h:j<cs.length):(cs.set j v).take (j+1)++us++(cs.set j v).drop (j+1+us.length)=cs.take j++(v::us)++cs.drop (j+(v::us).length):=by
 grind[List.take_succ_eq_append_getElem,List.take_set_of_le,List.drop_set_of_lt]
theorem wT(ts:List Ty):∀(xs:List AV) (r:Row ts) (j:Nat) (cs us:List Value) (r':Row ts),bT w A ts cs r->ak w A β us xs->qG ts r j xs=some r'->bT w A ts (cs.take j++us++cs.drop (j+us.length)) r'/\(us≠ []->j+us.length<=cs.length)
 | [],r,j,cs,us,r',h,hx,hr=>by
   simp_all[ak,qG,A!]
 |x::xs,r,j,cs,us,r',h,hx,hr=>by
  obtain⟨v,FJ,rfl,h1,h2⟩:=hx;simp [qG] at hr;split at hr
  . rename_i y hy;obtain⟨g1,g2⟩:=He ts r j x cs v y h h1 hy;obtain⟨f1,f2⟩:=wT ts xs y (j+1) (cs.set j v) FJ r' g1 h2 hr;rw [R2 cs j v FJ g2] at f1;refine⟨f1,fun _=> ?_⟩;by_cases hu:FJ= []
    . subst hu;simp;omega
    . have :=f2 hu;simp at this |-;omega
  . cases hr
theorem se(hB:aJ C A β st a w) {x:AV} {v:Value}(h:af w A β v x)(hA:∀b,A b->A' b)(pQ:∀k∈(iF st.h x).2,∀b,aB (β k)=some b->A' b):
  af w A' β v (iF st.h x).1/\∀k∈(iF st.h x).2,∃e row l fr,st.h k=some (.row e row l fr):=by
 have hK:dC w w A A':=fun b hb=>⟨hA b hb,rfl⟩;unfold iF at pQ |-;split at pQ
 . rename_i k;simp only [af] at h;split at pQ
   . rename_i e row l fr hk;refine⟨?_,fun j hj=>by grind⟩;simp only [af,Rd];rcases nZ hB hk with⟨g1,g2⟩|⟨b,cap,cs,g1,g2,g3,g4,g5⟩
     . subst g2;rw [h.1,g1];exact⟨none,0,[],rfl,z!,z!,by rfl,z!⟩
     . rw [h.1,g1];exact⟨_,cap,cs,rfl,g2,g3,bZ (fun c x hx=>b4 hK row c x hx) l cs g4,fun _=>⟨b,0,rfl,pQ k z! b (by rw [g1];rfl),g5⟩⟩
   grind[af]
 . rename_i k n;simp only [af] at h;split at pQ
   . rename_i e row l fr hk;refine⟨?_,fun j hj=>by grind⟩;simp only [af,Rd];rcases h with⟨h1,h2,h3⟩|⟨b',m,l4,h1,h2,h3⟩
     . subst h3;rw [h2];exact⟨none,0,[],z!,z!,z!,by rfl,z!⟩
     . rcases nZ hB hk with⟨g1,g2⟩|⟨b,cap,cs,g1,g2,g3,g4,g5⟩
       . grind
       . rw [g1] at h1;simp at h1;have hl:(l.take n).length=n:=by grind
         refine⟨_,cap,cs.take (n*row.length),x!,w!,g3,bZ (fun c x hx=>b4 hK row c x hx) _ _ (fw l cs n g4).1,fun _=>⟨b,0,rfl,pQ k z! b (by rw [g1];rfl),jF g5⟩⟩
   grind[af]
 . rename_i k sz off n;simp only [af] at h;split at pQ
   . rename_i e row l fr hk;cases fj:Nat.beq sz row.length with
     |false=>grind[af]
     |true=>
      simp only [fj,cond_true] at pQ |-;have fj:=Nat.eq_of_beq_eq_true fj;subst fj;refine⟨?_,fun j hj=>by grind⟩;rcases h with⟨hn,ad,cap,h2,FU⟩|⟨b',m,l4,Cz,h1,h2,h3,h4,h5⟩
      . subst hn;rw [h2];exact⟨ad,cap,[],z!,z!,FU,by rfl,z!⟩
      . rcases nZ hB hk with⟨g1,g2⟩|⟨b,cap,cs,g1,g2,g3,g4,g5⟩
        . grind
        . rw [g1] at h1;simp at h1;obtain⟨rfl,rfl,rfl⟩:=h1;have hl:((l.drop off).take n).length=n:=by grind
          refine⟨_,Cz,(cs.drop (off*row.length)).take (n*row.length),by rw [h2,hl],w!,w!,bZ (fun c x hx=>b4 hK row c x hx) _ _ (fw _ _ n (fw l cs off g4).2).1,fun _=>⟨b,_,rfl,pQ k z! b (by rw [g1];rfl),?_⟩⟩;have :=jF (n:=n*row.length) (qq (n:=off*row.length) g5);grind
   grind[af]
 grind[kD]
end
end Go.Vg

end
section
namespace Go.Vg
open Go
section
variable {P:Program} {C:Ctx} {A A':Nat->Prop} {β:Nat->Value} {st:St} {a:Act} {w:World} {T:cJ}
theorem NW(hB:aJ C A β st a w)(hA:∀b,A b->A' b):∀(xs:List AV) (vs:List Value),ak w A β vs xs->(∀k∈(oP st.h xs).2,∀b,aB (β k)=some b->A' b)->
  ak w A' β vs (oP st.h xs).1/\∀k∈(oP st.h xs).2,∃e row l fr,st.h k=some (.row e row l fr)
 | [],vs,h,_=>by grind[ak,oP]
 |x::xs,vs,h,pQ=>by
  obtain⟨v,cK,rfl,h1,h2⟩:=h;simp only [oP] at pQ |-;obtain⟨p1,p2⟩:=se hB h1 hA (fun k hk=>pQ k (by simp [hk]));obtain⟨q1,q2⟩:=NW hB hA xs cK h2 (fun k hk=>pQ k (by simp [hk]));refine⟨by exact⟨v,cK,rfl,p1,q1⟩,fun k hk=> ?_⟩;rcases F!.1 hk with hk|hk
  . exact p2 k hk
  . exact q2 k hk
theorem yz(hB:aJ C A β st a w)(hA:∀b,A b->A' b)(x:AV)(v:Value)(h:af w A β v x)(pQ:∀k∈(pv st.h x).2,∀b,aB (β k)=some b->A' b):
  af w A' β v (pv st.h x).1/\∀k∈(pv st.h x).2,∃e row l fr,st.h k=some (.row e row l fr):=by
 unfold pv at pQ |-;split at pQ
 . grind[NW,af]
 grind[se]
theorem FW(hB:aJ C A β st a w)(hA:∀b,A b->A' b):∀(xs:List AV) (vs:List Value),ak w A β vs xs->(∀k∈(lY st.h xs).2,∀b,aB (β k)=some b->A' b)->
  ak w A' β vs (lY st.h xs).1/\∀k∈(lY st.h xs).2,∃e row l fr,st.h k=some (.row e row l fr)
 | [],vs,h,_=>by grind[ak,lY]
 |x::xs,vs,h,pQ=>by
  obtain⟨v,cK,rfl,h1,h2⟩:=h;simp only [lY] at pQ |-;obtain⟨p1,p2⟩:=yz hB hA x v h1 (fun k hk=>pQ k (by simp [hk]));obtain⟨q1,q2⟩:=FW hB hA xs cK h2 (fun k hk=>pQ k (by simp [hk]));refine⟨by exact⟨v,cK,rfl,p1,q1⟩,fun k hk=> ?_⟩;rcases F!.1 hk with hk|hk
  . exact p2 k hk
  . exact q2 k hk
theorem DU {h:bg}:∀(xs:List AV),(oP h xs).1.length=xs.length
 | []=>rfl
 |x::xs=>by simp [oP,DU xs]
theorem DV {h:bg}(x:AV):(pv h x).1.cells.length=x.cells.length:=by
 unfold pv;split
 . simp [AV.cells,DU]
 . rename_i hna;have hz:x.cells.length=1:=by cases x<;>first|rfl|grind
   rw [hz];unfold iF;split
   . split<;>rfl
   . split<;>rfl
   . split
     . rename_i sz _ _ _ _ rr _ _ _;cases Nat.beq sz rr.length<;>rfl
     . rfl
   omega
theorem JM {x:AV} {v:Value}(h:af w A β v x) {row:List Ty} {r r':Row row} {cs:List Value} {j:Nat}(hr:bT w A row cs r)(hs:qG row r j x.cells=some r'):
  ak w A β v.cells.toList x.cells/\bT w A row (cs.take j++v.cells.toList++cs.drop (j+v.cells.toList.length)) r'/\(∀u∈v.cells.toList,u.oneCell'=true)/\(v.cells.toList≠ []->j+v.cells.toList.length<=cs.length)/\v.cells.size=x.cells.length:=by
 have key:∀us,ak w A β us x.cells->bT w A row (cs.take j++us++cs.drop (j+us.length)) r'/\(∀u∈us,u.oneCell'=true)/\(us≠ []->j+us.length<=cs.length):=by
  grind[wT,yr]
 by_cases hx:∃cs,x= .agg cs
 . obtain⟨xs,rfl⟩:=hx;simp [af] at h;grind[Value.cells,AV.cells,eJ]
 . have hc:x.cells= [x]:=by cases x<;>first|rfl|exact absurd ⟨_,rfl⟩ hx
   have Bm:ak w A β [v] x.cells:=by rw [hc];exact⟨v,[],rfl,h,rfl⟩
   obtain⟨k1,k2,k3⟩:=key [v] Bm;have h1:=k2 v z!;rw [cells_one h1];exact⟨Bm,k1,k2,k3,by rw [hc];rfl⟩
theorem JN {row:List Ty} {l:List (Row row)} {i j:Nat} {cur:Array Value} {us:List Value} {y:Row row}(hi:i<l.length)(hL:eu (bT w A row) (cur.toList.take (l.length*row.length)) l)
  (hy:∀c,bT w A row c l[i]->bT w A row (c.take j++us++c.drop (j+us.length)) y/\(us≠ []->j+us.length<=c.length)) (fx:l.length*row.length<=cur.size):
  let new:=(cur.toList.take (i*row.length+j)++us++cur.toList.drop (i*row.length+j+us.length)).toArray
  new.size=cur.size/\eu (bT w A row) (new.toList.take (l.length*row.length)) (l.set i y)/\i*row.length+j+us.length<=cur.size\/us= []:=by
 intro new;by_cases Bm:us= []
 . exact .inr Bm
 left;obtain⟨c1,c,c2,e1,e2,e3,e4,e5⟩:=sw l _ i hi hL;obtain⟨f1,f2⟩:=hy c e3;have f2:=f2 Bm;have hc:=iI row c _ e3
 have kU:i*row.length+row.length<=l.length*row.length:=by
  have :(i+1)*row.length<=l.length*row.length:=D? _ hi;rwa [j?,Nat.one_mul] at this
 have Hc:i*row.length+j+us.length<=cur.size:=by omega
 refine⟨by simp [new];omega,?_,Hc⟩;have IV:cur.toList=c1++(c++c2)++cur.toList.drop (l.length*row.length):=by rw [<-e1,Q?]
 have hC:new.toList=c1++((c.take j++us++c.drop (j+us.length))++c2)++cur.toList.drop (l.length*row.length):=by
  have t1:cur.toList.take (i*row.length+j)=c1++c.take j:=by
   rw [IV,<-e2,U!,List.take_length_add_append,U!,List.take_append_of_le_length w!]
  have t2:cur.toList.drop (i*row.length+j+us.length)=c.drop (j+us.length)++c2++cur.toList.drop (l.length*row.length):=by
   conv=>lhs;rw [IV]
   rw [show i*row.length+j+us.length=c1.length+(j+us.length) by omega,U!,List.drop_length_add_append,U!,List.drop_append_of_le_length w!,U!]
  simp only [new,t1,t2];simp
 rw [hC]
 have aAP:(c1++((c.take j++us++c.drop (j+us.length))++c2)).length=l.length*row.length:=by
  have :=congrArg List.length e1;simp at this |-;omega
 rw [<-aAP,List.take_left]
 have BJ:l.set i y=l.take i++(y::l.drop (i+1)):=by
  rw [t?,R! hi]
 rw [BJ];exact jr _ _ _ _ e4 ⟨_,c2,rfl,f1,e5⟩
theorem DW(hT:bD T P)(hB:aJ C A β st a w) {dst:Option Nat}(hd:∀t,dst=some t->t<st.n) {t:TypeId} {k sz i j:Nat} {x:AV} {vp vx:Value}(hp:af w A β vp (.elem k sz i j))(hx:af w A β vx x) {out:Out}
  (h:ly T st.h t (.elem k sz i j) x=some out) (hc:∀p∈out.cond,p):∃w',(Instr.storeAt t vp vx).run P w= .ok () w'/\Rel C (st.put dst out) (a.put dst undef) w':=by
 simp only [ly] at h;split at h
 . rename_i e row l hk;cases hq:(Nat.beq sz row.length&&mC T t x.cells.length&&Nat.blt 0 x.cells.length) with
   |false=>grind
   |true=>
    simp only [hq,L!] at h;simp only [B!] at hq;obtain⟨⟨q1,q2⟩,q3⟩:=hq;have q3:=M! q3;have q1:=D! q1;subst q1;split at h
    . rename_i y hy;cases Ni:(pv st.h x).2.elem k with
      |true=>grind
      |false=>
       rw [Ni] at h;simp only [Q!,A!] at h;subst h;have hi:i<l.length:=fu hc;rw [getD_eq l _ _ hi] at hy;simp only [af] at hp;obtain⟨b,m,cap,cY,rfl⟩:=hp;rcases ib hB hk with⟨_,hl⟩|⟨b',l4,cur,hv,hg,hle,Bl,fx,hL,l9⟩
       . grind
       . rw [cY] at hv;obtain⟨rfl,rfl,rfl⟩:=hv;simp only [H?,h?] at l9;have hb:aB (β k)=some b:=by rw [cY];rfl
         obtain⟨ii,mF,BI⟩:=sC hT q2;let A1:Nat->Prop :=fun b'=>A b'\/∃j∈(pv st.h x).2,aB (β j)=some b'
         obtain⟨px,pk⟩:=yz (A':=A1) hB (fun b h=> .inl h) x vx hx (fun k hk b hb=> .inr ⟨k,hk,hb⟩);have hKA:dC w w A A1:=fun b h=>⟨.inl h,rfl⟩;have hL1:eu (bT w A1 row) (cur.toList.take (l.length*row.length)) l:=bZ (fun c x hx=>b4 hKA row c x hx) l _ hL;have DX:l.length*row.length<=cur.size:=by simp_all[D?]
         have hyy:∀c,bT w A1 row c l[i]->bT w A1 row (c.take j++vx.cells.toList++c.drop (j+vx.cells.toList.length)) y/\(vx.cells.toList≠ []->j+vx.cells.toList.length<=c.length):=
          fun c hc=>let h:=JM px hc hy;⟨h.2.1,h.2.2.2.1⟩
         obtain⟨c1,c,c2,e1,e2,e3,e4,e5⟩:=sw l _ i hi hL1;have PG:=JM px e3 hy
         have oT:vx.cells.size=ii.size:=by
          grind[DV]
         rcases JN hi hL1 hyy DX with⟨g1,g2,g3⟩|Bm
         . refine⟨_,oW mF oT PG.2.2.1 hg (by simpa using g3),?_⟩;refine hB.write hd (k:=k) (fz:=(pv st.h x).2) (ab:= .row e row (l.set i y) false) (by simp [hk]) hb l9 hg ⟨rfl,rfl,rfl⟩ (fun q hq=>⟨?_,pk q hq⟩) ?_ (by simp [af])
           . rintro rfl;rw [List.elem_eq_mem] at Ni;simp [hq] at Ni
           . intro A2 h1 h2 h3
             have hK:dC w (w.setRow b (cur.toList.take (i*row.length+j)++vx.cells.toList++cur.toList.drop (i*row.length+j+vx.cells.toList.length)).toArray) A1 A2:=by
              intro b' fv;rcases fv with fv|⟨q,hq,DY⟩
              . exact⟨h1 b' fv,setRow_other w b b' _ (fun h'=>l9 (h'▸fv))⟩
              . refine⟨h3 q hq b' DY,setRow_other w b b' _ (fun h'=> ?_)⟩;subst h';obtain⟨e',lZ,l',FF,nX⟩:=pk q hq;have :q=k:=hB.apart q k b' (by simp [nX]) (by simp [hk]) DY hb;subst this;rw [List.elem_eq_mem] at Ni;simp [hq] at Ni
             refine⟨_,⟨?_, .inr ⟨b,cap,_,by rw [cY];simp,w!,setRow_heap w b cur _ e _ hg,by simpa using hle,Bl,g1.trans fx,rfl⟩⟩,?_,fun b' fv=> ?_⟩
             . rw [X!];refine Nat.min_eq_left ?_;rw [List.length_set];exact f? DX (Nat.le_of_eq g1.symm)
             . simp only [List.length_set];exact bZ (fun c x hx=>b4 hK row c x hx) _ _ g2
             . rw [hb] at fv;simp only [A!] at fv;subst fv;simp only [H?,h?];intro hA2;rcases h2 _ hA2 with h|⟨q,hq,DY⟩
               . exact l9 h
               . obtain⟨e',lZ,l',FF,nX⟩:=pk q hq;have :q=k:=hB.apart q k _ (by simp [nX]) (by simp [hk]) DY hb;subst this;rw [List.elem_eq_mem] at Ni;simp [hq] at Ni
         grind
    grind
 grind
end
end Go.Vg

end
section
namespace Go.Vg
open Go
section
variable {P:Program} {C:Ctx} {A A':Nat->Prop} {β:Nat->Value} {st:St} {a:Act} {w:World} {T:cJ}
theorem fQ {d k:Nat} {ab b:AB}(h:ay [(d,ab)] k=some b):k=d/\b=ab:=by
 grind[ay,bh]
theorem pR(o:Obj)(k:Nat)(hk:k<w.heap.size):(w.alloc o).heap[k]? =w.heap[k]? :=heap_alloc_old w o k hk
theorem aJ.NX(hB:aJ C A β st a w) {dst:Option Nat}(hd:∀t,dst=some t->t<st.n) {d e:Nat} {cs:List AV} {arr:Array Value} {cond:List Prop}
  (kY:st.h d=none/\rK d=false) (hrel:ak w A β arr.toList cs) (ma:∀v∈arr.toList,v.oneCell'=true):
  aJ C A (cd β d (.pointer (some ⟨w.heap.size,0,none⟩))) (st.put dst {cond:=cond,res:= .ref d 0,new:= [(d, .cells (gz d cs))]}) (a.put dst (.pointer (some ⟨w.heap.size,0,none⟩))) (w.alloc (.cells arr e)):=by
 have hK:dC w (w.alloc (.cells arr e)) A A:=fun b hb=>⟨hb,pR _ b (hB.bound b hb)⟩
 have cY:∀k,ay [(d,AB.cells (gz d cs))] k=none->cd β d (.pointer (some ⟨w.heap.size,0,none⟩)) k=β k:=by
  intro k h;have :k≠d:=by rintro rfl;simp [ay] at h
  grind[cd]
 refine hB.step (out:= {cond:=cond,res:= .ref d 0,new:= [(d, .cells (gz d cs))]}) hd ?_ (by simp [ay]) cY hK rfl rfl rfl z! (fun b hb _=>pR _ b hb) (fun b hb=>by have :=hB.bound b hb;simp;omega) (fun b hb=> .inl hb) (by simp [ay]) ?_ ?_ ?_ ?_
 . grind[fQ]
 . intro k ab h;obtain⟨rfl,rfl⟩:=fQ h;refine⟨w.heap.size,arr,e,by simp [cd],heap_alloc_new w _,fun h=>absurd (hB.bound _ h) w!,iG k _ _ _ (fO hK _ _ hrel),ma⟩
 . intro k b ab h hb;obtain⟨rfl,_⟩:=fQ h;simp_all[cd,K?,aB,A!]
 . grind[Option.isSome_iff_exists,fQ]
 . exact⟨w.heap.size,by simp [cd],rfl⟩
theorem jG {h:bg}:∀(fz:List Nat) j x,ay (cU h fz) j=some x->j∈fz/\∃e row l fr,h j=some (.row e row l fr)/\x= .row e row l true :=by
 intro fz;induction fz with
 |nil=>grind[cU,ay]
 |cons i fz ih=>
  intro j x h;simp [cU] at h;split at h
  . simp [ay] at h;by_cases R1:j=i
    . grind
    simp_all[bh,Q!]
  grind
theorem qu {h:bg}:∀(fz:List Nat) j,j∈fz->(∃e row l fr,h j=some (.row e row l fr))->(ay (cU h fz) j).isSome:=by
 intro fz;induction fz with
 |nil=>grind
 |cons i fz ih=>
  intro j h hr;simp [cU];by_cases R1:j=i
  . subst R1;obtain⟨e,row,l,fr,hr⟩:=hr;simp [hr,ay]
  . have :=ih j ((P!.1 h).resolve_left R1) hr;split
    . simp_all[ay,bh,Q!]
    omega
def cv(A:Nat->Prop)(β:Nat->Value)(fz:List Nat):Nat->Prop :=fun b=>A b\/∃j∈fz,aB (β j)=some b
theorem nv(hB:aJ C A β st a w) {j b':Nat}(hj:(st.h j).isSome)(fv:aB (β j)=some b'):b'<w.heap.size:=by
 obtain⟨ab,mE⟩:=T!.1 hj;have iu:=hB.blocks j ab mE;cases ab with
 |arr row l=>
  obtain⟨b'',arr,e,h1,h2,_⟩:=iu;grind[aB,Option.some.injEq,Array.getElem?_eq_some_iff]
 |cells cs=>
  obtain⟨b'',arr,e,h1,h2,_⟩:=iu;grind[aB,Option.some.injEq,Array.getElem?_eq_some_iff]
 |row e row l fr=>
  obtain⟨xs,h1,_⟩:=iu;rcases h1.2 with⟨hn,_⟩|⟨g,cap,cur,hv,_,hg,_⟩
  . grind[aB]
  grind[aB,Option.some.injEq,Array.getElem?_eq_some_iff]
 |jc e j row l i=>
  obtain⟨xs,v0,h1,_⟩:=iu;rcases h1.2 with⟨hn,_⟩|⟨g,cap,cur,hv,_,hg,_⟩
  . grind[aB]
  grind[aB,Option.some.injEq,Array.getElem?_eq_some_iff]
 |views e j n m sz=>
  obtain⟨xs,h1,_⟩:=iu;rcases h1.2 with⟨hn,_⟩|⟨g,cap,cur,hv,_,hg,_⟩
  . grind[aB]
  grind[aB,Option.some.injEq,Array.getElem?_eq_some_iff]
theorem aJ.R3(hB:aJ C A β st a w) {dst:Option Nat}(hd:∀t,dst=some t->t<st.n) {d e:Nat} {row:List Ty} {l:List (Row row)} {cond:List Prop} {fz:List Nat} {v':Value} {w':World} {xs:List Value}
  (kY:st.h d=none/\rK d=false) (hg:w.grownBy w' none) (DT:∀j∈fz,∃e row l fr,st.h j=some (.row e row l fr))
  (jN:w'.ownsRow 0 e row.length v' l.length xs) (rM:eu (bT w (cv A β fz) row) xs l) (hblk:∀b,aB v'=some b->w.heap.size<=b):
  aJ C (cv A β fz) (cd β d v') (st.put dst {cond:=cond,res:= .own d,jq:=cU st.h fz,new:= [(d, .row e row l false)]}) (a.put dst v') w':=by
 have hbd:∀b,cv A β fz b->b<w.heap.size:=by
  intro b h;rcases h with h|⟨j,hj,hb⟩
  . exact hB.bound b h
  . exact nv hB x! hb
 have hK:dC w w' A (cv A β fz):=fun b hb=>⟨.inl hb,hg.block b (hB.bound b hb) z!⟩;have hK2:dC w w' (cv A β fz) (cv A β fz):=fun b hb=>⟨hb,hg.block b (hbd b hb) z!⟩
 have cY:∀k,ay [(d,AB.row e row l false)] k=none->cd β d v' k=β k:=by
  intro k h;have :k≠d:=by rintro rfl;simp [ay] at h
  grind[cd]
 refine hB.step (out:= {cond:=cond,res:= .own d,jq:=cU st.h fz,new:= [(d, .row e row l false)]}) hd ?_ ?_ cY hK hg.os hg.tape hg.output hg.size (fun b hb _=>hg.block b hb z!) (fun b hb=>Y? (hbd b hb) hg.size) ?_ ?_ ?_ ?_ ?_ ?_
 . grind[fQ]
 . intro k b h;obtain⟨_,_,_,_,_,h,_⟩:=jG fz k b h;grind
 . intro b h;rcases h with h|⟨j,hj,hb⟩
   . grind
   . have hr:=DT j hj;exact .inr (.inr ⟨j,⟨x!, .inl (qu fz j hj hr)⟩,hb⟩)
 . intro k ab h _;obtain⟨hk,e',lZ,l',FF,hr,rfl⟩:=jG fz k ab h;rw [mD];have hkd:k≠d:=by grind
   have Pu:cd β d v' k=β k:=by grind[cd]
   obtain⟨xs',h1,h2,h3⟩:=hB.blocks k _ hr;simp only [BR,Pu];refine⟨xs',iH h1 (fun b hb=>hg.block b (nv hB x! hb) z!),bZ (fun c x hx=>b4 hK lZ c x hx) l' xs' h2,fun b hb=> ?_⟩;simp only [if_true];exact .inr ⟨k,hk,hb⟩
 . intro k ab h;obtain⟨rfl,rfl⟩:=fQ h;refine⟨xs,by grind[cd],bZ (fun c x hx=>b4 hK2 row c x hx) l xs rM,fun b hb=> ?_⟩;simp only [cd,if_true] at hb;grind
 . intro k b ab h hb;obtain⟨rfl,_⟩:=fQ h;simp_all[cd,K?]
 . grind[Option.isSome_iff_exists,fQ]
 . simp only [af,cd,K?,true_and];obtain⟨ad,l',c,rfl⟩:=sA jN;rfl
theorem PH(hT:bD T P)(hB:aJ C A β st a w) {dst:Option Nat}(hd:∀t,dst=some t->t<st.n) {d:Nat}(kY:st.h d=none/\rK d=false) {t:TypeId} {te:TE}(ht:T.find t=some te)(ma:(ofConst te.zero).cells.all AV.one=true):
  ∃v' w',(Instr.alloc t true (.tuple #[])).run P w= .ok v' w'/\Rel C (st.put dst {cond:= [],res:= .ref d 0,new:= [(d, .cells (gz d (ofConst te.zero).cells))]}) (a.put dst v') w':=by
 obtain⟨hu,i,hi,hs,hb,hz⟩:=hT.ok t te ht;obtain⟨c1,c2,c3⟩:=wS ma (wL (w:=w) (A:=A) (β:=β) te.zero);refine⟨.pointer (some ⟨w.heap.size,0,none⟩),w.alloc (.cells te.zero.cells t),?_,Rel.ni (hB.NX hd kY c1 c2)⟩;simp_all[Instr.alloc,zeroValue,typeInfo,hi,newVar,newRow]
theorem Vj(hB:aJ C A β st a w) {dst:Option Nat}(hd:∀t,dst=some t->t<st.n) {d:Nat}(kY:st.h d=none/\rK d=false) {t:TypeId} {x:AV} {v:Value}(hx:af w A β v x)(ma:x.cells.all AV.one=true):
  ∃v' w',(Instr.box t v).run P w= .ok v' w'/\Rel C (st.put dst {cond:= [],res:= .ref d 0,new:= [(d, .cells (gz d x.cells))]}) (a.put dst v') w':=by
 obtain⟨c1,c2,c3⟩:=wS ma hx;refine⟨.pointer (some ⟨w.heap.size,0,none⟩),w.alloc (.cells v.cells t),?_,Rel.ni (hB.NX hd kY c1 c2)⟩;rfl
theorem Hf(off:Nat):∀(l:List Value) (k:Nat) (arr:Array Value),off+k+l.length<=arr.size->
  ((l.zipIdx k).foldl (fun cs (x:Value×Nat)=>cs.setIfInBounds (off+x.2) x.1) arr).toList=arr.toList.take (off+k)++l++arr.toList.drop (off+k+l.length)
 | [],k,arr,_=>by simp
 |v::l,k,arr,h=>by
  simp;rw [Hf off l (k+1) _ (by simp at h |-;omega)];have e:=list_seg_step arr.toList (off+k) v l w!;simpa [Nat.add_assoc] using e
theorem Ax(place:Nat->Option (Nat×Nat)):∀(parts:List (Nat×AV)) (js:List (Nat×Value)) (cs:List AV) (arr:Array Value) (r:List AV),ak w A β arr.toList cs->
  js.map (·.1)=parts.map (·.1)->ak w A β (js.map (·.2)) (parts.map (·.2))->Cs place cs parts=some r->
  ∃yA,Instr.fill place arr js=some yA/\ak w A β yA.toList r
 | [],[],cs,arr,r,h,_,_,hr=>by
   simp [Cs,A!] at hr;subst hr;exact⟨arr,rfl,h⟩
 |(i,x)::parts,(i',v)::js,cs,arr,r,h,hk,hv,hr=>by
  simp at hk;obtain⟨hi,hk⟩:=hk;obtain⟨v0,JO,h0,h1,h2⟩:=hv;obtain⟨rfl,rfl⟩:=h0;simp [Cs] at hr;split at hr
  . grind
  . rename_i off size hp;cases hq:(Nat.beq x.cells.length size&&Nat.ble (off+size) cs.length&&x.cells.all AV.one) with
    |false=>grind
    |true=>
     simp [hq,L!] at hr;simp only [B!] at hq;obtain⟨⟨q1,q2⟩,q3⟩:=hq;have q1:=D! q1;have q2:=M! q2;obtain⟨c1,c2,c3⟩:=wS q3 h1;have hlen:=eJ cs _ h;have CA:=yw (off:=off) h c1
     have aKp:(v.cells.zipIdx.foldl (fun cs (x:Value×Nat)=>cs.setIfInBounds (off+x.2) x.1) arr).toList=arr.toList.take off++v.cells.toList++arr.toList.drop (off+v.cells.toList.length):=by
      have :=Hf off v.cells.toList 0 arr x!;grind[Array.toList_zipIdx]
     obtain⟨yA,g1,g2⟩:=Ax place parts js _ (v.cells.zipIdx.foldl (fun cs (x:Value×Nat)=>cs.setIfInBounds (off+x.2) x.1) arr) r x! hk h2 hr;simp_all[Instr.fill,if_neg]
 | [],_::_,_,_,_,_,hk,_,_=>by grind
 |_::_,[],_,_,_,_,hk,_,_=>by grind
end
end Go.Vg

end
section
namespace Go.Vg
open Go
section
variable {P:Program} {C:Ctx} {A A':Nat->Prop} {β:Nat->Value} {st:St} {a:Act} {w:World} {T:cJ}
theorem run_places(hT:bD T P):∀(fs:List Field) (ps:List (Nat×Nat)),placesOf T fs=some ps->
  (List.mapM (m:=Sem) (fun(f:Field)=>do pure (f.offset,<-sizeOf f.type)) fs).run P w= .ok ps w
 | [],ps,h=>by simp_all[placesOf,A!]
 |f::fs,ps,h=>by
  simp [placesOf] at h;split at h
  . rename_i te ps' ht hp;simp at h;subst h;obtain⟨_,i,hi,hs,_⟩:=hT.ok _ _ ht;have ih:=run_places hT fs ps' hp;have h1:(sizeOf f.type).run P w= .ok te.size w:=by simp [sizeOf,typeInfo,hi,hs]
    simp only [List.mapM_cons,Sem.run_bind,h1,Result.andThen_ok,Sem.run_pure];rw [ih];rfl
  . cases h
theorem mH(z:Value):ak w A β z.cells.toList (ofConst z).cells:=by
 have h:=wL (w:=w) (A:=A) (β:=β) z;by_cases hx:∃cs,ofConst z= .agg cs
 . obtain⟨cs,hc⟩:=hx;rw [hc] at h |-;obtain⟨arr,rfl,h⟩:=h;exact h
 . have hc:(ofConst z).cells= [ofConst z]:=by
    cases hz:ofConst z<;>first|rfl|grind
   have hz:z.cells= #[z]:=by
    cases z<;>first|rfl|exact absurd ⟨_,rfl⟩ hx
   grind[ak]
theorem PI(hT:bD T P) {t:TypeId} {parts:List (Nat×AV)} {js:Array (Nat×Value)}(hk:js.toList.map (·.1)=parts.map (·.1))(hv:ak w A β (js.toList.map (·.2)) (parts.map (·.2))) {out:Out}
  (h:FE T t parts=some out):Reads P A β w (Instr.build t js) out:=by
 unfold FE at h;split at h
 . rename_i te ht;obtain⟨hu,i,hi,hs,hb,hz⟩:=hT.ok t te ht;split at h
   . rename_i fs hd;split at h
     . rename_i ps hp;split at h
       . rename_i cs hf;simp at h;subst h;obtain⟨yA,g1,g2⟩:=Ax (fun i=>ps[i]?) parts js.toList _ te.zero.cells cs (mH te.zero) hk hv hf;refine⟨⟨rfl,rfl,rfl⟩, .agg yA,?_,by grind[af]⟩;have hm:=run_places (w:=w) hT fs.toList ps hp;simp only [Instr.build,zeroValue,typeInfo,Sem.run_bind,run_program,Result.andThen_ok,hi,hz,Sem.run_pure,run_underlying hu,Array.mapM_eq_mapM_toList,Sem.run_map,hm];simp_all
       grind
     grind
   . rename_i n e hd;split at h
     . rename_i ee he;split at h
       . rename_i cs hf;simp at h;subst h;obtain⟨_,i2,Vk,U7,_⟩:=hT.ok e ee he;obtain⟨yA,g1,g2⟩:=Ax (fun i=>some (i*ee.size,ee.size)) parts js.toList _ te.zero.cells cs (mH te.zero) hk hv hf;refine⟨⟨rfl,rfl,rfl⟩, .agg yA,?_,by grind[af]⟩;simp_all[Instr.build,zeroValue,typeInfo,hi,run_underlying,sizeOf]
       grind
     grind
   grind
 grind
theorem rN(z:Array Value)(hz:0<z.size):∀n,(List.range (n*z.size)).map (fun i=>z[i%z.size]!)=(List.replicate n z.toList).flatten
 |0=>by simp
 |n+1=>by
  rw [j?,Nat.one_mul,List.range_add,s?,rN z hz n,List.replicate_succ',List.flatten_append];congr 1
  apply List.ext_getElem
  . simp
  simp_all[Nat.add_mod,Nat.mod_eq_of_lt]
theorem tV {vs:List Value} {xs:List AV}(h:ak w A β vs xs):∀n,ak w A β (List.replicate n vs).flatten (List.replicate n xs).flatten
 |0=>by rfl
 |n+1=>by
  exact fk _ _ _ _ h (tV h n)
theorem yB(ts:List Ty):∀(n:Nat) (xs:List AV) (vs:List Value) (l:List (Row ts)),ak w A β vs xs->wF ts n xs=some l->eu (bT w A ts) vs l/\l.length=n
 |0,[],vs,l,h,hl=>by
  grind[wF,Option.some.injEq,ak,eu]
 |0,_::_,_,_,_,hl=>by grind[wF]
 |n+1,xs,vs,l,h,hl=>by
  simp [wF] at hl;split at hl
  . rename_i x l' hx l8;simp at hl;subst hl;obtain⟨s1,s2⟩:=lz xs vs ts.length h;obtain⟨g1,g2⟩:=yB ts n _ _ l' s2 l8;exact⟨⟨_,_,(Q? _ _).symm,sD ts _ _ x s1 hx,g1⟩,by simp [g2]⟩
  . cases hl
theorem NY(hB:aJ C A β st a w)(hA:∀b,A b->A' b):∀(ps:List (Nat×AV)) (vs:List Value),ak w A β vs (ps.map (·.2))->(∀k∈(oQ st.h ps).2,∀b,aB (β k)=some b->A' b)->
  ak w A' β vs ((oQ st.h ps).1.map (·.2))/\(oQ st.h ps).1.map (·.1)=ps.map (·.1)/\∀k∈(oQ st.h ps).2,∃e row l fr,st.h k=some (.row e row l fr)
 | [],vs,h,_=>by grind[ak,oQ]
 |(i,x)::ps,vs,h,pQ=>by
  obtain⟨v,cK,rfl,h1,h2⟩:=h;simp only [oQ] at pQ |-;obtain⟨p1,p2⟩:=yz hB hA x v h1 (fun k hk=>pQ k (by simp [hk]));obtain⟨q1,q2,q3⟩:=NY hB hA ps cK h2 (fun k hk=>pQ k (by simp [hk]));refine⟨by exact⟨v,cK,rfl,p1,q1⟩,by simp [q2],fun k hk=> ?_⟩;rcases F!.1 hk with hk|hk
  . exact p2 k hk
  . exact q3 k hk
theorem DZ(hT:bD T P)(hB:aJ C A β st a w) {dst:Option Nat}(hd:∀t,dst=some t->t<st.n) {d:Nat}(kY:st.h d=none/\rK d=false) {t:TypeId} {len:Nat} {parts:List (Nat×AV)} {js:Array (Nat×Value)}
  (hk:js.toList.map (·.1)=parts.map (·.1)) (hv:ak w A β (js.toList.map (·.2)) (parts.map (·.2))) {out:Out}
  (h:jY T st.h d t len parts=some out):∃v' w',(Instr.buildSlice t len js).run P w= .ok v' w'/\Rel C (st.put dst out) (a.put dst v') w':=by
 unfold jY at h;split at h
 . rename_i e te he nu;split at h
   . rename_i row lK;obtain⟨hu,RZ,i,hi,BI,Vb,Vc⟩:=DR hT he nu;cases hq:(Nat.beq row.length te.size&&Nat.blt 0 te.size&&Nat.beq (ofConst te.zero).cells.length te.size&&Nat.ble (len*te.size) 16777216) with
     |false=>grind
     |true=>
      simp only [hq,L!] at h;simp only [B!] at hq;obtain⟨⟨⟨q1,q2⟩,q3⟩,q4⟩:=hq;have q2:=M! q2;have q3:=D! q3;have q4:=M! q4;split at h
      . rename_i cs hf;split at h
        . rename_i l hl;simp only [Option.some.injEq] at h;subst h;have hzs:te.zero.cells.size=te.size:=by grind[yv]
          obtain⟨p1,p2,p3⟩:=NY (A':=cv A β (oQ st.h parts).2) hB (fun b h=> .inl h) parts _ hv (fun k hk b hb=> .inr ⟨k,hk,hb⟩)
          have tW:(((Array.range (len*i.size)).map (te.zero.cells[· %te.zero.cells.size]!)).toList)=(List.replicate len te.zero.cells.toList).flatten:=by
           have :=rN te.zero.cells w! len;simp_all
          obtain⟨yA,g1,g2⟩:=Ax (w:=w) (A:=cv A β (oQ st.h parts).2) (β:=β) (fun i=>some (i*te.size,te.size)) _ js.toList _ ((Array.range (len*i.size)).map (te.zero.cells[· %te.zero.cells.size]!)) cs
           (by grind[tV,mH]) (hk.trans p2.symm) p1 hf
          obtain⟨f1,f2⟩:=yB row len cs _ l g2 hl;have hlen:=gi l _ f1
          have kF:(Instr.buildSlice t len js).run P w= .ok (.slice (some ⟨w.heap.size,0,none⟩) len len) (w.alloc (.cells yA e)):=by
           have h24:¬(16777216<len*i.size):=by grind
           by_cases hz:len*i.size=0
           . have hln:len=0:=by
              grind[Nat.mul_eq_zero]
             subst hln;simp [Instr.buildSlice,run_underlying hu,sizeOf,typeInfo,hi,BI,newRow];simp_all[Array.range,Array.eq_empty_of_size_eq_zero]
           . rw [<-BI] at g1;simp [Instr.buildSlice,run_underlying hu,sizeOf,typeInfo,zeroValue,hi,Vc,h24,hz,g1,newRow]
          refine⟨_,_,kF,Rel.ni (hB.R3 hd kY (xs:=yA.toList) ⟨rfl,rfl,rfl,z!,fun k hk _=>heap_alloc_old w _ k hk⟩ p3 ?_ f1 (fun b hb=>by grind[aB,Option.some.injEq]))⟩;refine⟨hlen, .inr ⟨w.heap.size,len,yA,by rw [f2],w!,heap_alloc_new w _,w!,?_,?_,?_⟩⟩
          . have :len<=len*te.size:=Nat.le_mul_of_pos_right _ w!;grind[maxLen]
          . grind
          grind
        grind
      grind
   grind
 grind
end
end Go.Vg

end
section
namespace Go.Vg
open Go
section
variable {P:Program} {C:Ctx} {A A':Nat->Prop} {β:Nat->Value} {st:St} {a:Act} {w:World} {T:cJ}
theorem j5:∀(row:List Ty) (vs:List Value),dL.cW row vs=true->bT w A row vs (Row.zero row)
 | [],[],_=>by rfl
 | .int k::ts, .int k' n::vs,h=>by
   simp [dL.cW,B!,H!] at h;obtain⟨⟨h1,h2⟩,h3⟩:=h;subst h1;subst h2;simp only [bT,Row.zero,uU,yy];refine⟨_,vs,rfl,?_,j5 ts vs h3⟩;simp [Rd,D.zero];cases k<;>simp [DI.zero,DI.toInt,lo,hi]
 | .bool::ts, .bool b::vs,h=>by
   cases b with
   |true=>simp [dL.cW] at h
   |false=>
    simp only [bT,Row.zero,uU,yy];exact⟨_,vs,rfl,by simp [Rd,D.zero],j5 ts vs h⟩
 | .str::ts, .string s::vs,h=>by
   simp [dL.cW,B!] at h;simp only [bT,Row.zero,uU,yy];refine⟨_,vs,rfl,?_,j5 ts vs h.2⟩;simp only [Rd,D.zero];refine⟨?_,z!⟩
   have hs:s=⟨#[]⟩:=by
    apply ByteArray.ext;grind
   rw [hs]
 | .slice r::ts, .slice ad l c::vs,h=>by
   cases ad with
   |some p=>simp [dL.cW] at h
   |none=>
    cases l with
    |succ l=>simp [dL.cW] at h
    |zero=>
     cases c with
     |succ c=>simp [dL.cW] at h
     |zero=>
      simp only [bT,Row.zero,uU,yy];refine⟨_,vs,rfl,?_,j5 ts vs h⟩;simp only [Rd,D.zero];exact⟨none,0,[],z!,z!,z!,by simp [eu],z!⟩
 | [],_::_,h=>by grind[dL.cW]
 | .int _::_,[],h=>by grind[dL.cW]
 | .bool::_,[],h=>by grind[dL.cW]
 | .str::_,[],h=>by grind[dL.cW]
 | .slice _::_,[],h=>by grind[dL.cW]
 | .int _::_, .bool _::_,h| .int _::_, .string _::_,h| .int _::_, .slice .. ::_,h| .int _::_, .float .. ::_,h| .int _::_, .complex .. ::_,h| .int _::_, .pointer _::_,h
 | .int _::_, .map _::_,h| .int _::_, .chan _::_,h| .int _::_, .func .. ::_,h| .int _::_, .nilFunc::_,h| .int _::_, .iface .. ::_,h| .int _::_, .nilIface::_,h| .int _::_, .agg _::_,h| .int _::_, .tuple _::_,h=>by grind[dL.cW]
 | .bool::_, .int .. ::_,h| .bool::_, .string _::_,h| .bool::_, .slice .. ::_,h| .bool::_, .float .. ::_,h| .bool::_, .complex .. ::_,h| .bool::_, .pointer _::_,h
 | .bool::_, .map _::_,h| .bool::_, .chan _::_,h| .bool::_, .func .. ::_,h| .bool::_, .nilFunc::_,h| .bool::_, .iface .. ::_,h| .bool::_, .nilIface::_,h| .bool::_, .agg _::_,h| .bool::_, .tuple _::_,h=>by grind[dL.cW]
 | .str::_, .int .. ::_,h| .str::_, .bool _::_,h| .str::_, .slice .. ::_,h| .str::_, .float .. ::_,h| .str::_, .complex .. ::_,h| .str::_, .pointer _::_,h
 | .str::_, .map _::_,h| .str::_, .chan _::_,h| .str::_, .func .. ::_,h| .str::_, .nilFunc::_,h| .str::_, .iface .. ::_,h| .str::_, .nilIface::_,h| .str::_, .agg _::_,h| .str::_, .tuple _::_,h=>by grind[dL.cW]
 | .slice _::_, .int .. ::_,h| .slice _::_, .bool _::_,h| .slice _::_, .string .. ::_,h| .slice _::_, .float .. ::_,h| .slice _::_, .complex .. ::_,h| .slice _::_, .pointer _::_,h
 | .slice _::_, .map _::_,h| .slice _::_, .chan _::_,h| .slice _::_, .func .. ::_,h| .slice _::_, .nilFunc::_,h| .slice _::_, .iface .. ::_,h| .slice _::_, .nilIface::_,h| .slice _::_, .agg _::_,h| .slice _::_, .tuple _::_,h=>by grind[dL.cW]
theorem uV {row:List Ty} {z:Value}(h:dL row z=true):bT w A row z.cells.toList (Row.zero row):=by
 unfold dL at h;split at h
 . exact j5 row _ h
 . have hz:z.cells= #[z]:=by cases z<;>first|rfl|grind
   grind[j5]
theorem sE {row:List Ty} {vs:List Value} {x:Row row}(h:bT w A row vs x):∀n,eu (bT w A row) (List.replicate n vs).flatten (List.replicate n x)
 |0=>by rfl
 |n+1=>by
  exact⟨vs,_,rfl,h,sE h n⟩
theorem FX(hT:bD T P)(hB:aJ C A β st a w) {dst:Option Nat}(hd:∀t,dst=some t->t<st.n) {d:Nat}(kY:st.h d=none/\rK d=false) {t:TypeId} {x y:AV} {vx vy:Value}(hx:af w A β vx x)(hy:af w A β vy y) {out:Out}
  (h:uM T d t x y=some out) (hc:∀p∈out.cond,p):∃v' w',(Instr.makeSlice t vx vy).run P w= .ok v' w'/\Rel C (st.put dst out) (a.put dst v') w':=by
 unfold uM at h;split at h
 . rename_i k n k' c;split at h
   . rename_i e te he nu;split at h
     . rename_i row lK;obtain⟨hu,RZ,i,hi,BI,Vb,Vc⟩:=DR hT he nu;cases hq:(Nat.beq row.length te.size&&Nat.blt 0 te.size&&dL row te.zero) with
       |false=>grind
       |true=>
        simp only [hq,cond_true,Option.some.injEq] at h;subst h;simp only [Bool.and_eq_true] at hq;obtain⟨⟨q1,q2⟩,q3⟩:=hq;have q1:=Nat.eq_of_beq_eq_true q1;have q2:=Nat.le_of_ble_eq_true q2;obtain⟨c0,c1,c2⟩:=fu hc;simp only [af] at hx hy;obtain⟨rfl,_⟩:=hx;obtain⟨rfl,PG⟩:=hy;have hz:=uV (w:=w) (A:=A) q3;have hzl:=iI row _ _ hz;have hzs:te.zero.cells.size=te.size:=by grind
        have aL0:(te.bytes:Int)*c<=281474976710656:=by
         grind[Nat.eq_zero_or_pos,Int.le_ediv_iff_mul_le,Int.mul_comm]
        have FU:c<=9223372036854775807:=by
         have :=Int.ediv_le_self (te.bytes:Int) (show(0:Int)<=140737488355328 by omega);omega
        have hr:=run_make (P:=P) w t e i te.zero hu hi Vc k k' n c c0 c1 x! FU;refine⟨_,_,hr,Rel.ni (hB.R3 hd kY (fz:= []) (xs:=(List.replicate n.toNat te.zero.cells.toList).flatten) ⟨rfl,rfl,rfl,z!,fun k hk _=>heap_alloc_old w _ k hk⟩ z! ?_ ?_ (fun b hb=>by grind[aB,Option.some.injEq]))⟩
        . have tW:(madeCells te.zero.cells (c.toNat*i.size)).toList=(List.replicate c.toNat te.zero.cells.toList).flatten:=by
           have :=rN te.zero.cells w! c.toNat;simp_all[madeCells]
          have hfl:∀m,(List.replicate m te.zero.cells.toList).flatten.length=m*te.size:=by
           simp_all
          simp only [List.length_replicate];refine⟨x!, .inr ⟨w.heap.size,c.toNat,_,rfl,w!,heap_alloc_new w _,w!,by grind[maxLen],?_,?_⟩⟩
          . grind
          . rw [tW];have CA:c.toNat=n.toNat+(c.toNat-n.toNat):=by omega
            rw [CA,<-List.replicate_append_replicate,List.flatten_append,q1,<-hfl n.toNat,List.take_left]
        grind[sE,uV]
     grind
   grind
 grind
theorem JP {t t' ty e:TypeId} {i:TypeInfo}(hu:P.underlying t=some (.slice e))(hi:P.info? e=some i) {b off dLen dCap:Nat} {cur:Array Value} {be:TypeId}(hg:w.heap[b]? =some (.cells cur be (0,0))) {x:Value} {m:Nat} {cs:List Value}
  (hlen:(Builtin.lenOf x).run P w= .ok m w) (jT:(Builtin.firstCells i.size (min m dLen) x).run P w= .ok cs.toArray w) (h1:∀u∈cs,u.oneCell'=true) (Hc:off+cs.length<=cur.size):
  (Builtin.copy_ #[t,t'] ty #[.slice (some ⟨b,off,none⟩) dLen dCap,x]).run P w= .ok (.int .i64 ((min m dLen:Nat):Int)) (w.setRow b (cur.toList.take off++cs++cur.toList.drop (off+cs.length)).toArray):=by
 have sx:=run_storeCells_at P b off be cs 0 cur w hg w! h1;simp_all[Builtin.copy_,run_underlying,sizeOf,typeInfo,hi,goInt]
theorem yC {t t' ty e:TypeId} {i:TypeInfo}(hu:P.underlying t=some (.slice e))(hi:P.info? e=some i) {ad:Option Addr} {dCap:Nat} {x:Value} {m:Nat}
  (hlen:(Builtin.lenOf x).run P w= .ok m w) (jT:(Builtin.firstCells i.size 0 x).run P w= .ok #[] w):
  (Builtin.copy_ #[t,t'] ty #[.slice ad 0 dCap,x]).run P w= .ok (.int .i64 0) w:=by
 cases ad<;>simp [Builtin.copy_,run_underlying hu,sizeOf,typeInfo,hi,hlen,jT,goInt,storeCells]
theorem aJ.same(hB:aJ C A β st a w) {dst:Option Nat}(hd:∀t,dst=some t->t<st.n) {c:List Prop} {r:AV} {k:Nat} {ab:AB}(hk:st.h k=some ab) {v:Value}(h:af w A β v r):
  aJ C A β (st.put dst {cond:=c,res:=r,jq:= [(k,ab)]}) (a.put dst v) w:=by
 refine hB.step (out:= {cond:=c,res:=r,jq:= [(k,ab)]}) hd (by simp [ay]) ?_ (fun _ _=>rfl) (dC.refl w A) rfl rfl rfl (O! _) (fun _ _ _=>rfl) hB.bound (fun b h=> .inl h) ?_ (by simp [ay]) (by simp [ay]) (by simp [ay]) h
 . grind[fQ]
 . intro j b h _;obtain⟨rfl,rfl⟩:=fQ h;exact hB.blocks _ _ hk
theorem yD(n:Nat)(h:n<=maxLen):af w A β (.int .i64 (n:Int)) (.int .i64 (n:Int)):=by
 simp [af,lo,hi,true_and];grind[maxLen]
theorem FY(hB:aJ C A β st a w) {dst:Option Nat}(hd:∀t,dst=some t->t<st.n) {k e:Nat} {row:List Ty} {l m':List (Row row)}(hk:st.h k=some (.row e row l false)) {b cap off:Nat}(cY:β k= .slice (some ⟨b,0,none⟩) l.length cap)
  {cs:List Value} (fx:eu (bT w A row) cs m') (Hc:off+m'.length<=l.length) {c:List Prop} {r:AV} {v:Value} (vC:∀w',af w' A β v r) {cur:Array Value} (hg:w.heap[b]? =some (.cells cur e (0,0)))
  (fj:cur.size=cap*row.length) (hle:l.length<=cap) (Bl:cap<=maxLen) (hL:eu (bT w A row) (cur.toList.take (l.length*row.length)) l) (l9:¬A b):
  Rel C (st.put dst {cond:=c,res:=r,jq:= [(k, .row e row (l.take off++m'++l.drop (off+m'.length)) false)]}) (a.put dst v)
   (w.setRow b (cur.toList.take (off*row.length)++cs++cur.toList.drop (off*row.length+cs.length)).toArray):=by
 have hb:aB (β k)=some b:=by rw [cY];rfl
 have hlen:=gi m' cs fx;have hlr:l.length*row.length<=cur.size:=by simp_all[D?]
 have hfr:off*row.length+cs.length<=l.length*row.length:=by rw [hlen,<-j?];simp_all[D?]
 refine hB.write hd (k:=k) (fz:= []) (ab:= .row e row _ false) x! hb l9 hg ⟨rfl,rfl,rfl⟩ z! ?_ (vC _);intro A2 h1 h2 h3;have hK:dC w (w.setRow b (cur.toList.take (off*row.length)++cs++cur.toList.drop (off*row.length+cs.length)).toArray) A A2:=fun b' fv=>⟨h1 b' fv,setRow_other w b b' _ (fun h'=>l9 (h'▸fv))⟩;have hll:(l.take off++m'++l.drop (off+m'.length)).length=l.length:=by grind
 have hns:(cur.toList.take (off*row.length)++cs++cur.toList.drop (off*row.length+cs.length)).toArray.size=cur.size:=by grind
 refine⟨_,⟨?_, .inr ⟨b,cap,_,x!,w!,setRow_heap w b cur _ e _ hg,w!,Bl,hns.trans fj,rfl⟩⟩,?_,fun b' fv=> ?_⟩
 . grind
 . rw [hll]
   have IV:(cur.toList.take (off*row.length)++cs++cur.toList.drop (off*row.length+cs.length)).take (l.length*row.length)=
     (cur.toList.take (l.length*row.length)).take (off*row.length)++cs++(cur.toList.take (l.length*row.length)).drop ((off+m'.length)*row.length):=by
    rw [List.take_take,Nat.min_eq_left w!,List.take_append,J? (by simp;omega),j?,<-hlen,b?];congr 1
    congr 1
    simp;omega
   have e1:(cur.toList.take (off*row.length)++cs++cur.toList.drop (off*row.length+cs.length)).toArray.toList=cur.toList.take (off*row.length)++cs++cur.toList.drop (off*row.length+cs.length):=by simp
   rw [e1,IV];have s1:=fw l _ off hL;have s2:=fw l _ (off+m'.length) hL;exact bZ (fun c x hx=>b4 hK row c x hx) _ _ (jr _ _ _ _ (jr _ _ _ _ s1.1 fx) s2.2)
 grind
theorem R4(hT:bD T P)(hB:aJ C A β st a w) {dst:Option Nat}(hd:∀t,dst=some t->t<st.n) {t t' ty:TypeId} {s x:AV} {vs vx:Value}(hs:af w A β vs s)(hx:af w A β vx x) {out:Out}
  (h:su T st.h t t' s x=some out) (hc:∀p∈out.cond,p):∃v' w',(Builtin.copy_ #[t,t'] ty #[vs,vx]).run P w= .ok v' w'/\Rel C (st.put dst out) (a.put dst v') w':=by
 unfold su at h;split at h
 . rename_i k;split at h
   . rename_i e row l hk;cases hq:bC T t row.length with
     |false=>grind
     |true=>
      simp only [hq,L!] at h;obtain⟨el,i,hu,hi,fj,mZ⟩:=fP hT hq;split at h
      . rename_i m hm;simp only [A!] at h;subst h;obtain⟨cs,il⟩:=IU (P:=P) hB hx hm;simp only [af] at hs;obtain⟨rfl,_⟩:=hs;rcases ib hB hk with⟨g1,g2⟩|⟨b,cap,cur,g1,g2,g3,g4,g5,g6,g7⟩
        . subst g2;have hf:=il.first w rfl 0 (Nat.zero_le _);rw [g1];refine⟨_,_,yC (ty:=ty) hu hi il.len x!,?_⟩;have :=hB.same (dst:=dst) hd (c:= []) (r:= .int .i64 0) (v:= .int .i64 0) hk (by simp [af,lo,Vg.hi]);grind[Rel.ni]
        . simp only [H?,h?] at g7;have hn:min m.length l.length<=m.length:=Nat.min_le_left _ _;have hf:=il.first w rfl _ hn;have BK:=(fw m cs (min m.length l.length) il.rd).1;have hlen:=gi _ _ BK;have PC:(m.take (min m.length l.length)).length=min m.length l.length:=by simp
          have hr:=JP (P:=P) (ty:=ty) (t':=t') (dLen:=l.length) (dCap:=cap) (off:=0) hu hi g2 il.len x! (yu _ _ BK) (by
           rw [hlen,PC,g5];have :min m.length l.length*row.length<=cap*row.length:=D? _ w!;omega)
          rw [g1];refine⟨_,_,hr,?_⟩;have R5:=FY hB hd hk g1 (off:=0) (c:= []) BK w! (fun w'=>yD (w:=w') (min m.length l.length) w!) g2 g5 g3 g4 g6 g7
          have e1:m.take l.length++l.drop m.length=l.take 0++m.take (min m.length l.length)++l.drop (0+(m.take (min m.length l.length)).length):=by
           rw [PC];rcases Nat.le_total m.length l.length with hh|hh
           . grind
           simp_all
          grind
      grind
   grind
 . rename_i k sz off n;split at h
   . rename_i e row l hk;cases hq:(bC T t row.length&&Nat.beq sz row.length) with
     |false=>grind
     |true=>
      simp only [hq,L!] at h;simp only [B!] at hq;obtain⟨q1,q2⟩:=hq;have q2:=D! q2;subst q2;obtain⟨el,i,hu,hi,fj,mZ⟩:=fP hT q1;split at h
      . rename_i m hm;simp only [A!] at h;subst h;obtain⟨cs,il⟩:=IU (P:=P) hB hx hm;have hon:=fu hc;simp only [af] at hs;rcases hs with⟨hn0,ad,cap,hv,FU⟩|⟨b',mm,l4,Cz,hv,RR,aHz,aHA,aHB⟩
        . subst hn0;have hf:=il.first w rfl 0 (Nat.zero_le _);simp only [Nat.zero_mul,List.take_zero] at hf;rw [hv];refine⟨_,_,yC (ty:=ty) hu hi il.len x!,?_⟩;have :=hB.same (dst:=dst) hd (c:= [off+0<=l.length]) (r:= .int .i64 0) (v:= .int .i64 0) hk (by simp [af,lo,Vg.hi]);simpa using Rel.ni this
        . rcases ib hB hk with⟨g1,g2⟩|⟨b,cap,cur,g1,g2,g3,g4,g5,g6,g7⟩
          . grind
          . rw [g1] at hv;obtain⟨rfl,rfl,rfl⟩:=hv;have hn:min m.length n<=m.length:=Nat.min_le_left _ _;have hf:=il.first w rfl _ hn;have BK:=(fw m cs (min m.length n) il.rd).1;have hlen:=gi _ _ BK;have PC:(m.take (min m.length n)).length=min m.length n:=by simp
            have hr:=JP (P:=P) (ty:=ty) (t':=t') (dLen:=n) (dCap:=Cz) (off:=off*row.length) hu hi g2 il.len x! (yu _ _ BK) (by
             rw [hlen,PC,g5,<-j?];exact D? _ w!)
            grind[FY,yD]
      grind
   grind
 grind
end
end Go.Vg

end
section
namespace Go.Vg
open Go
section
variable {P:Program} {C:Ctx} {A A':Nat->Prop} {β:Nat->Value} {st:St} {a:Act} {w:World} {T:cJ}
theorem R6 {t ty e:TypeId} {i:TypeInfo}(hu:P.underlying t=some (.slice e))(hi:P.info? e=some i) {z:Value}(hz:i.zero=some z) {b off n cap:Nat} {cur:Array Value} {be:TypeId}(hg:w.heap[b]? =some (.cells cur be (0,0)))
  {cs:List Value} (fx:(Builtin.zeroCells z.cells n).toList=cs) (h1:∀u∈cs,u.oneCell'=true) (Hc:off+cs.length<=cur.size) (hn:0<n):
  (Builtin.clear_ #[t] ty #[.slice (some ⟨b,off,none⟩) n cap]).run P w= .ok (.tuple #[]) (w.setRow b (cur.toList.take off++cs++cur.toList.drop (off+cs.length)).toArray):=by
 have sx:=run_storeCells_at P b off be cs 0 cur w hg w! h1;obtain⟨m,rfl⟩:∃m,n=m+1:=⟨n-1,w!⟩;simp_all[Builtin.clear_,run_underlying,zeroValue,typeInfo,hi]
theorem PJ(hT:bD T P)(hB:aJ C A β st a w) {dst:Option Nat}(hd:∀t,dst=some t->t<st.n) {t ty:TypeId} {x:AV} {vx:Value}(hx:af w A β vx x) {out:Out}
  (h:sb T st.h t x=some out) (hc:∀p∈out.cond,p):∃v' w',(Builtin.clear_ #[t] ty #[vx]).run P w= .ok v' w'/\Rel C (st.put dst out) (a.put dst v') w':=by
 have ahC:∀w',af w' A β (.tuple #[]) (.bA []):=fun w'=>by simp only [af];exact⟨#[],rfl,by rfl⟩
 unfold sb at h;split at h
 . rename_i k sz off n;split at h
   . rename_i e row l hk;split at h
     . rename_i el te he nu;obtain⟨hu,RZ,i,hi,BI,Vb,Vc⟩:=DR hT he nu;cases hq:(bC T t row.length&&Nat.beq sz row.length&&Nat.beq row.length te.size&&dL row te.zero) with
       |false=>grind
       |true=>
        simp only [hq,cond_true,Option.some.injEq] at h;subst h;simp only [Bool.and_eq_true] at hq;obtain⟨⟨⟨q0,q1⟩,q2⟩,q3⟩:=hq;have q1:=Nat.eq_of_beq_eq_true q1;have q2:=Nat.eq_of_beq_eq_true q2;subst q1;obtain⟨el',i',JI,jO,aL1,mZ⟩:=fP hT q0;have hz:=uV (w:=w) (A:=A) q3;have hzl:=iI row _ _ hz;have hzs:te.zero.cells.size=te.size:=by grind
        rcases hx with⟨hn0,ad,cap,hv,FU⟩|⟨b',mm,l4,Cz,hv,RR,aHz,aHA,aHB⟩
        . subst hn0;rw [hv];refine⟨.tuple #[],w,by cases ad<;>simp [Builtin.clear_,run_underlying hu],?_⟩;have :=hB.same (dst:=dst) hd (c:= [off+0<=l.length]) (r:= .bA []) (v:= .tuple #[]) hk (ahC w);simpa using Rel.ni this
        . rcases ib hB hk with⟨g1,g2⟩|⟨b,cap,cur,g1,g2,g3,g4,g5,g6,g7⟩
          . grind
          . rw [g1] at hv;obtain⟨rfl,rfl,rfl⟩:=hv
            have tW:(Builtin.zeroCells te.zero.cells n).toList=(List.replicate n te.zero.cells.toList).flatten:=by
             have :=rN te.zero.cells w! n;simp_all[Builtin.zeroCells]
            have BK:=sE hz n;have hlen:=gi _ _ BK;rw [List.length_replicate] at hlen;rw [RR];by_cases hn:n=0
            . subst hn;refine⟨.tuple #[],w,by simp [Builtin.clear_,run_underlying hu],?_⟩;have :=hB.same (dst:=dst) hd (c:= [off+0<=l.length]) (r:= .bA []) (v:= .tuple #[]) hk (ahC w);simpa using Rel.ni this
            . have hr:=R6 (P:=P) (ty:=ty) (n:=n) (cap:=Cz) (off:=off*row.length) hu hi Vc g2 tW (yu _ _ BK) (by
               rw [hlen,g5,<-j?];exact D? _ w!) w!
              refine⟨_,_,hr,?_⟩;have R5:=FY hB hd hk g1 (off:=off) (c:= [off+n<=l.length]) (r:= .bA []) (v:= .tuple #[]) BK (by rw [List.length_replicate];omega) ahC g2 g5 g3 g4 g6 g7;rw [List.length_replicate] at R5;exact R5
     grind
   grind
 grind
end
end Go.Vg

end
section
namespace Go.Vg
open Go
section
variable {P:Program} {C:Ctx} {A A':Nat->Prop} {β:Nat->Value} {st:St} {a:Act} {w:World} {T:cJ}
theorem D1:∀(u:B8) (cs:List Value),eu (bT w A [.int .u8]) cs u->cs=u.map fun b=>Value.int .u8 (b.toNat:Int)
 | [],cs,h=>by grind[eu]
 |b::u,cs,⟨c1,c2,hc,h1,h2⟩=>by
  subst hc;obtain⟨v,vs,rfl,h3,rfl⟩:=h1;rw [D1 u c2 h2];simp;exact h3.1
theorem foldl_push:∀(u:B8) (r:ByteArray),(u.map fun b=>(b.toNat:Int)).foldl (fun r n=>r.push (UInt8.ofNat n.toNat)) r=⟨(r.data.toList++u).toArray⟩
 | [],r=>by simp
 |b::u,r=>by
  simp;rw [foldl_push u];simp
theorem yE(hB:aJ C A β st a w) {x:AV} {v:Value}(hx:af w A β v x) {u:B8}(h:ng st.h [.int .u8] x=some u)(R7:∀n c,v= .slice none n c->n=0)(FZ:∃ad n c,v= .slice ad n c):
  (Conv.bytesToString v).run P w= .ok (.string ⟨u.toArray⟩) w/\u.length<=maxLen:=by
 obtain⟨cs,il⟩:=IU (P:=P) hB hx h;have fx:=D1 u cs il.rd;obtain⟨ad,n,c,rfl⟩:=FZ
 have hn:n=u.length:=by
  have :=il.len;simp_all[Builtin.lenOf]
 refine⟨?_,il.max⟩;cases ad with
 |none=>
  have :=R7 n c rfl;have hu:u= []:=C? w!;subst hu;rfl
 |some p=>
  have hf:=il.first w rfl u.length (O! _);have hl:=gi (row:= [.int .u8]) u cs il.rd;rw [<-hl,List.take_length] at hf
  have aAV:(loadCells p n).run P w= .ok ((u.map fun b=>(b.toNat:Int)).map (Value.int .u8)).toArray w:=by
   simp_all[Builtin.firstCells,Nat.mul_one]
  rw [run_bytesToString w p n c _ aAV,foldl_push];simp
theorem yF(hB:aJ C A β st a w) {dst:Option Nat}(hd:∀t,dst=some t->t<st.n) {e:TypeId} {u:B8}(hu:u.length<=maxLen) {c:List Prop}:
  ∃v' w',(Conv.stringToBytes e ⟨u.toArray⟩).run P w= .ok v' w'/\Rel C (st.put dst {cond:=c,res:= .sl [.int .u8] u}) (a.put dst v') w':=by
 let cap:=grownCap w u.length 0 e
 have NZ:u.length<=cap:=grownCap_ge w u.length 0 e;have FU:cap<=maxLen:=grownCap_le_maxLen w u.length 0 e hu;let arr:Array Value:=(u.map fun b=>Value.int .u8 (b.toNat:Int)).toArray++Array.replicate (cap-u.length) (.int .u8 0)
 let w':World:=(w.drew.alloc (.cells arr e)).freeze ⟨w.heap.size,arr.size,none⟩ 1
 have kF:(Conv.stringToBytes e ⟨u.toArray⟩).run P w= .ok (.slice (some ⟨w.heap.size,0,none⟩) u.length cap) w':=by
  have PK:(w.drew.alloc (.cells arr e)).shape? w.heap.size=some (e,arr.size):=by
   have :=heap_alloc_new w.drew (.cells arr e);simp_all[World.shape?]
  have h1:(⟨u.toArray⟩:ByteArray).size=u.length:=yo u;simp only [Conv.stringToBytes,Sem.run_bind,run_choose,Question.forced,H?,h?,Result.andThen_ok,h1,newRow,run_newObj,Sem.run_pure,markStringish,run_shape];have hg:(Question.appendCap u.length 0 e).cut (w.tape w.drawn (Question.appendCap u.length 0 e))=cap:=rfl;rw [hg]
  have ahD:Array.map (fun b:UInt8=>Value.int IntKind.u8 (b.toNat:Int)) u.toArray++Array.replicate (cap-u.length) (Value.int IntKind.u8 0)=arr:=by
   grind
  rw [ahD];have hw2:({heap:=w.heap.push (Obj.cells arr e),tape:=w.tape,drawn:=w.drawn+1,os:=w.os,output:=w.output}:World)=w.drew.alloc (.cells arr e):=rfl;grind[run_freeze,Result.andThen_ok]
 have qt:∀b,b<w.heap.size->w'.heap[b]? =w.heap[b]? :=by
  intro b hb;have h2:(w.drew.alloc (.cells arr e)).heap[b]? =w.heap[b]? :=pR (w:=w.drew) _ b hb;simp only [w',World.freeze,Nat.one_ne_zero,if_false,Array.getElem?_modify];grind
 have hC:∃fz,w'.heap[w.heap.size]? =some (.cells arr e fz):=by
  have h2:(w.drew.alloc (.cells arr e)).heap[w.heap.size]? =some (.cells arr e):=heap_alloc_new w.drew _;simp only [w',World.freeze,Nat.one_ne_zero,if_false,Array.getElem?_modify,if_true,h2,Option.map_some];grind
 have oT:w'.heap.size=w.heap.size+1:=by
  have :(w.drew.alloc (.cells arr e)).heap.size=w.heap.size+1:=by simp
  simp only [w',World.freeze,Nat.one_ne_zero,h?,Array.size_modify];omega
 let A':Nat->Prop :=fun b=>A b\/b=w.heap.size
 have hK:dC w w' A A':=fun b hb=>⟨.inl hb,qt b (hB.bound b hb)⟩;refine⟨_,w',kF,A',β,?_⟩;refine hB.step (out:= {cond:=c,res:= .sl [.int .u8] u}) hd (by simp [ay]) (by simp [ay]) (fun _ _=>rfl) hK rfl rfl rfl w! (fun b hb _=>qt b hb) ?_ ?_ (by simp [ay]) (by simp [ay]) (by simp [ay]) (by simp [ay]) ?_
 . intro b hb;rcases hb with hb|rfl
   . have :=hB.bound b hb;omega
   omega
 . grind
 . refine⟨_,cap,_,rfl,NZ,FU,JH u,fun _=>⟨w.heap.size,0,rfl, .inr rfl,fun j v hj=> ?_⟩⟩;simp only [World.cell?,hC,Nat.zero_add];grind
theorem ahE {row:List Ty} {n c:Nat} {l:List (Row row)}(h:Rd w A (.slice row) (.slice none n c) l)(hp:0<row.length):n=0:=by
 obtain⟨ad,cap,cs,h1,h2,h3,h4,h5⟩:=h;obtain⟨rfl,rfl,rfl⟩:=h1;grind[gi,List.length_nil,Nat.mul_eq_zero]
theorem Vl(hB:aJ C A β st a w) {x:AV} {v:Value}(hx:af w A β v x)(hn:wH x=true) {u:B8}(h:ng st.h [.int .u8] x=some u):
  (∃ad n c,v= .slice ad n c)/\∀n c,v= .slice none n c->n=0:=by
 have FZ:∀ {row:List Ty} {l:List (Row row)},row= [.int .u8]->Rd w A (.slice row) v l->(∃ad n c,v= .slice ad n c)/\∀n c,v= .slice none n c->n=0:=by
  grind[wP,Value.slice.injEq,ahE]
 unfold ng at h;split at h
 . grind[wH]
 . simp [af] at hx;grind
 . cases x with
   |sl r l=>
    obtain⟨e,_⟩:=j4 h;exact FZ e hx
   |full r l=>
    grind[iF,j4,af]
   |own k=>
    grind[iF,af,nZ,Value.slice.injEq]
   |pre k n=>
    simp [af] at hx;grind
   |view k sz off n=>
    grind[af]
   |_=>grind[iF]
def ahF(P:Program)(C:Ctx)(st:St)(a:Act)(w:World)(d:Option Nat)(out:Out)(s:Sem Value):Prop :=∃v w',s.run P w= .ok v w'/\Rel C (st.put d out) (a.put d v) w'
theorem Reads.sF(hB:aJ C A β st a w) {dst:Option Nat}(hd:∀t,dst=some t->t<st.n) {s:Sem Value} {out:Out}(h:Reads P A β w s out):ahF P C st a w dst out s:=
 let⟨hq,v,h1,h2⟩:=h
 ⟨v,w,h1,Rel.ni (hB.quiet hd hq h2)⟩
theorem Vm(hT:bD T P)(hB:aJ C A β st a w) {dst:Option Nat}(hd:∀t,dst=some t->t<st.n) {s d:TypeId} {k:Nat} {v:Value}(hx:af w A β v (.own k)) {out:Out}
  (h:Av T st.h s d k=some out) (hc:∀p∈out.cond,p):ahF P C st a w dst out (convert s d v):=by
 unfold Av at h;cases hsd:Nat.beq s d with
 |false=>grind
 |true=>
  have hsd:=D! hsd;subst hsd;simp at h;split at h
  . rename_i ts Nj;have Bm:=l7 hT Nj;split at h
    . rename_i e rO;rw [rO] at Bm;split at h
      . rename_i te e0 row l nu hk;have hue:=l7 hT nu;split at h
        . rename_i l' hde rp;rw [hde] at hue;obtain⟨he,hl⟩:=j4 rp;subst he;simp only at hl;subst hl;simp at h;subst h;have mZ:0<l.length:=fu hc;obtain⟨xs,ho,rM,l9⟩:=hB.blocks k _ hk;rcases ho.2 with⟨_,h0⟩|⟨g,cap,cur,hv,_,hg,hn,NZ,fj,Cx⟩
          . omega
          . have Pu:aB (β k)=some g:=by rw [hv];rfl
            have aHC:¬A g:=by grind
            have aL2:g<w.heap.size:=(E?.1 hg).1;rw [hx.1,hv];let w':World:=w.freeze ⟨g,cur.size,none⟩ 1
            have PK:w.shape? g=some (e0,cur.size):=by grind[World.shape?]
            have kF:(convert s s (.slice (some ⟨g,0,none⟩) l.length cap)).run P w= .ok (.slice (some ⟨g,0,none⟩) l.length cap) w':=by
             simp only [convert,Sem.run_bind,run_underlying Bm,run_underlying hue,Result.andThen_ok,beq_self_eq_true,markStringish,run_shape,PK,run_freeze,Sem.run_pure];rfl
            have qt:∀b,b≠g->w'.heap[b]? =w.heap[b]? :=by
             intro b hb;simp only [w',World.freeze,Nat.one_ne_zero,if_false,Array.getElem?_modify];grind
            have hC:∃fz,w'.heap[g]? =some (.cells cur e0 fz):=by
             simp only [w',World.freeze,Nat.one_ne_zero,if_false,Array.getElem?_modify,if_true,hg,Option.map_some];grind
            obtain⟨fz,hC⟩:=hC;have oT:w'.heap.size=w.heap.size:=by simp only [w',World.freeze,Nat.one_ne_zero,h?,Array.size_modify]
            have hK:dC w w' A (fun b=>A b\/b=g):=fun b hb=>⟨.inl hb,qt b (fun h=>aHC (h▸hb))⟩;have aHD:nr st {cond:= [0<l.length],res:= .sl [.int .u8] l,del:= [k]} k:=⟨x!, .inr (by simp [aM])⟩;refine⟨_,w',kF,fun b=>A b\/b=g,β,?_⟩;refine hB.step (out:= {cond:= [0<l.length],res:= .sl [.int .u8] l,del:= [k]}) hd (by simp [ay]) (by simp [ay]) (fun _ _=>rfl) hK rfl rfl rfl w! (fun b hb hnt=>qt b (fun h=>hnt k aHD x!)) ?_ ?_ (by simp [ay]) (by simp [ay]) (by simp [ay]) (by simp [ay]) ?_
            . intro b hb;rcases hb with hb|rfl
              . have :=hB.bound b hb;omega
              omega
            . grind
            . refine⟨_,cap,xs,rfl,hn,NZ,bZ (fun c x hx=>b4 hK _ c x hx) _ _ rM,fun _=>⟨g,0,rfl, .inr rfl,fun j u hj=> ?_⟩⟩;rw [<-Cx,m?] at hj;simp_all[World.cell?,q?,Option.isSome_none,H?,h?]
        grind
      grind
    grind
  grind
theorem JQ(hT:bD T P)(hB:aJ C A β st a w) {dst:Option Nat}(hd:∀t,dst=some t->t<st.n) {s d:TypeId} {x:AV} {v:Value}(hx:af w A β v x) {out:Out}
  (h:ov T st.h s d x=some out) (hc:∀p∈out.cond,p):ahF P C st a w dst out (convert s d v):=by
 unfold ov at h;split at h
 . rename_i ts td Nj htd;have Bm:=l7 hT Nj;have hud:=l7 hT htd;split at h
   . rename_i k0 k k' n rO DN;rw [rO] at Bm;rw [DN] at hud;simp only [af] at hx;obtain⟨rfl,hn⟩:=hx
     have kF:(convert s d (.int k' n)).run P w= .ok (.int k (k.wrap n)) w:=by
      simp_all[convert,run_underlying,Conv.intToInt]
     split at h
     . rename_i hr;simp only [A!] at h;subst h;have hin:lo k<=n/\n<=hi k:=by omega
       rw [yn hin] at kF;exact Reads.sF hB hd ⟨⟨rfl,rfl,rfl⟩,_,kF,by simp_all[af,trivial]⟩
     . obtain⟨hq,hr,_⟩:=pM (w:=w) (A:=A) (β:=β) h hc;exact Reads.sF hB hd ⟨hq,_,kF,hr⟩
   . rename_i u rO DN;rw [rO] at Bm;rw [DN] at hud;simp only [A!] at h;subst h;have Iv:=hx;simp only [af] at hx;exact Reads.sF hB hd ⟨⟨rfl,rfl,rfl⟩,_,by simp_all[convert,run_underlying],Iv⟩
   . rename_i e u rO DN;rw [rO] at Bm;rw [DN] at hud;simp only [af] at hx;obtain⟨rfl,hn⟩:=hx;split at h
     . rename_i te nu;have hue:=l7 hT nu;split at h
       . rename_i hde;rw [hde] at hue;simp only [A!] at h;subst h;obtain⟨v',w',h1,h2⟩:=yF (P:=P) hB hd (e:=e) hn (c:= []);exact⟨v',w',by simp_all[convert,run_underlying],h2⟩
       grind
     grind
   . rename_i e rO DN;rw [rO] at Bm;rw [DN] at hud;split at h
     . rename_i te nu;have hue:=l7 hT nu;split at h
       . rename_i hde;rw [hde] at hue;split at h
         . rename_i u hns hu;simp only [A!] at h;subst h;have hvs:=Vl hB hx hns hu;obtain⟨h1,h2⟩:=yE (P:=P) hB hx hu hvs.2 hvs.1;obtain⟨ad,n,c,rfl⟩:=hvs.1;refine Reads.sF hB hd ⟨⟨rfl,rfl,rfl⟩, .string ⟨u.toArray⟩,?_,by simp_all[af,trivial]⟩;simp_all[convert,run_underlying]
         grind
       grind
     grind
   . grind[Vm]
   grind
 grind
end
end Go.Vg

end
section
namespace Go.Vg
open Go
structure lA (w:World) (A:Nat->Prop) (w':World) (v:Value) (res:AV) (bs:List AB) (A':Nat->Prop) (aS:Nat->Value):Prop where
 os:w'.os=w.os
 tape:w'.tape=w.tape
 output:w'.output=w.output
 size:w.heap.size<=w'.heap.size
 same:∀b,b<w.heap.size->w'.heap[b]? =w.heap[b]?
 mono:∀b,A b->A' b
 nh:∀b,b<w.heap.size->A' b->A b
 bound:∀b,A' b->b<w'.heap.size
 res:af w' A' aS v res
 rows:∀i ab,bs[i]? =some ab->BR w' A' aS i ab/\∀b,aB (aS i)=some b->w.heap.size<=b
 apart:∀i j b,i<bs.length->j<bs.length->aB (aS i)=some b->aB (aS j)=some b->i=j
def Valid(P:Program)(G:Nat->Option GD)(f:FuncId)(s:RN):Prop :=
 ∀(w:World) (A:Nat->Prop) (β:Nat->Value) (args:List Value) (cZ:List AV) (pre:Prop) (res:AV) (bs:List AB),
  (∀b,A b->b<w.heap.size)->(∀i d,G i=some d->rm w A i d)->ak w A β args cZ->s cZ=some (pre,res,bs)->pre->
  Calls P f args.toArray w fun e w'=>∃v,e= .returned v/\∃A' aS,lA w A w' v res bs A' aS
def HM(β:Nat->Value)(n b:Nat):Prop :=∃i,i<n/\aB (β (50000+i))=some b
def Vn(r:bP)(k:Nat):Prop :=(∃i ab,k=50000+i/\i<10000/\r.heap[i]? =some (some ab))\/∃j,k=60000+j/\j<r.new.length
structure JR (w:World) (A:Nat->Prop) (β:Nat->Value) (n:Nat) (w':World) (v:Value) (r:bP) (A':Nat->Prop) (aS:Nat->Value):Prop where
 os:w'.os=w.os
 tape:w'.tape=w.tape
 output:w'.output=w.output
 size:w.heap.size<=w'.heap.size
 same:∀b,b<w.heap.size->¬HM β n b->w'.heap[b]? =w.heap[b]?
 mono:∀b,A b->A' b/\w'.heap[b]? =w.heap[b]?
 nh:∀b,b<w.heap.size->A' b->A b\/HM β n b
 bound:∀b,A' b->b<w'.heap.size
 res:af w' A' aS v r.res
 kept:∀i ab,r.heap[i]? =some (some ab)->BR w' A' aS (50000+i) ab/\aS (50000+i)=β (50000+i)
 rows:∀j ab,r.new[j]? =some ab->BR w' A' aS (60000+j) ab/\∀b,aB (aS (60000+j))=some b->w.heap.size<=b\/HM β n b
 apart:∀k k' b,Vn r k->Vn r k'->aB (aS k)=some b->aB (aS k')=some b->k=k'
def cg(P:Program)(G:Nat->Option GD)(f:FuncId)(s:jZ):Prop :=
 ∀(w:World) (A:Nat->Prop) (β:Nat->Value) (args:List Value) (cZ:List AV) (hs:List AB) (r:bP),
  (∀b,A b->b<w.heap.size)->(∀i d,G i=some d->rm w A i d)->ak w A β args cZ->
  (∀i ab,hs[i]? =some ab->BR w A β (50000+i) ab)->(∀i j b,i<hs.length->j<hs.length->aB (β (50000+i))=some b->aB (β (50000+j))=some b->i=j)->
  s cZ hs=some r->r.pre->r.heap.length=hs.length->hs.length<=100->
  Calls P f args.toArray w fun e w'=>∃v,e= .returned v/\∃A' aS,JR w A β hs.length w' v r A' aS
section
variable {P:Program} {C:Ctx} {A A':Nat->Prop} {β aS:Nat->Value} {st:St} {a:Act} {w:World} {T:cJ}
theorem JS {β aS:Nat->Value}:∀(cs:List AV) (vs:List Value),cs.all Jv=true->ak w A β vs cs->ak w A aS vs cs
 | [],vs,_,h=>by grind[ak]
 |c::cs,vs,ho,h=>by
  simp only [List.all_cons,Bool.and_eq_true] at ho;obtain⟨v,cK,rfl,h1,h2⟩:=h;refine⟨v,cK,rfl,?_,JS cs cK ho.2 h2⟩;have ho1:=ho.1;unfold Jv at ho1;split at ho1
  . simpa only [af,ak] using h1
  . cases ho1
mutual
theorem wU(base n:Nat)(cY:∀i,i<n->aS (base+i)=β i):∀(x:AV) (v:Value),kO n x=true->af w A β v x->af w A aS v (ep base x)
 | .own k,v,ho,h=>by
   simp only [kO] at ho;have :=M! ho;simp only [ep,af] at h |-;rw [cY k w!];exact h
 | .agg cs,v,ho,h=>by
   simp only [kO] at ho;simp only [ep,af] at h |-;obtain⟨arr,h1,h2⟩:=h;exact⟨arr,h1,yG base n cY cs _ ho h2⟩
 | .bA cs,v,ho,h=>by
   simp only [kO] at ho;simp only [ep,af] at h |-;obtain⟨arr,h1,h2⟩:=h;exact⟨arr,h1,yG base n cY cs _ ho h2⟩
 | .dU,v,ho,h=>by simp [kO] at ho
 | .pre _ _,v,ho,h=>by simp [kO] at ho
 | .view _ _ _ _,v,ho,h=>by simp [kO] at ho
 | .ref _ _,v,ho,h=>by simp [kO] at ho
 | .elem _ _ _ _,v,ho,h=>by simp [kO] at ho
 | .fn _ _ _,v,ho,h=>by simp [kO] at ho
 | .iM _ _ _,v,ho,h=>by simp [kO] at ho
 | .undef,v,_,h=>by simpa only [ep,af] using h
 | .int _ _,v,_,h=>by simpa only [ep,af] using h
 | .bool _,v,_,h=>by simpa only [ep,af] using h
 | .tt,v,_,h=>by simpa only [ep,af] using h
 | .ff,v,_,h=>by simpa only [ep,af] using h
 | .str _,v,_,h=>by simpa only [ep,af] using h
 | .nil,v,_,h=>by simpa only [ep,af] using h
 | .lp,v,_,h=>by simpa only [ep,af] using h
 | .rD _ _,v,_,h=>by simpa only [ep,af] using h
 | .lW,v,_,h=>by simpa only [ep,af] using h
 | .je ks cs,v,ho,h=>by
   simp only [kO] at ho;simp only [ep,af] at h |-;obtain⟨b,es,ck,h1,h2,h3,h4,h5⟩:=h;exact⟨b,es,ck,h1,h2,h3,h4,JS cs _ ho h5⟩
 | .sl _ _,v,_,h=>by simpa only [ep,af] using h
 | .full _ _,v,_,h=>by simpa only [ep,af] using h
theorem yG(base n:Nat)(cY:∀i,i<n->aS (base+i)=β i):∀(xs:List AV) (vs:List Value),DA n xs=true->ak w A β vs xs->ak w A aS vs (sc base xs)
 | [],vs,_,h=>by simpa only [sc,ak] using h
 |x::xs,vs,ho,h=>by
  simp only [DA,B!] at ho;simp only [ak] at h;obtain⟨v,cK,rfl,h1,h2⟩:=h;simp only [sc,ak];exact⟨v,cK,rfl,wU base n cY x v ho.1 h1,yG base n cY xs cK ho.2 h2⟩
end
mutual
theorem JT:∀(x:AV) (v:Value),x.fN=true->af w A β v x->af w A' β v x
 | .own _,v,_,h=>by simpa only [af] using h
 | .agg cs,v,ho,h=>by
   simp only [AV.fN] at ho;simp only [af] at h |-;obtain⟨arr,h1,h2⟩:=h;exact⟨arr,h1,yH cs _ ho h2⟩
 | .bA cs,v,ho,h=>by
   simp only [AV.fN] at ho;simp only [af] at h |-;obtain⟨arr,h1,h2⟩:=h;exact⟨arr,h1,yH cs _ ho h2⟩
 | .dU,v,ho,h=>by simp [AV.fN] at ho
 | .pre _ _,v,ho,h=>by simp [AV.fN] at ho
 | .view _ _ _ _,v,ho,h=>by simp [AV.fN] at ho
 | .ref _ _,v,ho,h=>by simp [AV.fN] at ho
 | .elem _ _ _ _,v,ho,h=>by simp [AV.fN] at ho
 | .fn _ _ _,v,ho,h=>by simp [AV.fN] at ho
 | .iM _ _ _,v,ho,h=>by simp [AV.fN] at ho
 | .lp,v,ho,h=>by simp [AV.fN] at ho
 | .rD _ _,v,ho,h=>by simp [AV.fN] at ho
 | .lW,v,ho,h=>by simp [AV.fN] at ho
 | .je _ _,v,ho,h=>by simp [AV.fN] at ho
 | .sl _ _,v,ho,h=>by simp [AV.fN] at ho
 | .full _ _,v,ho,h=>by simp [AV.fN] at ho
 | .undef,v,_,h=>by simpa only [af] using h
 | .int _ _,v,_,h=>by simpa only [af] using h
 | .bool _,v,_,h=>by simpa only [af] using h
 | .tt,v,_,h=>by simpa only [af] using h
 | .ff,v,_,h=>by simpa only [af] using h
 | .str _,v,_,h=>by simpa only [af] using h
 | .nil,v,_,h=>by simpa only [af] using h
theorem yH:∀(xs:List AV) (vs:List Value),Dz xs=true->ak w A β vs xs->ak w A' β vs xs
 | [],vs,_,h=>by simpa only [ak] using h
 |x::xs,vs,ho,h=>by
  simp only [Dz,B!] at ho;simp only [ak] at h |-;obtain⟨v,cK,rfl,h1,h2⟩:=h;exact⟨v,cK,rfl,JT x v ho.1 h1,yH xs cK ho.2 h2⟩
end
theorem R8:∀(row:List Ty) (vs:List Value) (x:Row row),row.all IT=true->bT w A row vs x->bT w A' row vs x
 | [],vs,_,_,h=>by grind[bT]
 |t::ts,vs,x,hf,h=>by
  simp only [List.all_cons,B!] at hf;obtain⟨v,cK,rfl,h1,h2⟩:=h;refine⟨v,cK,rfl,?_,R8 ts cK _ hf.2 h2⟩;cases t with
  |slice r=>simp [IT] at hf
  |int k=>simpa only [Rd] using h1
  |bool=>simpa only [Rd] using h1
  |str=>simpa only [Rd] using h1
theorem tX(base:Nat):∀(bs:List AB) (n k:Nat),ay (gv (base+n) bs) k=(if base+n<=k then bs[k-(base+n)]? else none)
 | [],n,k=>by simp [gv,ay]
 |b::bs,n,k=>by
  simp only [gv,ay];by_cases hk:k=base+n
  . simp_all
  . simp;have :=tX base bs (n+1) k;grind
theorem BL:∀(bs:List AB) (i:Nat) (ab:AB),j3 bs=true->bs[i]? =some ab->∃e row l,ab= .row e row l false
 | [],i,ab,_,h=>by grind
 | .cells _::bs,_,_,h,_=>by grind[j3]
 | .arr _ _::bs,_,_,h,_=>by grind[j3]
 | .jc _ _ _ _ _::bs,_,_,h,_=>by grind[j3]
 | .views _ _ _ _ _::bs,_,_,h,_=>by grind[j3]
 | .row e row l true ::bs,_,_,h,_=>by grind[j3]
 | .row e row l false ::bs,0,ab,_,h=>by grind
 | .row e row l false ::bs,i+1,ab,ho,h=>BL bs i ab (by grind[j3]) x!
theorem BM:∀(bs:List AB) (i e:Nat) (row:List Ty) (l:List (Row row)) (fr:Bool),eh bs=true->bs[i]? =some (.row e row l fr)->row.all IT=true
 | [],i,_,_,_,_,_,h=>by grind
 | .cells _::bs,_,_,_,_,_,h,_=>by grind[eh]
 | .arr _ _::bs,_,_,_,_,_,h,_=>by grind[eh]
 | .jc _ _ _ _ _::bs,_,_,_,_,_,h,_=>by grind[eh]
 | .views _ _ _ _ _::bs,_,_,_,_,_,h,_=>by grind[eh]
 | .row e row l fr::bs,0,e',lZ,l',FF,ho,h=>by
   simp_all[eh,B!]
 | .row e row l fr::bs,i+1,e',lZ,l',FF,ho,h=>by
   simp [eh,B!] at ho;exact BM bs i e' lZ l' FF ho.2 (by simpa using h)
theorem kG {h:bg}:∀(new:List (Nat×AB)) (k:Nat) (b:AB),kT h new=true->ay new k=some b->h k=none/\rK k=false
 | [],k,b,_,hf=>by grind[ay]
 |(j,x)::r,k,b,ho,hf=>by
  simp [kT,B!] at ho;simp [ay] at hf;by_cases hk:k=j
  . grind
  . simp [bh hk,Q!] at hf;exact kG r k b ho.2 hf
theorem aJ.call(hB:aJ C A β st a w) {dst:Option Nat}(hd:∀t,dst=some t->t<st.n) {base:Nat} {res:AV} {bs:List AB} {fz:List Nat} {cond:List Prop} {v:Value} {w':World} {A1:Nat->Prop} {oL:Nat->Value}
  (DT:∀j∈fz,∃e row l fr,st.h j=some (.row e row l fr)) (hC:kT st.h (gv base bs)=true) (hro:kO bs.length res=true) (hor:j3 bs=true)
  (hp:lA w (cv A β fz) w' v res bs A1 oL):
  Rel C (st.put dst {cond:=cond,res:=ep base res,jq:=bif res.fN&&eh bs then [] else cU st.h fz,new:=gv base bs}) (a.put dst v) w':=by
 let aS:Nat->Value:=fun k=>if base<=k/\k<base+bs.length then oL (k-base) else β k
 have R9:∀i,i<bs.length->aS (base+i)=oL i:=by
  grind
 have IW:∀k,ay (gv base bs) k=(if base<=k then bs[k-base]? else none):=fun k=>by simpa using tX base bs 0 k
 have cY:∀k,ay (gv base bs) k=none->aS k=β k:=by
  grind
 have sG:∀k ab,ay (gv base bs) k=some ab->base<=k/\bs[k-base]? =some ab/\k-base<bs.length:=by
  grind
 have BN:∀k ab,ay (gv base bs) k=some ab->aS k=oL (k-base):=by
  grind
 let A2:Nat->Prop :=bif res.fN&&eh bs then A else A1
 have aHE:∀b,A b->A2 b:=by
  intro b hb;simp only [A2];cases res.fN&&eh bs with
  |true=>grind
  |false=>exact hp.mono b (.inl hb)
 have hK:dC w w' A A2:=fun b hb=>⟨aHE b hb,hp.same b (hB.bound b hb)⟩
 have Jz:∀k ab,ay (bif res.fN&&eh bs then [] else cU st.h fz) k=some ab->(res.fN&&eh bs)=false/\k∈fz/\∃e row l fr,st.h k=some (.row e row l fr)/\ab= .row e row l true :=by
  grind[eh,ay,jG]
 refine⟨A2,aS,?_⟩;refine hB.step (out:= {cond:=cond,res:=ep base res,jq:=bif res.fN&&eh bs then [] else cU st.h fz,new:=gv base bs}) hd (fun k b h=>kG _ k b hC h) ?_ cY hK hp.os hp.tape hp.output hp.size (fun b hb _=>hp.same b hb) ?_ ?_ ?_ ?_ ?_ ?_ ?_
 . grind
 . intro b hb;simp only [A2] at hb;cases hl:res.fN&&eh bs with
   |true=>rw [hl] at hb;exact Y? (hB.bound b hb) hp.size
   |false=>rw [hl] at hb;exact hp.bound b hb
 . intro b hb;simp only [A2] at hb;cases hl:res.fN&&eh bs with
   |true=>grind
   |false=>
    rw [hl] at hb;rcases Nat.lt_or_ge b w.heap.size with kU|Nf
    . rcases hp.nh b kU hb with h|⟨j,hj,Vi⟩
      . exact .inl h
      . have hr:=DT j hj;refine .inr (.inr ⟨j,⟨by obtain⟨_,_,_,_,hr⟩:=hr;simp [hr], .inl ?_⟩,Vi⟩);simp only [Q!];exact qu fz j hj hr
    . exact .inr (.inl Nf)
 . intro k ab h _;obtain⟨hl,hk,e,row,l,fr,hr,rfl⟩:=Jz k ab h;rw [mD]
   have hkn:ay (gv base bs) k=none:=by
    cases hh:ay (gv base bs) k with
    |none=>rfl
    |some y=>have :=(kG _ k y hC hh).1;rw [hr] at this;cases this
   obtain⟨xs,h1,h2,h3⟩:=hB.blocks k _ hr;simp only [BR,cY k hkn];refine⟨xs,iH h1 (fun b hb=>hp.same b (nv hB (by simp [hr]) hb)),bZ (fun c x hx=>b4 hK row c x hx) l xs h2,fun b hb=> ?_⟩;simp only [K?,A2,hl,Q!];exact hp.mono b (.inr ⟨k,hk,hb⟩)
 . intro k ab h;obtain⟨h1,h2,h3⟩:=sG k ab h;obtain⟨e,row,l,rfl⟩:=BL bs _ ab hor h2;obtain⟨⟨xs,g1,g2,g3⟩,g4⟩:=hp.rows _ _ h2;simp only [BR,BN k _ h]
   have rM:eu (bT w' A2 row) xs l:=by
    simp only [A2];cases hl:res.fN&&eh bs with
    |true=>
     simp only [B!] at hl;exact bZ (fun c x hx=>R8 row c x (BM bs _ e row l false hl.2 h2) hx) l xs g2
    |false=>exact g2
   refine⟨xs,g1,rM,fun b hb=> ?_⟩;have g3':=g3 b hb;simp only [H?,h?] at g3' |-;simp only [A2];cases hl:res.fN&&eh bs with
   |true=>intro hA;exact absurd (hB.bound b hA) (by have :=g4 b hb;omega)
   |false=>exact g3'
 . intro k b ab h hb;obtain⟨h1,h2,h3⟩:=sG k ab h;rw [BN k _ h] at hb;exact .inl ((hp.rows _ _ h2).2 b hb)
 . intro k k' b h h' hb fv;obtain⟨x,hx⟩:=T!.1 h;obtain⟨y,hy⟩:=T!.1 h';obtain⟨h1,h2,h3⟩:=sG k x hx;obtain⟨g1,g2,g3⟩:=sG k' y hy;rw [BN k _ hx] at hb;rw [BN k' _ hy] at fv;have :=hp.apart _ _ b h3 g3 hb fv;omega
 . have vC:=wU (aS:=aS) base bs.length R9 res v hro hp.res;simp only [A2];cases hl:res.fN&&eh bs with
   |false=>exact vC
   |true=>
    simp only [B!] at hl;exact wU (aS:=aS) base bs.length R9 res v hro (JT res v hl.1 hp.res)
end
end Go.Vg

end
section
namespace Go.Vg
open Go
def im(P:Program)(f:FuncId):Prop :=∀(args:Array Value) (w:World),(callFunc f args).run P w= .ok (.enter f args) w
structure b5 (P:Program) (E:Env):Prop where
 gY:bD E.T P
 sig:∀f s,E.sig f=some s->Valid P E.lq f s/\im P f
 sv:∀f m s,E.sv f=some (m,s)->cg P E.lq f s/\im P f
structure hJ (P:Program) (C:Ctx) (E:Env):Prop where
 ok:b5 P E
 g:C.G=E.lq
theorem hJ.gY {P:Program} {C:Ctx} {E:Env}(h:hJ P C E):bD E.T P:=h.ok.gY
theorem hJ.sv {P:Program} {C:Ctx} {E:Env}(h:hJ P C E):∀f m s,E.sv f=some (m,s)->cg P E.lq f s/\im P f:=h.ok.sv
theorem hJ.sig {P:Program} {C:Ctx} {E:Env}(h:hJ P C E):∀f s,E.sig f=some s->Valid P E.lq f s/\im P f:=h.ok.sig
def j6(st:St)(o:Oper):Bool:=match o.dst with
 |some d=>Nat.blt d st.n
 |none=>true
section
variable {P:Program} {C:Ctx} {A A':Nat->Prop} {β aS:Nat->Value} {st:St} {a:Act} {w:World} {E:Env}
theorem qL(hB:aJ C A β st a w):∀(xs:List Operand),ak w A β (xs.map a.eval) (xs.map (ev st))
 | []=>by rfl
 |x::xs=>by
  exact⟨_,_,rfl,bk hB x,qL hB xs⟩
theorem c5 {dst:Option Tmp} {op:Op} {type:TypeId} {pos:String} {after:Array Edge} {guard:Option (Nat×Bool)} {s:Sem Value} {out:Out}
  (hs:∀w,(execOp a.eval ⟨dst,op,type,pos,after,guard⟩).run P w=(s.run P w).andThen fun v w'=> .ok (.value v) w') (h:∃v w',s.run P w= .ok v w'/\Rel C (st.put dst out) (a.put dst v) w')
  {K:Act->World->Prop} {Q:Exit->Act->World->Prop} (hK:∀a' w',Rel C (st.put dst out) a' w'->K a' w'):Oper.wp P ⟨dst,op,type,pos,after,guard⟩ a w K Q:=by
 obtain⟨v,w',h1,h2⟩:=h;refine dM (v:=v) (w':=w') ?_ (hK _ _ h2);simp_all
theorem JU(hB:aJ C A β st a w):∀(x:Option Operand),qs w A β (x.map (ev st)) (x.map a.eval)
 |none=>by simp [qs]
 |some x=>by grind[qs,bk]
theorem JV {d:Nat} {b:AB}(h:kT st.h [(d,b)]=true):st.h d=none/\rK d=false :=kG _ d b h (by simp [ay])
theorem F0 {h:bg} {k:Nat}(hf:fresh h k=true):h k=none/\rK k=false :=by
 grind[fresh]
theorem Sa(hE:hJ P C E)(hB:aJ C A β st a w) {o:Oper} {out:Out}(h:dR E st o=some out)(Sb:j6 st o=true)(hC:kT st.h out.new=true)(hc:∀p∈out.cond,p)
  {K:Act->World->Prop} {Q:Exit->Act->World->Prop} (hK:∀a' w',Rel C (st.put o.dst out) a' w'->K a' w'):o.wp P a w K Q:=by
 have hd:∀t,o.dst=some t->t<st.n:=by
  intro t ht;simp_all[j6,M!]
 obtain⟨dst,op,type,pos,after,guard⟩:=o;simp only at hd hK;cases op with
 |move x=>
  simp only [dR,A!] at h;subst h;exact dM (by rfl) (hK _ _ (Rel.ni (hB.quiet hd ⟨rfl,rfl,rfl⟩ (bk hB x))))
 |assign x=>
  simp only [dR,A!] at h;subst h;exact dM (by rfl) (hK _ _ (Rel.ni (hB.quiet hd ⟨rfl,rfl,rfl⟩ (bk hB x))))
 |pick c x y=>
  simp only [dR] at h;have PG:=bk hB c;have hx:=bk hB x;have hy:=bk hB y;split at h
  . rename_i PL;simp only [A!] at h;subst h;rw [PL] at PG;simp only [af] at PG;exact dM (v:=a.eval x) (by simp_all[execOp,asBool]) (hK _ _ (Rel.ni (hB.quiet hd ⟨rfl,rfl,rfl⟩ hx)))
  . rename_i PL;simp only [A!] at h;subst h;rw [PL] at PG;simp only [af] at PG;exact dM (v:=a.eval y) (by simp_all[execOp,asBool]) (hK _ _ (Rel.ni (hB.quiet hd ⟨rfl,rfl,rfl⟩ hy)))
  . rename_i p PL;simp only [Option.some.injEq] at h;subst h;rw [PL] at PG;simp only [af] at PG;refine dM (v:=if p then a.eval x else a.eval y) (by simp_all[execOp,asBool]) (hK _ _ (Rel.ni (hB.quiet hd ⟨rfl,rfl,rfl⟩ ?_)));grind[BF]
  grind
 |alloc t=>
  simp only [dR] at h;split at h
  . rename_i te d ht;cases h40:Nat.ble te.size 40 with
    |false=>grind
    |true=>
    rw [h40] at h;simp only [L!] at h;cases ma:(ofConst te.zero).cells.all AV.one with
    |false=>grind
    |true=>
     simp only [ma,L!,A!] at h;subst h;exact c5 (fun w=>by simp [execOp]) (PH hE.gY hB hd (JV hC) ht ma) hK
  grind
 |box t x=>
  simp only [dR] at h;split at h
  . rename_i d;cases ma:(ev st x).cells.all AV.one with
    |false=>grind
    |true=>
     simp only [ma,L!,A!] at h;subst h;exact c5 (fun w=>by rfl) (Vj (t:=t) hB hd (JV hC) (bk hB x) ma) hK
  grind
 |build t parts=>
  simp only [dR] at h;refine c5 (s:=Instr.build t (parts.map fun(i,x)=>(i,a.eval x))) (fun w=>by simp [execOp]) (Reads.sF hB hd (PI hE.gY ?_ ?_ h)) hK
  . simp_all
  . have :=qL hB (parts.toList.map (·.2));simp_all[Function.comp_def]
 |buildSlice t len parts=>
  simp only [dR] at h;split at h
  . rename_i d;cases hf:fresh st.h (st.kb+d) with
    |false=>grind
    |true=>
    simp only [hf,L!] at h;have hn:=F0 hf;refine c5 (s:=Instr.buildSlice t len (parts.map fun(i,x)=>(i,a.eval x))) (fun w=>by simp [execOp]) (DZ hE.gY hB hd hn ?_ ?_ h) hK
    . simp_all
    . have :=qL hB (parts.toList.map (·.2));simp_all[Function.comp_def]
  grind
 |load t x=>
  simp only [dR] at h;exact c5 (fun w=>by simp [execOp]) (Reads.sF hB hd (G9 hE.gY hB (bk hB x) h hc)) hK
 |store t x y=>
  simp only [dR] at h;have hx:=bk hB x;have hy:=bk hB y
  have key:∃w',(Instr.storeAt t (a.eval x) (a.eval y)).run P w= .ok () w'/\Rel C (st.put dst out) (a.put dst undef) w':=by
   cases F3:ev st x with
   |ref k off=>rw [F3] at h hx;exact FV hE.gY hB hd hx hy h
   |elem k sz i j=>rw [F3] at h hx;exact DW hE.gY hB hd hx hy h hc
   |_=>grind[ly]
  obtain⟨w',h1,h2⟩:=key;simp_all[vD,execOp]
 |nilCheck x=>
  simp only [dR] at h;have hx:=bk hB x
  have fin:∀r,ev st x=r->out= {cond:= [],res:=r}->(execOp a.eval {dst,op:= .nilCheck x,type,pos,after,guard}).run P w= .ok (.value (a.eval x)) w->Oper.wp P {dst,op:= .nilCheck x,type,pos,after,guard} a w K Q:=by
   intro r hr ho kF;subst ho;exact dM kF (hK _ _ (Rel.ni (hB.quiet hd ⟨rfl,rfl,rfl⟩ x!)))
  split at h
  . rename_i k off hv;simp only [A!] at h;refine fin _ hv h.symm ?_;rw [hv] at hx;simp only [af] at hx;obtain⟨b,_,hx⟩:=hx;simp [execOp,hx]
  . rename_i r y j hv;simp only [A!] at h;refine fin _ hv h.symm ?_;rw [hv] at hx;simp only [af] at hx;obtain⟨b,o,cs,hx,_⟩:=hx;simp [execOp,hx]
  . rename_i k sz i j hv;simp only [A!] at h;refine fin _ hv h.symm ?_;rw [hv] at hx;simp only [af] at hx;obtain⟨b,m,cap,_,hx⟩:=hx;simp [execOp,hx]
  . rename_i f first bH hv
    simp only [A!] at h;refine fin _ hv h.symm ?_;rw [hv] at hx;simp only [af] at hx;obtain⟨a1,a2,hx,_⟩:=hx;simp [execOp,hx]
  grind
 |binOp op t x y yt=>
  simp only [dR] at h
  exact c5 (s:=do eqGuard op t x y (a.eval x) (a.eval y);binOp op t (a.eval x) (a.eval y)) (fun w=>by
   simp only [execOp,Sem.run_bind];rfl) (Reads.sF hB hd (U6 hE.gY (bk hB x) (bk hB y) h hc)) hK
 |unOp op t x=>
  simp only [dR] at h;exact c5 (fun w=>by simp [execOp]) (Reads.sF hB hd (ad7 (bk hB x) h hc)) hK
 |convert s d x=>
  simp only [dR] at h;exact c5 (fun w=>by simp [execOp]) (JQ hE.gY hB hd (bk hB x) h hc) hK
 |makeFunc f first bH=>
  simp only [dR,A!] at h;subst h;refine dM (v:= .func f (first.map a.eval) (bH.map a.eval)) (by rfl) (hK _ _ (Rel.ni (hB.quiet hd ⟨rfl,rfl,rfl⟩ ?_)));simp only [af];exact⟨_,_,rfl,by simpa using qL hB first.toList,by simpa using qL hB bH.toList⟩
 |makeSlice t l c=>
  simp only [dR] at h;split at h
  . rename_i d;cases hf:fresh st.h (st.kb+d) with
    |false=>grind
    |true=>
    simp only [hf,L!] at h;exact c5 (fun w=>by simp [execOp]) (FX hE.gY hB hd (F0 hf) (bk hB l) (bk hB c) h hc) hK
  grind
 |slice t x l hi mx=>
  simp only [dR] at h;exact c5 (fun w=>by simp [execOp]) (Reads.sF hB hd (PB hE.gY hB (bk hB x) (JU hB l) (JU hB hi) (JU hB mx) h hc)) hK
 |fieldAddr s x f=>
  simp only [dR] at h;exact c5 (fun w=>by simp [execOp]) (Reads.sF hB hd (FL hE.gY (bk hB x) h)) hK
 |field s x f=>
  simp only [dR] at h;have hx:=bk hB x;split at h
  . rename_i ft off cs hf hv;split at h
    . rename_i te ht;split at h
      . rename_i r hp;simp only [A!] at h;subst h;rw [hv] at hx;simp only [af] at hx;obtain⟨arr,hx,hr⟩:=hx;obtain⟨fs,fd,hu,hfd,e1,e2⟩:=Ha hE.gY hf;obtain⟨v,g1,g2⟩:=vE hE.gY ht hr hp;refine dM (v:=v) (w':=w) ?_ (hK _ _ (Rel.ni (hB.quiet hd ⟨rfl,rfl,rfl⟩ g2)));simp_all[execOp,Instr.field,run_underlying,asAgg]
      grind
    grind
  grind
 |indexAddr t x i=>
  simp only [dR,tU] at h;exact c5 (fun w=>by simp [execOp]) (Reads.sF hB hd (FK hE.gY hB (bk hB x) (bk hB i) h hc)) hK
 |lookup t x i ok=>
  simp only [dR] at h;have hx:=bk hB x;have hi:=bk hB i;split at h
  . rename_i ks cs n F3 hiv;rw [F3] at hx;rw [hiv] at hi;simp only [af] at hi;refine c5 (s:=Instr.lookup t (a.eval x) (a.eval i) ok) (fun w=>by simp [execOp]) (Reads.sF hB hd ?_) hK;rw [hi.1];exact Nd hE.gY hx h hc
  grind
 |extract x i=>
  simp only [dR] at h;have hx:=bk hB x;split at h
  . rename_i vs hv;split at h
    . rename_i r hr;simp only [Option.some.injEq] at h;subst h;rw [hv] at hx;simp only [af] at hx;obtain⟨arr,hx,hrel⟩:=hx;obtain⟨v,g1,g2⟩:=tT vs _ i r hrel hr;have g1':arr[i]? =some v:=by grind
      exact dM (v:=v) (w':=w) (by simp_all[execOp,Instr.extract]) (hK _ _ (Rel.ni (hB.quiet hd ⟨rfl,rfl,rfl⟩ g2)))
    grind
  grind
 |index t x i=>
  simp only [dR] at h;have hx:=bk hB x;have hi:=bk hB i;split at h
  . rename_i s k n F3 hiv;cases DN:eH E.T t rJ with
    |false=>grind
    |true=>
    simp only [DN,cond_true,Option.some.injEq] at h;subst h;obtain⟨h0,h1⟩:=fu hc;obtain⟨dd,hu,aL3⟩:=sy hE.gY DN;have hu:P.underlying t=some .string:=by grind[rJ]
    rw [F3] at hx;rw [hiv] at hi;simp only [af] at hx hi;have kU:n.toNat<s.length:=by omega
    refine dM (v:= .int .u8 ((s.getD n.toNat 0).toNat:Int)) (w':=w) ?_ (hK _ _ (Rel.ni (hB.quiet hd ⟨rfl,rfl,rfl⟩ ?_)))
    . have hg:(⟨s.toArray⟩:ByteArray)[n.toNat]? =some (s.getD n.toNat 0):=by
       rw [getElem?_pos _ _ (by grind[yo])];simp [List.getD,List.getElem?_eq_getElem kU];rfl
      simp [execOp,Instr.index,hx.1,hi.1,asIntOf,run_underlying hu,h0,hg]
    . simp only [af,true_and];have :=(s.getD n.toNat 0).toNat_lt;grind[lo,Vg.hi]
  . rename_i cs k n F3 hiv;rw [F3] at hx;rw [hiv] at hi;simp only [af] at hx hi;obtain⟨arr,hxe,F4⟩:=hx;exact c5 (s:=Instr.index t (.agg arr) (a.eval i)) (fun w=>by simp [execOp,hxe]) (Reads.sF hB hd (Iu hE.gY F4 hi.1 h hc)) hK
  grind
 |call c=>
  obtain⟨callee,args,argTypes⟩:=c;simp only [dR] at h;split at h
  . rename_i b;split at h
    . rename_i x t cw Nj;have hx:=bk hB x;split at h
      . rename_i n hn;cases hq:(bif wH (ev st x) then eH E.T t jk else eH E.T t rJ) with
        |false=>grind
        |true=>
         simp only [hq,cond_true,Option.some.injEq] at h;subst h;have ea:args= #[x]:=by grind
         have et:argTypes= #[t]:=by grind
         subst ea;subst et;rcases U3 hB hx hn with⟨ad,l,c,hv,hl,hm⟩|⟨s,hs,hl⟩
         . have hns:wH (ev st x)=true :=by
            cases F3:ev st x<;>first|rfl|skip
            grind[af]
           rw [hns] at hq;simp only [L!] at hq;obtain⟨d,hu,DN⟩:=sy hE.gY hq;obtain⟨e,rfl⟩:∃e,d= .slice e:=by cases d<;>simp_all [jk]
           refine dM (v:= .int .i64 (l:Int)) (w':=w) ?_ (hK _ _ (Rel.ni (hB.quiet hd ⟨rfl,rfl,rfl⟩ (by grind[yD]))));simp_all[execOp,resolve,invoke,builtin,Builtin.len_,run_underlying,goInt]
         . rw [hs] at hx hq;simp only [wH,cond_false] at hq;obtain⟨d,hu,DN⟩:=sy hE.gY hq;have hu:P.underlying t=some .string:=by grind[rJ]
           simp only [af] at hx;refine dM (v:= .int .i64 (s.length:Int)) (w':=w) ?_ (hK _ _ (Rel.ni (hB.quiet hd ⟨rfl,rfl,rfl⟩ (by grind[yD]))));simp [execOp,resolve,invoke,builtin,hx.1,Builtin.len_,run_underlying hu,goInt,yo]
      grind
    . rename_i x y t t' cw Nj;split at h
      . rename_i d;cases hf:fresh st.h (st.kb+d) with
        |false=>grind
        |true=>
         simp only [hf,cond_true] at h;have ea:args= #[x,y]:=by grind
         have et:argTypes= #[t,t']:=by grind
         subst ea;subst et;exact c5 (s:=Builtin.append_ #[t,t'] type #[a.eval x,a.eval y]) (fun w=>by simp [execOp,resolve,invoke,builtin]) (Ng hE.gY hB hd (F0 hf) (bk hB x) (bk hB y) h hc) hK
      grind
    . rename_i x y t t' cw Nj;have ea:args= #[x,y]:=by grind
      have et:argTypes= #[t,t']:=by grind
      subst ea;subst et;exact c5 (s:=Builtin.copy_ #[t,t'] type #[a.eval x,a.eval y]) (fun w=>by simp [execOp,resolve,invoke,builtin]) (R4 hE.gY hB hd (bk hB x) (bk hB y) h hc) hK
    . rename_i x t cw Nj;have ea:args= #[x]:=by grind
      have et:argTypes= #[t]:=by grind
      subst ea;subst et;exact c5 (s:=Builtin.clear_ #[t] type #[a.eval x]) (fun w=>by simp [execOp,resolve,invoke,builtin]) (PJ hE.gY hB hd (bk hB x) h hc) hK
    . rename_i x y cw;have ea:args= #[x,y]:=by grind
      subst ea;have hx:=bk hB x;have hy:=bk hB y;split at h
      . rename_i k n k' m F3 hyv;split at h
        . rename_i hk;subst hk;simp only [A!] at h;subst h;rw [F3] at hx;rw [hyv] at hy;simp only [af] at hx hy;refine dM (v:= .int k (min n m)) (w':=w) ?_ (hK _ _ (Rel.ni (hB.quiet hd ⟨rfl,rfl,rfl⟩ (by simp only [af,true_and];omega))));have e:(if m<n then m else n)=min n m:=by omega
          simp_all[execOp,resolve,invoke,builtin,run_min_int2]
        grind
      grind
    . rename_i x y cw;have ea:args= #[x,y]:=by grind
      subst ea;have hx:=bk hB x;have hy:=bk hB y;split at h
      . rename_i k n k' m F3 hyv;split at h
        . rename_i hk;subst hk;simp only [A!] at h;subst h;rw [F3] at hx;rw [hyv] at hy;simp only [af] at hx hy;refine dM (v:= .int k (max n m)) (w':=w) ?_ (hK _ _ (Rel.ni (hB.quiet hd ⟨rfl,rfl,rfl⟩ (by simp only [af,true_and];omega))));have e:(if m>n then m else n)=max n m:=by omega
          simp_all[execOp,resolve,invoke,builtin,run_max_int2]
        grind
      grind
    grind
  . rename_i f;have hf:=bk hB f
    have key:∀(pS:FuncId) (first bH:List AV) (base:Nat),ev st f= .fn (.func pS) first bH->oR E st.h base pS (first++(args.toList.map (ev st))++bH)=some out->
      Oper.wp P {dst,op:= .call {callee:= .value f,args,argTypes},type,pos,after,guard} a w K Q:=by
     intro pS first bH base D3 ny
     rw [D3] at hf;simp only [af] at hf;obtain⟨a1,a2,RZ,r1,r2⟩:=hf;unfold oR at ny;split at ny
     . rename_i s hs;split at ny
       . rename_i pre res bs hsv;cases hq:(Nat.ble bs.length 100&&kO bs.length res&&j3 bs) with
         |false=>grind
         |true=>
          simp only [hq,L!,A!] at ny;subst ny;simp only [B!] at hq;obtain⟨hv,CB⟩:=hE.sig pS s hs;have cw:=fk _ _ _ _ (fk _ _ _ _ r1 (qL hB args.toList)) r2;obtain⟨p1,p2⟩:=FW (A':=cv A β (lY st.h (first++(args.toList.map (ev st))++bH)).2) hB (fun b h=> .inl h) _ _ cw (fun k hk b hb=> .inr ⟨k,hk,hb⟩)
          have hbd:∀b,cv A β (lY st.h (first++(args.toList.map (ev st))++bH)).2 b->b<w.heap.size:=by
           intro b h;rcases h with h|⟨j,hj,hb⟩
           . exact hB.bound b h
           . obtain⟨e',r',l',f',hr⟩:=p2 j hj;exact nv hB x! hb
          have yI:=hv w _ β _ _ pre res bs hbd (fun i d hi=>(hB.laid i d (by rw [hE.g];omega)).mono (fun b h=>⟨.inl h,rfl⟩)) p1 hsv (fu hc)
          have kF:(execOp a.eval {dst,op:= .call {callee:= .value f,args,argTypes},type,pos,after,guard}).run P w= .ok (.enter pS (a1.toList++args.toList.map a.eval++a2.toList).toArray) w:=by
           have e:(a1++args.map a.eval)++a2=(a1.toList++args.toList.map a.eval++a2.toList).toArray:=by
            grind
           have :=CB (a1++args.map a.eval++a2) w;grind[execOp,resolve,Deferred.ofValue,Sem.run_bind,Sem.run_pure,Result.andThen_ok,invoke]
          unfold Oper.wp;rw [kF];simp only [Oper.upon_enter];refine yI.mono fun e w' ⟨v,he,A1,oL,sH⟩=> ?_;subst he;exact hK _ _ (hB.call hd p2 hC hq.1.2 hq.2 sH)
       grind
     grind
    grind
  grind
 |_=>grind[dR]
end
end Go.Vg

end
section
namespace Go.Vg
open Go
def iO(base:Nat):AB->AB
 | .views e (some j) n m sz=> .views e (some (base+j)) n m sz
 |b=>b
def iq(k:Nat):List AB->Bool
 | []=>true
 | .row _ _ _ false ::r=>iq k r
 | .views _ (some j) _ _ _::r=>Nat.blt j k&&iq k r
 |_=>false
def mI(E:Env)(h:bg)(d f:Nat)(args:List AV):Option Out:=match E.sig f with
 |some s=>match s (lY h args).1 with
  |some (pre,res,bs)=>bif Nat.ble bs.length 100&&kO bs.length res&&iq bs.length bs then
   some {cond:= [pre],res:=ep (ow d) res,jq:=cU h (lY h args).2,new:=gv (ow d) (bs.map (iO (ow d)))} else none
  |none=>none
 |none=>none
def BO(E:Env)(st:St)(o:Oper):Option Out:=
 let T:=E.T
 let h:=st.h
 let ρ:=ev st
 match o.op with
 | .load t p=>match ρ p,T.find t with
   | .elem k sz i j,some te=>match h k with
     |some (.views _ (some k2) _ m s2)=>bif Nat.beq sz 1&&Nat.beq j 0&&jk te.desc then some {cond:= [i<m],res:= .view k2 1 (i*s2) s2} else none
     |_=>none
   |_,_=>none
 | .store t p v=>match ρ p,ρ v with
   | .elem k sz i j, .view k3 s3 off len=>match h k with
     |some (.views e (some k2) n m s2)=>bif Nat.beq sz 1&&Nat.beq j 0&&(Nat.beq k3 k2&&Nat.beq s3 1)&&mC T t 1 then
       some {cond:= [i=m/\m<n/\off=m*s2/\len=s2],res:= .undef,jq:= [(k, .views e (some k2) n (m+1) s2)]} else none
     |_=>none
   |_,_=>none
 | .slice t x (some lo) (some hi) (some mx)=>match ρ x,ρ lo,ρ hi,ρ mx with
   | .own k, .int _ a, .int _ b, .int _ c=>match h k with
     |some (.row _ row l _)=>bif bC T t row.length then some {cond:= [0<=a/\a<=b/\b<=c/\c<=(l.length:Int)],res:= .view k row.length a.toNat (b.toNat-a.toNat)} else none
     |_=>none
   |_,_,_,_=>none
 | .indexAddr t x i=>match ρ x,ρ i with
   | .own k, .int _ i=>match h k with
     |some (.views _ _ n _ _)=>bif bC T t 1 then some {cond:= [0<=i/\i<(n:Int)],res:= .elem k 1 i.toNat 0} else none
     |_=>none
   |_,_=>none
 | .call c=>match c.callee with
   | .builtin b=>match b,c.args.toList,c.argTypes.toList with
     | .len,[x],[t]=>match ρ x with
       | .own k=>match h k with
         |some (.views _ _ n _ _)=>bif eH T t jk then some {cond:= [],res:= .int .i64 (n:Int)} else none
         |_=>none
       |_=>none
     |_,_,_=>none
   | .value f=>match ρ f,o.dst with
     | .fn (.func f) first bH,some d=>mI E h (st.kb+d) f (first++(c.args.toList.map ρ)++bH)
     | .fn (.func f) first bH,none=>mI E h st.kb f (first++(c.args.toList.map ρ)++bH)
     |_,_=>none
   |_=>none
 |_=>none
def ZS(E:Env)(st:St)(o:Oper):Option Out:=match dR E st o with
 |some out=>some out
 |none=>BO E st o
section
variable {P:Program} {C:Ctx} {A A':Nat->Prop} {β aS:Nat->Value} {st:St} {a:Act} {w:World} {E:Env} {T:cJ}
theorem pT(hB:aJ C A β st a w) {k e:Nat} {j:Option Nat} {n m sz:Nat}(h:st.h k=some (.views e j n m sz)):
  (β k= .slice none 0 0/\n=0)\/∃b cap cur,β k= .slice (some ⟨b,0,none⟩) n cap/\w.heap[b]? =some (.cells cur e (0,0))/\n<=cap/\cap<=maxLen/\cur.size=cap/\¬A b/\
    ∀j',j=some j'->∀i,i<m->∃v,(cur.toList.take n)[i]? =some v/\af w A β v (.view j' 1 (i*sz) sz):=by
 obtain⟨xs,h1,h2,h3⟩:=hB.blocks k _ h;rcases h1.2 with⟨hv,hn⟩|⟨g,cap,cur,hv,_,hg,h4,h5,h6,h7⟩
 . grind
 . refine .inr ⟨g,cap,cur,hv,hg,h4,h5,w!,h2 g (by rw [hv];rfl),fun j' hj i hi=> ?_⟩;grind
theorem PM(hB:aJ C A β st a w) {k e:Nat} {j:Option Nat} {n m sz:Nat}(h:st.h k=some (.views e j n m sz)):n<=maxLen:=by
 grind[pT]
theorem PN(hT:bD T P)(hB:aJ C A β st a w) {t:TypeId} {te:TE} {k i e n m s2 k2:Nat} {vp:Value}(hp:af w A β vp (.elem k 1 i 0))(ht:T.find t=some te)(hs:jk te.desc=true)
  (hk:st.h k=some (.views e (some k2) n m s2)) (hi:i<m):∃v,(Instr.loadAt t vp).run P w= .ok v w/\af w A β v (.view k2 1 (i*s2) s2):=by
 obtain⟨b,m',cap,cY,rfl⟩:=hp;rcases pT hB hk with⟨hv,_⟩|⟨b',l4,cur,hv,hg,_,_,_,_,hx⟩
 . grind
 . obtain⟨v,e1,e2⟩:=hx k2 rfl i hi;rw [m?] at e1;split at e1
   . have hr:w.rangeAt b i [v]:=by
      intro j u hj;grind[List.getElem?_cons_zero,Option.some.injEq,World.cell?]
     have hpk:pick te [.view k2 1 (i*s2) s2] 0=some (.view k2 1 (i*s2) s2):=by
      unfold pick;have :te.desc.mB=false :=by cases hd:te.desc<;>rw [hd] at hs<;>first|rfl|cases hs
      grind
     obtain⟨v',g1,g2⟩:=nY (β:=β) (A:=A) hT ht (cs:= [v]) (by grind[ak]) hpk hr;grind
   grind
theorem Nk(hT:bD T P)(hB:aJ C A β st a w) {dst:Option Nat}(hd:∀t,dst=some t->t<st.n) {t:TypeId} {k i e n m s2 k2 off len:Nat} {vp vx:Value}(hp:af w A β vp (.elem k 1 i 0))(hx:af w A β vx (.view k2 1 off len))
  (hk:st.h k=some (.views e (some k2) n m s2)) (fj:mC T t 1=true) {cond:List Prop} (hi:i=m) (hm:m<n) (ho:off=m*s2) (hl:len=s2):
  ∃w',(Instr.storeAt t vp vx).run P w= .ok () w'/\Rel C (st.put dst {cond:=cond,res:= .undef,jq:= [(k, .views e (some k2) n (m+1) s2)]}) (a.put dst undef) w':=by
 subst hi;subst ho;subst hl;obtain⟨ii,mF,BI⟩:=sC hT fj;simp only [af] at hp;obtain⟨b,m',cap,cY,rfl⟩:=hp;rcases pT hB hk with⟨hv,_⟩|⟨b',l4,cur,hv,hg,hle,Bl,fx,l9,tW⟩
 . rw [cY] at hv;cases hv
 . rw [cY] at hv;simp only [Value.slice.injEq,A!,Addr.mk.injEq,and_true] at hv;obtain⟨rfl,rfl,rfl⟩:=hv
   have ma:vx.oneCell'=true :=by
    simp only [af] at hx;rcases hx with⟨_,a',c',h,_⟩|⟨_,_,_,_,_,h,_⟩<;>rw [h]<;>rfl
   have PL:vx.cells= #[vx]:=cells_one ma;have hb:aB (β k)=some b:=by rw [cY];rfl
   have sx:=oW (P:=P) (w:=w) (t:=t) (v:=vx) mF (by rw [PL,BI];rfl) (by rw [PL];intro v hv;simp at hv;subst hv;exact ma) hg (off:=i) (by rw [PL];simp;omega);obtain⟨new,hC⟩:∃new:Array Value,new=(cur.toList.take i++ [vx]++cur.toList.drop (i+1)).toArray:=⟨_,rfl⟩
   have aL4:(Instr.storeAt t (.pointer (some ⟨b,i,none⟩)) vx).run P w= .ok () (w.setRow b new):=by
    grind
   have hlen:new.size=cur.size:=by grind
   refine⟨w.setRow b new,x!,?_⟩;refine hB.write hd (k:=k) (fz:= []) (ab:= .views e (some k2) m' (i+1) len) x! hb l9 hg ⟨rfl,rfl,rfl⟩ (fun q hq=>by grind) ?_ (by rfl);intro A2 h1 h2 _;refine⟨new.toList.take m',⟨?_, .inr ⟨b,cap,new,cY,Nat.zero_le _,setRow_heap w b cur _ e _ hg,hle,Bl,?_,x!⟩⟩,fun b' fv hA2=> ?_,fun j' hj i' jO=> ?_⟩
   . grind
   . omega
   . grind
   . simp only [A!] at hj;subst hj;by_cases aHG:i'=i
     . subst aHG;refine⟨vx,?_,yi rfl hx⟩;grind
     . obtain⟨v,e1,e2⟩:=tW k2 rfl i' w!;refine⟨v,?_,yi rfl e2⟩;grind
theorem Nl(hT:bD T P)(hB:aJ C A β st a w) {t:TypeId} {k e:Nat} {row:List Ty} {l:List (Row row)} {fr:Bool} {x y m:Int} {kx ky km:IntKind} {vx:Value}(hx:af w A β vx (.own k))(hk:st.h k=some (.row e row l fr))
  (hs:bC T t row.length=true) (h0:0<=x) (h1:x<=y) (h2:y<=m) (h3:m<=(l.length:Int)):
  ∃v,(Instr.sliceAt t vx (some (.int kx x)) (some (.int ky y)) (some (.int km m))).run P w= .ok v w/\af w A β v (.view k row.length x.toNat (y.toNat-x.toNat)):=by
 obtain⟨e',ii,hu,mF,fj,mZ⟩:=fP hT hs;obtain⟨rfl,_⟩:=hx
 have hb:∀len cap:Nat,len<=cap->m<=(len:Int)->(Instr.sliceBounds true len cap (some (.int kx x)) (some (.int ky y)) (some (.int km m))).run P w= .ok (x.toNat,y.toNat,m.toNat) w:=by
  intro len cap hlc PC
  simp [Instr.sliceBounds,run_sliceBound (P:=P) (w:=w) (k:=km) (n:=m) (y:=cap) w! w!,run_sliceBound (P:=P) (w:=w) (k:=ky) (n:=y) (y:=m.toNat) w! w!,
   run_sliceBound (P:=P) (w:=w) (k:=kx) (n:=x) (y:=y.toNat) w! w!]
 have kF:∀(ad:Option Addr) (len cap:Nat),len<=cap->m<=(len:Int)->(Instr.sliceAt t (.slice ad len cap) (some (.int kx x)) (some (.int ky y)) (some (.int km m))).run P w=
   .ok (.slice (if m.toNat=x.toNat then ad else ad.map (·.add (x.toNat*ii.size))) (y.toNat-x.toNat) (m.toNat-x.toNat)) w:=by
  simp_all[Instr.sliceAt,Instr.slice,run_underlying,sizeOf,typeInfo]
 rcases ib hB hk with⟨g1,g2⟩|⟨b,cap,cur,g1,_,g3,g4,_⟩
 . grind[af,maxLen]
 . refine⟨_,by rw [g1];exact kF _ l.length cap g3 h3,?_⟩;simp only [af];by_cases hz:m.toNat=x.toNat
   . refine .inl ⟨w!,_,_,by rw [show y.toNat-x.toNat=0 by omega],w!⟩
   . grind[Addr.add_mid]
theorem rP {k:Nat}:∀(bs:List AB) (i:Nat) (ab:AB),iq k bs=true->bs[i]? =some ab->(∃e row l,ab= .row e row l false)\/∃e j n m sz,ab= .views e (some j) n m sz/\j<k
 | .row e row l false ::bs,0,ab,_,h=>by grind
 | .views e (some j) n m sz::bs,0,ab,ho,h=>by
   simp only [iq,B!] at ho;simp at h;exact .inr ⟨e,j,n,m,sz,h.symm,M! ho.1⟩
 | .row e row l false ::bs,i+1,ab,ho,h=>rP bs i ab (by grind[iq]) x!
 | .views e (some j) n m sz::bs,i+1,ab,ho,h=>rP bs i ab (by simp_all[iq,Bool.and_eq_true]) x!
 | .row e row l true ::bs,_,_,h,_=>by grind[iq]
 | .views e none n m sz::bs,_,_,h,_=>by grind[iq]
 | .cells _::bs,_,_,h,_=>by grind[iq]
 | .arr _ _::bs,_,_,h,_=>by grind[iq]
 | .jc _ _ _ _ _::bs,_,_,h,_=>by grind[iq]
 | [],_,_,_,h=>by grind
theorem aJ.aA2(hB:aJ C A β st a w) {dst:Option Nat}(hd:∀t,dst=some t->t<st.n) {base:Nat} {res:AV} {bs:List AB} {fz:List Nat} {cond:List Prop} {v:Value} {w':World} {A1:Nat->Prop} {oL:Nat->Value}
  (DT:∀j∈fz,∃e row l fr,st.h j=some (.row e row l fr)) (hC:kT st.h (gv base (bs.map (iO base)))=true) (hro:kO bs.length res=true) (hor:iq bs.length bs=true)
  (hp:lA w (cv A β fz) w' v res bs A1 oL):
  Rel C (st.put dst {cond:=cond,res:=ep base res,jq:=cU st.h fz,new:=gv base (bs.map (iO base))}) (a.put dst v) w':=by
 let aS:Nat->Value:=fun k=>if base<=k/\k<base+bs.length then oL (k-base) else β k
 have R9:∀i,i<bs.length->aS (base+i)=oL i:=by
  grind
 have IW:∀k,ay (gv base (bs.map (iO base))) k=(if base<=k then(bs[k-base]?).map (iO base) else none):=fun k=>by
  have :=tX base (bs.map (iO base)) 0 k;grind
 have cY:∀k,ay (gv base (bs.map (iO base))) k=none->aS k=β k:=by
  grind
 have sG:∀k ab,ay (gv base (bs.map (iO base))) k=some ab->base<=k/\(∃PO,bs[k-base]? =some PO/\ab=iO base PO)/\k-base<bs.length:=by
  grind
 have BN:∀k ab,ay (gv base (bs.map (iO base))) k=some ab->aS k=oL (k-base):=by
  grind
 have hK:dC w w' A A1:=fun b hb=>⟨hp.mono b (.inl hb),hp.same b (hB.bound b hb)⟩;refine⟨A1,aS,?_⟩;refine hB.step (out:= {cond:=cond,res:=ep base res,jq:=cU st.h fz,new:=gv base (bs.map (iO base))}) hd (fun k b h=>kG _ k b hC h) ?_ cY hK hp.os hp.tape hp.output hp.size (fun b hb _=>hp.same b hb) hp.bound ?_ ?_ ?_ ?_ ?_ ?_
 . intro k b h;obtain⟨_,e,row,l,fr,h,_⟩:=jG fz k b h;grind
 . intro b hb;rcases Nat.lt_or_ge b w.heap.size with kU|Nf
   . rcases hp.nh b kU hb with h|⟨j,hj,Vi⟩
     . grind
     . have hr:=DT j hj;exact .inr (.inr ⟨j,⟨x!, .inl (qu fz j hj hr)⟩,Vi⟩)
   omega
 . intro k ab h _;obtain⟨hk,e,row,l,fr,hr,rfl⟩:=jG fz k ab h;rw [mD]
   have hkn:ay (gv base (bs.map (iO base))) k=none:=by
    cases hh:ay (gv base (bs.map (iO base))) k with
    |none=>rfl
    |some y=>have :=(kG _ k y hC hh).1;rw [hr] at this;cases this
   obtain⟨xs,h1,h2,h3⟩:=hB.blocks k _ hr;simp only [BR,cY k hkn];refine⟨xs,iH h1 (fun b hb=>hp.same b (nv hB (by simp [hr]) hb)),bZ (fun c x hx=>b4 hK row c x hx) l xs h2,fun b hb=> ?_⟩;simp only [K?];exact hp.mono b (.inr ⟨k,hk,hb⟩)
 . intro k ab h;obtain⟨h1,⟨PO,h2,rfl⟩,h3⟩:=sG k ab h;have iu:=(hp.rows _ _ h2).1;rcases rP bs _ PO hor h2 with⟨e,row,l,rfl⟩|⟨e,j,n,m,sz,rfl,hj⟩
   . obtain⟨xs,g1,g2,g3⟩:=iu;simp only [iO,BR,BN k _ h];exact⟨xs,g1,g2,g3⟩
   . obtain⟨xs,g1,g2,g3⟩:=iu;simp only [iO,BR,BN k _ h];refine⟨xs,g1,g2,fun j' lU i hi=> ?_⟩;simp only [A!] at lU;subst lU;obtain⟨u,e1,e2⟩:=g3 j rfl i hi;refine⟨u,e1,?_⟩;simp only [af] at e2 |-;rw [R9 j hj];exact e2
 . intro k b ab h hb;obtain⟨h1,⟨PO,h2,rfl⟩,h3⟩:=sG k ab h;rw [BN k _ h] at hb;exact .inl ((hp.rows _ _ h2).2 b hb)
 . intro k k' b h h' hb fv;obtain⟨x,hx⟩:=T!.1 h;obtain⟨y,hy⟩:=T!.1 h';obtain⟨h1,h2,h3⟩:=sG k x hx;obtain⟨g1,g2,g3⟩:=sG k' y hy;rw [BN k _ hx] at hb;rw [BN k' _ hy] at fv;have :=hp.apart _ _ b h3 g3 hb fv;omega
 . exact wU (aS:=aS) base bs.length R9 res v hro hp.res
theorem Sc(hE:hJ P C E)(hB:aJ C A β st a w) {o:Oper} {out:Out}(h:ZS E st o=some out)(Sb:j6 st o=true)(hC:kT st.h out.new=true)(hc:∀p∈out.cond,p)
  {K:Act->World->Prop} {Q:Exit->Act->World->Prop} (hK:∀a' w',Rel C (st.put o.dst out) a' w'->K a' w'):o.wp P a w K Q:=by
 unfold ZS at h;split at h
 . grind[Option.some.injEq,Sa]
 rename_i pU;clear pU
 have hd:∀t,o.dst=some t->t<st.n:=by
  intro t ht;simp_all[j6,M!]
 obtain⟨dst,op,type,pos,after,guard⟩:=o;simp only at hd hK;unfold BO at h;simp only at h;split at h
 . rename_i t p;split at h
   . rename_i k sz i j te hp ht;split at h
     . rename_i e k2 n m s2 hk;cases hq:(Nat.beq sz 1&&Nat.beq j 0&&jk te.desc) with
       |false=>grind
       |true=>
        rw [hq] at h;simp at h;subst h;simp only [B!] at hq;obtain⟨⟨q1,q2⟩,q3⟩:=hq;have q1:=D! q1;have q2:=D! q2;subst q1;subst q2;have F5:=bk hB p;rw [hp] at F5;obtain⟨v,g1,g2⟩:=PN hE.gY hB F5 ht q3 hk (fu hc);exact dM (v:=v) (by simp [execOp,g1]) (hK _ _ (Rel.ni (hB.quiet hd ⟨rfl,rfl,rfl⟩ g2)))
     grind
   grind
 . rename_i t p v;split at h
   . rename_i k sz i j k3 s3 off len hp hv;split at h
     . rename_i e k2 n m s2 hk;cases hq:(Nat.beq sz 1&&Nat.beq j 0&&(Nat.beq k3 k2&&Nat.beq s3 1)&&mC E.T t 1) with
       |false=>grind
       |true=>
        rw [hq] at h;simp at h;subst h;simp only [B!] at hq;obtain⟨⟨⟨q1,q2⟩,q3,q4⟩,q5⟩:=hq;have q1:=D! q1;have q2:=D! q2;have q3:=D! q3;have q4:=D! q4;subst q1;subst q2;subst q3;subst q4;have F5:=bk hB p;rw [hp] at F5;have hvr:=bk hB v;rw [hv] at hvr;obtain⟨c1,c2,c3,c4⟩:=fu hc;obtain⟨w',g1,g2⟩:=Nk hE.gY hB hd F5 hvr hk q5 c1 c2 c3 c4;exact vD (w':=w') (by simp [execOp,g1]) (hK _ _ g2)
     grind
   grind
 . rename_i t x l hi mx;split at h
   . rename_i k kx x0 ky y0 km m0 hx hl hh hm;split at h
     . rename_i e row ll fr hk;cases hs:bC E.T t row.length with
       |false=>rw [hs] at h;cases h
       |true=>
        rw [hs] at h;simp at h;subst h;obtain⟨c1,c2,c3,c4⟩:=fu hc;have F4:=bk hB x;rw [hx] at F4;have hlr:=bk hB l;rw [hl] at hlr;have hhr:=bk hB hi;rw [hh] at hhr;have hmr:=bk hB mx;rw [hm] at hmr;obtain⟨v,g1,g2⟩:=Nl (kx:=kx) (ky:=ky) (km:=km) hE.gY hB F4 hk hs c1 c2 c3 c4;exact dM (v:=v) (by simp [execOp,hlr.1,hhr.1,hmr.1,g1]) (hK _ _ (Rel.ni (hB.quiet hd ⟨rfl,rfl,rfl⟩ g2)))
     . cases h
   . cases h
 . rename_i t x i;split at h
   . rename_i k ki i0 hx hi;split at h
     . rename_i e j n m sz hk;cases hs:bC E.T t 1 with
       |false=>rw [hs] at h;cases h
       |true=>
        rw [hs] at h;simp at h;subst h;obtain⟨c1,c2⟩:=fu hc;obtain⟨e',ii,hu,mF,fj,mZ⟩:=fP hE.gY hs;have F4:=bk hB x;rw [hx] at F4;have hir:=bk hB i;rw [hi] at hir;rcases pT hB hk with⟨_,hn⟩|⟨b,cap,cur,hv,_⟩
        . omega
        . refine dM (v:= .pointer (some ⟨b,0+i0.toNat*1,none⟩)) (w':=w) ?_ (hK _ _ (Rel.ni (hB.quiet hd ⟨rfl,rfl,rfl⟩ ?_)))
          . have :=kW (P:=P) (w:=w) hu mF b 0 n cap ki i0 c1 c2;simp only [execOp,F4.1,hv,hir.1,Sem.run_bind,this,fj,Result.andThen_ok,Sem.run_pure]
          . simp only [af];exact⟨b,_,cap,hv,z!⟩
     . cases h
   . cases h
 . rename_i c;obtain⟨callee,args,argTypes⟩:=c;simp only at h;split at h
   . rename_i b;split at h
     . rename_i x t cw Nj;split at h
       . rename_i k hx;split at h
         . rename_i e j n m sz hk;cases hq:eH E.T t jk with
           |false=>rw [hq] at h;cases h
           |true=>
            rw [hq] at h;simp at h;subst h;have ea:args= #[x]:=by apply Array.ext';simpa using cw
            have et:argTypes= #[t]:=by apply Array.ext';simpa using Nj
            subst ea;subst et;obtain⟨dd,hu,DN⟩:=sy hE.gY hq;obtain⟨e',rfl⟩:∃e',dd= .slice e':=by cases dd<;>simp_all [jk]
            have F4:=bk hB x;rw [hx] at F4
            have sI:∃ad cap,a.eval x= .slice ad n cap:=by
             rcases pT hB hk with⟨h1,h2⟩|⟨b,cap,cur,hv,_⟩
             . exact⟨none,0,by rw [F4.1,h1,h2]⟩
             . exact⟨_,cap,by rw [F4.1,hv]⟩
            obtain⟨ad,cap,sI⟩:=sI;refine dM (v:= .int .i64 (n:Int)) (w':=w) ?_ (hK _ _ (Rel.ni (hB.quiet hd ⟨rfl,rfl,rfl⟩ (yD n (PM hB hk)))));simp [execOp,resolve,invoke,builtin,sI,Builtin.len_,run_underlying hu,goInt]
         . cases h
       . cases h
     . cases h
   . rename_i f;have hf:=bk hB f
     have key:∀(pS:FuncId) (first bH:List AV) (base:Nat),ev st f= .fn (.func pS) first bH->mI E st.h base pS (first++(args.toList.map (ev st))++bH)=some out->
       Oper.wp P {dst,op:= .call {callee:= .value f,args,argTypes},type,pos,after,guard} a w K Q:=by
      intro pS first bH base D3 ny
      rw [D3] at hf;simp only [af] at hf;obtain⟨a1,a2,RZ,r1,r2⟩:=hf;unfold mI at ny;split at ny
      . rename_i s hs;split at ny
        . rename_i pre res bs hsv;cases hq:(Nat.ble bs.length 100&&kO bs.length res&&iq bs.length bs) with
          |false=>simp [hq] at ny
          |true=>
           simp only [hq,L!,A!] at ny;subst ny;simp only [B!] at hq;obtain⟨hv,CB⟩:=hE.sig pS s hs;have cw:=fk _ _ _ _ (fk _ _ _ _ r1 (qL hB args.toList)) r2;obtain⟨p1,p2⟩:=FW (A':=cv A β (lY st.h (first++(args.toList.map (ev st))++bH)).2) hB (fun b h=> .inl h) _ _ cw (fun k hk b hb=> .inr ⟨k,hk,hb⟩)
           have hbd:∀b,cv A β (lY st.h (first++(args.toList.map (ev st))++bH)).2 b->b<w.heap.size:=by
            intro b h;rcases h with h|⟨j,hj,hb⟩
            . exact hB.bound b h
            . obtain⟨e',r',l',f',hr⟩:=p2 j hj;exact nv hB (by simp [hr]) hb
           have yI:=hv w _ β _ _ pre res bs hbd (fun i d hi=>(hB.laid i d (by rw [hE.g];exact hi)).mono (fun b h=>⟨.inl h,rfl⟩)) p1 hsv (fu hc)
           have kF:(execOp a.eval {dst,op:= .call {callee:= .value f,args,argTypes},type,pos,after,guard}).run P w= .ok (.enter pS (a1.toList++args.toList.map a.eval++a2.toList).toArray) w:=by
            have e:(a1++args.map a.eval)++a2=(a1.toList++args.toList.map a.eval++a2.toList).toArray:=by
             apply Array.ext';simp
            have :=CB (a1++args.map a.eval++a2) w;rw [e] at this;simp only [execOp,resolve,RZ,Deferred.ofValue,Sem.run_bind,Sem.run_pure,Result.andThen_ok,invoke,e,this]
           unfold Oper.wp;rw [kF];refine yI.mono fun e w' ⟨v,he,A1,oL,sH⟩=> ?_;subst he;exact hK _ _ (hB.aA2 hd p2 hC hq.1.2 hq.2 sH)
        . cases ny
      . cases ny
     split at h
     . rename_i pS first bH d D3
       exact key pS first bH _ D3 h
     . rename_i pS first bH D3
       exact key pS first bH _ D3 h
     . cases h
   . cases h
 grind
end
end Go.Vg

end
section
namespace Go.Vg
open Go
def JW(E:Env)(st:St)(o:Oper):Option Out:=
 let T:=E.T
 let h:=st.h
 let ρ:=ev st
 match o.op with
 | .alloc t=>match T.find t,o.dst with
   |some te,some d=>match te.desc with
    | .array n e=>match rowOf T tQ e with
      |some [u]=>match wF [u] n (ofConst te.zero).cells with
       |some l=>some {cond:= [],res:= .ref (st.kb+d) 0,new:= [(st.kb+d, .arr [u] l)]}
       |none=>none
      |_=>none
    |_=>none
   |_,_=>none
 | .load t p=>match ρ p,T.find t with
   | .ref k off,some te=>match h k with
     |some (.arr [u] l)=>match pick te [Dw u (Row.hd (l.getD off (Row.zero [u])))] 0 with
      |some a=>some {cond:= [off<l.length],res:=a}
      |none=>none
     |_=>none
   |_,_=>none
 | .store t p v=>match ρ p with
   | .ref k off=>match h k with
     |some (.arr [u] l)=>match RM u (ρ v) with
      |some x=>bif mC T t 1 then some {cond:= [off<l.length],res:= .undef,jq:= [(k, .arr [u] (l.set off (Row.mk x ())))]} else none
      |none=>none
     |_=>none
   |_=>none
 |_=>none
def ZT(E:Env)(st:St)(o:Oper):Option Out:=match ZS E st o with
 |some out=>some out
 |none=>JW E st o
section
variable {P:Program} {C:Ctx} {A A':Nat->Prop} {β aS:Nat->Value} {st:St} {a:Act} {w:World} {E:Env} {T:cJ}
theorem aJ.apS(hB:aJ C A β st a w) {dst:Option Nat}(hd:∀t,dst=some t->t<st.n) {d e:Nat} {row:List Ty} {l:List (Row row)} {arr:Array Value} {cond:List Prop}
  (kY:st.h d=none/\rK d=false) (hrel:eu (bT w A row) arr.toList l):
  aJ C A (cd β d (.pointer (some ⟨w.heap.size,0,none⟩))) (st.put dst {cond:=cond,res:= .ref d 0,new:= [(d, .arr row l)]}) (a.put dst (.pointer (some ⟨w.heap.size,0,none⟩))) (w.alloc (.cells arr e)):=by
 have hK:dC w (w.alloc (.cells arr e)) A A:=fun b hb=>⟨hb,pR _ b (hB.bound b hb)⟩
 have cY:∀k,ay [(d,AB.arr row l)] k=none->cd β d (.pointer (some ⟨w.heap.size,0,none⟩)) k=β k:=by
  intro k h;have :k≠d:=by rintro rfl;simp [ay] at h
  grind[cd]
 refine hB.step (out:= {cond:=cond,res:= .ref d 0,new:= [(d, .arr row l)]}) hd ?_ (by simp [ay]) cY hK rfl rfl rfl z! (fun b hb _=>pR _ b hb) (fun b hb=>by have :=hB.bound b hb;simp;omega) (fun b hb=> .inl hb) (by simp [ay]) ?_ ?_ ?_ ?_
 . grind[fQ]
 . intro k ab h;obtain⟨rfl,rfl⟩:=fQ h;exact⟨w.heap.size,arr,e,by simp [cd],heap_alloc_new w _,fun h=>absurd (hB.bound _ h) w!,bZ (fun c x hx=>b4 hK row c x hx) l _ hrel⟩
 . intro k b ab h hb;obtain⟨rfl,_⟩:=fQ h;simp_all[cd,K?,aB,A!]
 . grind[Option.isSome_iff_exists,fQ]
 . exact⟨w.heap.size,by simp [cd],rfl⟩
theorem N0 {u:Ty} {l:List (Row [u])} {cs:List Value} {off:Nat}(N1:off<l.length)(h:eu (bT w A [u]) cs l):
  ∃v,cs[off]? =some v/\Rd w A u v (Row.hd (l.getD off (Row.zero [u])))/\∀v' x,Rd w A u v' x->eu (bT w A [u]) (cs.take off++ [v']++cs.drop (off+1)) (l.set off (Row.mk x ())):=by
 obtain⟨c1,c,c2,e1,e2,e3,e4,e5⟩:=sw l cs off N1 h;obtain⟨v,vs,rfl,g1,rfl⟩:=e3;have hl:c1.length=off:=by simpa using e2
 subst e1;refine⟨v,?_,x!,fun v' x hx=> ?_⟩
 . rw [List.getElem?_append_right w!,hl,Nat.sub_self];rfl
 . have t1:(c1++([v]++c2)).take off=c1:=by rw [<-hl,List.take_left]
   have t2:(c1++([v]++c2)).drop (off+1)=c2:=by
    rw [<-hl,List.drop_length_add_append];rfl
   rw [t1,t2,t?,R! N1,U!];refine jr _ _ _ _ e4 ⟨[v'],c2,rfl,?_,e5⟩;exact⟨v',[],rfl,by exact hx,rfl⟩
theorem Sd(hE:hJ P C E)(hB:aJ C A β st a w) {o:Oper} {out:Out}(h:ZT E st o=some out)(Sb:j6 st o=true)(hC:kT st.h out.new=true)(hc:∀p∈out.cond,p)
  {K:Act->World->Prop} {Q:Exit->Act->World->Prop} (hK:∀a' w',Rel C (st.put o.dst out) a' w'->K a' w'):o.wp P a w K Q:=by
 unfold ZT at h;split at h
 . grind[Option.some.injEq,Sc]
 rename_i pU;clear pU
 have hd:∀t,o.dst=some t->t<st.n:=by
  intro t ht;simp_all[j6,M!]
 obtain⟨dst,op,type,pos,after,guard⟩:=o;simp only at hd hK;unfold JW at h;simp only at h;split at h
 . rename_i t;split at h
   . rename_i te d ht;split at h
     . rename_i n e FP;split at h
       . rename_i u lK;split at h
         . rename_i l hl;simp only [A!] at h;subst h;obtain⟨hu,i,hi,hs,hb,hz⟩:=hE.gY.ok t te ht;obtain⟨g1,g2⟩:=yB [u] n _ _ l (mH (w:=w) (A:=A) (β:=β) te.zero) hl;refine dM (v:= .pointer (some ⟨w.heap.size,0,none⟩)) (w':=w.alloc (.cells te.zero.cells t)) ?_ (hK _ _ (Rel.ni (hB.apS hd (JV hC) g1)));simp_all[execOp,Instr.alloc,zeroValue,typeInfo,hi,newVar,newRow]
         grind
       grind
     grind
   grind
 . rename_i t p;split at h
   . rename_i k off te hp ht;split at h
     . rename_i u l hk;split at h
       . rename_i r hpk;simp only [A!] at h;subst h;have N1:off<l.length:=fu hc;have F5:=bk hB p;rw [hp] at F5;simp only [af] at F5;obtain⟨b,cY,hpe⟩:=F5;obtain⟨b',arr,e,h1,h2,h3,h4⟩:=hB.blocks k _ hk;rw [cY] at h1;simp only [Value.pointer.injEq,A!,Addr.mk.injEq,and_true] at h1;subst h1;obtain⟨v,c1,c2,_⟩:=N0 N1 h4
         have hr:w.rangeAt b off [v]:=by
          intro j u' hj;grind[List.getElem?_cons_zero,Option.some.injEq,World.cell?]
         have PQ:ak w A β [v] [Dw u (Row.hd (l.getD off (Row.zero [u])))]:=by
          grind[ak,RP]
         obtain⟨v',k1,k2⟩:=nY (β:=β) hE.gY ht PQ hpk hr;refine dM (v:=v') (w':=w) ?_ (hK _ _ (Rel.ni (hB.quiet hd ⟨rfl,rfl,rfl⟩ k2)));simp_all[Nat.add_zero,execOp]
       grind
     grind
   grind
 . rename_i t p x;split at h
   . rename_i k off hp;split at h
     . rename_i u l hk;split at h
       . rename_i d hdx;cases hs1:mC E.T t 1 with
         |false=>grind
         |true=>
         rw [hs1] at h;simp only [L!,A!] at h;subst h;have N1:off<l.length:=fu hc;obtain⟨ii,mF,BI⟩:=sC hE.gY hs1;have F5:=bk hB p;rw [hp] at F5;simp only [af] at F5;obtain⟨b,cY,hpe⟩:=F5;have F4:=JL u _ _ d (bk hB x) hdx;obtain⟨b',arr,e,h1,h2,h3,h4⟩:=hB.blocks k _ hk;rw [cY] at h1;simp only [Value.pointer.injEq,A!,Addr.mk.injEq,and_true] at h1;subst h1;have hb:aB (β k)=some b:=by rw [cY];rfl
         have ma:(a.eval x).oneCell'=true :=yr [u] [a.eval x] (Row.mk d ()) (by simp only [bT];exact⟨_,[],rfl,by rw [uU];exact F4,rfl⟩) _ z!;have hcx:=cells_one ma;have hlen:=gi l _ h4;have fj:arr.size=l.length:=by grind
         have kF:=oW (w:=w) (P:=P) mF (v:=a.eval x) x! x! h2 (off:=off) x!;rw [hcx] at kF;obtain⟨v,c1,c2,c3⟩:=N0 N1 h4;refine vD (w':=w.setRow b (arr.toList.take off++ [a.eval x]++arr.toList.drop (off+1)).toArray) ?_ (hK _ _ ?_)
         . grind[Instr.storeAt,execOp,Sem.run_bind,Result.andThen_ok,Sem.run_pure]
         . refine hB.write hd (k:=k) (fz:= []) (ab:= .arr [u] (l.set off (Row.mk d ()))) x! hb h3 h2 ⟨rfl,rfl,rfl⟩ z! ?_ (by rfl);intro A' hA1 hA2 hA3;have hKp:dC w (w.setRow b (arr.toList.take off++ [a.eval x]++arr.toList.drop (off+1)).toArray) A A':=fun b' h=>⟨hA1 b' h,setRow_other w b b' _ (fun h'=>h3 (h'▸h))⟩;refine⟨b,_,e,cY,setRow_heap w b arr _ e _ h2,fun h=> ?_,?_⟩
           . grind
           grind[bZ,b4]
       grind
     grind
   grind
 grind
end
end Go.Vg

end
section
namespace Go.Vg
open Go
mutual
def aE:AV->List Nat
 | .own k| .pre k _| .view k _ _ _| .ref k _| .elem k _ _ _=> [k]
 | .agg cs=>aW cs
 | .bA vs=>aW vs
 | .fn _ first bH=>aW first++aW bH
 | .je _ cs=>aW cs
 |_=> []
def aW:List AV->List Nat
 | []=> []
 |a::aK=>aE a++aW aK
end
def jU:AB->List Nat
 | .cells cs=>aW cs
 | .views _ (some j) _ _ _=> [j]
 | .jc _ (some j) _ _ _=> [j]
 |_=> []
def yJ:List (Nat×AB)->List Nat
 | []=> []
 |(_,b)::r=>jU b++yJ r
mutual
def fR(f:Nat->Nat):AV->AV
 | .own k=> .own (f k)
 | .pre k n=> .pre (f k) n
 | .view k sz off n=> .view (f k) sz off n
 | .ref k off=> .ref (f k) off
 | .elem k sz i j=> .elem (f k) sz i j
 | .agg cs=> .agg (nQ f cs)
 | .bA vs=> .bA (nQ f vs)
 | .fn g first bH=> .fn g (nQ f first) (nQ f bH)
 | .je ks cs=> .je ks (nQ f cs)
 |a=>a
def nQ(f:Nat->Nat):List AV->List AV
 | []=> []
 |a::aK=>fR f a::nQ f aK
end
def lF(f:Nat->Nat):AB->AB
 | .cells cs=> .cells (nQ f cs)
 | .views e (some j) n m sz=> .views e (some (f j)) n m sz
 | .jc e (some j) row l i=> .jc e (some (f j)) row l i
 |b=>b
section
variable {P:Program} {C:Ctx} {A A':Nat->Prop} {β aS:Nat->Value} {st:St} {a:Act} {w:World} {E:Env} {T:cJ}
mutual
theorem CC(f:Nat->Nat):∀(x:AV) (v:Value),(∀k∈aE x,aS (f k)=β k)->af w A β v x->af w A aS v (fR f x)
 | .own k,v,hk,h=>by
   simp only [fR,af] at h |-;rw [hk k (by simp [aE])];exact h
 | .pre k n,v,hk,h=>by
   simp only [fR,af] at h |-;rw [hk k (by simp [aE])];exact h
 | .view k _ _ _,v,hk,h=>by
   simp only [fR,af] at h |-;rw [hk k (by simp [aE])];exact h
 | .ref k _,v,hk,h=>by
   simp only [fR,af] at h |-;rw [hk k (by simp [aE])];exact h
 | .elem k _ _ _,v,hk,h=>by
   simp only [fR,af] at h |-;rw [hk k (by simp [aE])];exact h
 | .agg cs,v,hk,h=>by
   simp only [fR,af] at h |-;obtain⟨arr,h1,h2⟩:=h;exact⟨arr,h1,kI f cs _ (fun k gg=>hk k (by simpa [aE] using gg)) h2⟩
 | .bA cs,v,hk,h=>by
   simp only [fR,af] at h |-;obtain⟨arr,h1,h2⟩:=h;exact⟨arr,h1,kI f cs _ (fun k gg=>hk k (by simpa [aE] using gg)) h2⟩
 | .fn g first bH,v,hk,h=>by
   simp only [fR,af] at h |-;obtain⟨a1,a2,h1,h2,h3⟩:=h;exact⟨a1,a2,h1,kI f first _ (fun k gg=>hk k (by simp [aE,gg])) h2,kI f bH _ (fun k gg=>hk k (by simp [aE,gg])) h3⟩
 | .je ks cs,v,hk,h=>by
   simp only [fR,af] at h |-;obtain⟨b,es,ck,h1,h2,h3,h4,h5⟩:=h;exact⟨b,es,ck,h1,h2,h3,h4,kI f cs _ (fun k gg=>hk k (by simpa [aE] using gg)) h5⟩
 | .dU,v,_,h=>by simp [fR,af]
 | .undef,v,_,h=>by simpa only [fR,af] using h
 | .int _ _,v,_,h=>by simpa only [fR,af] using h
 | .bool _,v,_,h=>by simpa only [fR,af] using h
 | .tt,v,_,h=>by simpa only [fR,af] using h
 | .ff,v,_,h=>by simpa only [fR,af] using h
 | .str _,v,_,h=>by simpa only [fR,af] using h
 | .nil,v,_,h=>by simpa only [fR,af] using h
 | .lp,v,_,h=>by simpa only [fR,af] using h
 | .rD _ _,v,_,h=>by simpa only [fR,af] using h
 | .lW,v,_,h=>by simpa only [fR,af] using h
 | .sl _ _,v,_,h=>by simpa only [fR,af] using h
 | .full _ _,v,_,h=>by simpa only [fR,af] using h
 | .iM _ _ _,v,_,h=>by simpa only [fR,af] using h
 | .sq _ _,v,_,h=>by simpa only [fR,af] using h
theorem kI(f:Nat->Nat):∀(xs:List AV) (vs:List Value),(∀k∈aW xs,aS (f k)=β k)->ak w A β vs xs->ak w A aS vs (nQ f xs)
 | [],vs,_,h=>by simpa only [nQ,ak] using h
 |x::xs,vs,hk,h=>by
  simp only [nQ,ak] at h |-;obtain⟨v,cK,rfl,h1,h2⟩:=h;exact⟨v,cK,rfl,CC f x v (fun k gg=>hk k (by simp [aW,gg])) h1,kI f xs cK (fun k gg=>hk k (by simp [aW,gg])) h2⟩
end
theorem PR(f:Nat->Nat) {k k':Nat} {b:AB}(hk:aS k'=β k)(hj:∀j∈jU b,aS (f j)=β j)(h:BR w A β k b):BR w A aS k' (lF f b):=by
 cases b with
 |cells cs=>
  obtain⟨b,arr,e,h1,h2,h3,h4,h5⟩:=h;exact⟨b,arr,e,hk.trans h1,h2,h3,kI f cs _ (fun j lU=>hj j (by grind[jU])) h4,h5⟩
 |row e row l fr=>
  grind[lF,BR]
 |arr row l=>
  obtain⟨b,arr,e,h1,h2,h3,h4⟩:=h;exact⟨b,arr,e,hk.trans h1,h2,h3,h4⟩
 |jc e j row l i=>
  cases j with
  |none=>
   grind[lF,BR]
  |some j0=>
   grind[lF,BR,Option.some.injEq,jU]
 |views e j n m sz=>
  obtain⟨xs,h1,h2,h3⟩:=h;cases j with
  |none=>
   grind[lF,BR]
  |some j0=>
   simp only [lF,BR,hk];refine⟨xs,h1,h2,fun j' lU i hi=> ?_⟩;simp at lU;subst lU;obtain⟨v,e1,e2⟩:=h3 j0 rfl i hi
   exact⟨v,e1,CC f (.view j0 1 (i*sz) sz) v (fun k gg=>by
    grind[aE,List.mem_singleton,jU]) e2⟩
end
def jV:List Nat->Bool
 | []=>true
 |k::r=> !(aM r k)&&jV r
def dedup(acc:List Nat):List Nat->List Nat
 | []=>acc.reverse
 |k::r=>bif aM acc k then dedup acc r else dedup (k::acc) r
def behind(h:bg):List Nat->List Nat
 | []=> []
 |k::r=>(match h k with
  |some b=>jU b
  |none=> [])++behind h r
def JX:List Nat->Nat->Nat
 | [],_=>0
 |j::r,k=>bif Nat.beq k j then 0 else JX r k+1
def Vo(K:List Nat)(k:Nat):Nat:=50000+JX K k
def iv(K:List Nat)(base k:Nat):Nat:=bif Nat.blt k 60000 then K.getD (k-50000) 0 else base+(k-60000)
def dN(h:bg):List Bool->List AV->List AV×List Nat
 |_,[]=>([],[])
 |m,a::aK=>bif m.headD false then(a::(dN h m.tail aK).1,(dN h m.tail aK).2) else((pv h a).1::(dN h m.tail aK).1,(pv h a).2++(dN h m.tail aK).2)
def contents(h:bg):List Nat->Option (List AB)
 | []=>some []
 |k::r=>match h k,contents h r with
  |some b,some l=>some (b::l)
  |_,_=>none
def kOk(r:bP)(k:Nat):Bool:=(Nat.ble 50000 k&&Nat.blt k 60000&&(match r.heap[k-50000]? with
 |some (some _)=>true
 |_=>false)) || (Nat.ble 60000 k&&Nat.blt k (60000+r.new.length))
def oX(g:Nat->Nat):List Nat->List (Option AB)->List (Nat×AB)
 |k::ks,some b::bs=>(k,lF g b)::oX g ks bs
 |_::ks,none::bs=>oX g ks bs
 |_,_=> []
def uW:List Nat->List (Option AB)->List Nat
 |_::ks,some _::bs=>uW ks bs
 |k::ks,none::bs=>k::uW ks bs
 |_,_=> []
def yK:List (Option AB)->List Nat
 | []=> []
 |some b::r=>jU b++yK r
 |none::r=>yK r
def wV:List AB->List Nat
 | []=> []
 |b::r=>jU b++wV r
def ay4(a K:List Nat):Bool:=a.all fun k=>aM K k
def PT(s:jZ)(h:bg)(base:Nat)(K:List Nat)(ps:List AV)(fz:List Nat):Option Out:=match contents h K with
 |some hs=>bif jV K&&(ay4 (aW ps++wV hs) K&&(fz.all (fun k=> !aM K k)&&Nat.ble hs.length 100)) then
  match s (nQ (Vo K) ps) (hs.map (lF (Vo K))) with
  |some r=>bif Nat.beq r.heap.length hs.length&&(Nat.ble r.new.length 100&&((aE r.res++(yK r.heap++wV r.new)).all (kOk r))) then
    some {cond:= [r.pre]
          res:=fR (iv K base) r.res
          jq:=oX (iv K base) K r.heap++cU h fz
          del:=uW K r.heap
          new:=gv base (r.new.map (lF (iv K base)))
          raw:=K}
   else none
  |none=>none
  else none
 |none=>none
def mJ(E:Env)(h:bg)(d f:Nat)(args:List AV):Option Out:=match E.sv f with
 |some (m,s)=>PT s h (ow d) (dedup [] (aW (dN h m args).1++behind h (aW (dN h m args).1))) (dN h m args).1 (dN h m args).2
 |none=>none
section
variable {P:Program} {C:Ctx} {A A':Nat->Prop} {β aS:Nat->Value} {st:St} {a:Act} {w:World} {E:Env} {T:cJ}
theorem mK:∀ {l:List Nat} {k:Nat},aM l k=true↔k∈l
 | [],k=>by simp [aM]
 |j::l,k=>by
  simp_all[aM,X?,P!,mK,D!,ek]
theorem Hg:∀ {K:List Nat} {k:Nat},k∈K->JX K k<K.length/\K.getD (JX K k) 0=k
 |j::K,k,h=>by
  simp [JX];by_cases hk:k=j
  . simp_all
  . simp [bh hk,Q!];have :=Hg (K:=K) ((P!.1 h).resolve_left hk);simpa using this
theorem yL {h:bg}:∀ {K:List Nat} {hs:List AB},contents h K=some hs->hs.length=K.length/\∀(i:Nat) (ab:AB),hs[i]? =some ab->∃k:Nat,K[i]? =some k/\h k=some ab
 | [],hs,hh=>by
   grind[contents,Option.some.injEq]
 |k::K,hs,hh=>by
  simp [contents] at hh;split at hh
  . rename_i b l h1 h2;simp at hh;subst hh;obtain⟨g1,g2⟩:=yL h2;refine⟨by simp [g1],fun i ab hi=> ?_⟩;cases i with
    |zero=>simp at hi;subst hi;exact⟨k,rfl,h1⟩
    |succ i=>simpa using g2 i ab (by simpa using hi)
  . cases hh
theorem Hh:∀ {K:List Nat},jV K=true->∀ {i j k:Nat},K[i]? =some k->K[j]? =some k->i=j
 | [],_,i,j,k,h,_=>by grind
 |x::K,hn,i,j,k,h1,h2=>by
  simp [jV,B!,I?] at hn
  have hx:∀m:Nat,K[m]? =some x->False:=fun m hm=>by
   have :=mK.2 (y? hm);rw [this] at hn;exact absurd hn.1 z!
  cases i with
  |zero=>
   cases j with
   |zero=>rfl
   |succ j=>
    simp at h1;subst h1;exact(hx j (by simpa using h2)).elim
  |succ i=>
   cases j with
   |zero=>
    simp at h2;subst h2;exact(hx i (by simpa using h1)).elim
   |succ j=>rw [Hh hn.2 (i:=i) (j:=j) (by simpa using h1) (by simpa using h2)]
theorem tY {g:Nat->Nat}:∀ {K:List Nat} {bs:List (Option AB)} {k:Nat} {ab:AB},ay (oX g K bs) k=some ab->∃(i:Nat) (b:AB),K[i]? =some k/\bs[i]? =some (some b)/\ab=lF g b
 | [],bs,k,ab,h=>by grind[oX,ay]
 |x::K,[],k,ab,h=>by grind[oX,ay]
 |x::K,some b::bs,k,ab,h=>by
  simp [oX,ay] at h;by_cases hk:k=x
  . subst hk;simp at h;exact⟨0,b,rfl,rfl,h.symm⟩
  . simp [bh hk,cond_false] at h;obtain⟨i,b',h1,h2,h3⟩:=tY h;exact⟨i+1,b',x!,x!,h3⟩
 |x::K,none::bs,k,ab,h=>by
  simp [oX] at h;obtain⟨i,b',h1,h2,h3⟩:=tY h;exact⟨i+1,b',by simpa using h1,by simpa using h2,h3⟩
theorem yM {g:Nat->Nat}:∀ {K:List Nat} {bs:List (Option AB)} {i k:Nat} {b:AB},K[i]? =some k->bs[i]? =some (some b)->(ay (oX g K bs) k).isSome
 | [],bs,i,k,b,h,_=>by grind
 |x::K,[],i,k,b,_,h=>by grind
 |x::K,some c::bs,i,k,b,h1,h2=>by
  simp [oX,ay];by_cases hk:k=x
  . simp_all
  . simp [bh hk,Q!];cases i with
    |zero=>simp at h1;exact absurd h1.symm hk
    |succ i=>exact yM (by simpa using h1) (by simpa using h2)
 |x::K,none::bs,i,k,b,h1,h2=>by
  simp [oX];cases i with
  |zero=>simp at h2
  |succ i=>exact yM (by simpa using h1) (by simpa using h2)
theorem wW:∀ {K:List Nat} {bs:List (Option AB)} {k:Nat},k∈uW K bs↔∃i:Nat,K[i]? =some k/\bs[i]? =some none
 | [],bs,k=>by grind[uW]
 |x::K,[],k=>by simp [uW]
 |x::K,some b::bs,k=>by
  simp [uW,wW (K:=K)];constructor
  . rintro⟨i,h1,h2⟩;exact⟨i+1,by simpa using h1,by simpa using h2⟩
  . rintro⟨i,h1,h2⟩;cases i with
    |zero=>simp at h2
    |succ i=>exact⟨i,by simpa using h1,by simpa using h2⟩
 |x::K,none::bs,k=>by
  simp [uW,P!,wW (K:=K)];constructor
  . rintro(rfl|⟨i,h1,h2⟩)
    . exact⟨0,rfl,rfl⟩
    . exact⟨i+1,by simpa using h1,by simpa using h2⟩
  . rintro⟨i,h1,h2⟩;cases i with
    |zero=>simp at h1;exact .inl h1.symm
    |succ i=>exact .inr ⟨i,by simpa using h1,by simpa using h2⟩
theorem CD:∀ {bs:List (Option AB)} {i:Nat} {b:AB},bs[i]? =some (some b)->∀j∈jU b,j∈yK bs
 | [],i,b,h,_,_=>by grind
 |some c::bs,0,b,h,j,hj=>by
  grind[List.getElem?_cons_zero,Option.some.injEq,yK]
 |some c::bs,i+1,b,h,j,hj=>by
  simp [yK,F!];exact .inr (CD (by simpa using h) j hj)
 |none::bs,0,b,h,j,hj=>by grind
 |none::bs,i+1,b,h,j,hj=>by
  simp [yK];exact CD (i:=i) (by simpa using h) j hj
theorem CE:∀ {bs:List AB} {i:Nat} {b:AB},bs[i]? =some b->∀j∈jU b,j∈wV bs
 | [],i,b,h,_,_=>by grind
 |c::bs,0,b,h,j,hj=>by
  grind[List.getElem?_cons_zero,Option.some.injEq,wV]
 |c::bs,i+1,b,h,j,hj=>by
  simp [wV,F!];exact .inr (CE (by simpa using h) j hj)
theorem nz:∀(a b:List (Nat×AB)) (k:Nat),ay (a++b) k=match ay a k with
  |some x=>some x
  |none=>ay b k
 | [],b,k=>rfl
 |(j,x)::a,b,k=>by
  simp [g?,ay];cases Nat.beq k j with
  |true=>rfl
  |false=>exact nz a b k
theorem PU {G:Nat->Option GD} {f:FuncId} {s:jZ}(hv:cg P G f s)(hB:aJ C A β st a w)(hG:C.G=G) {dst:Option Nat}(hd:∀t,dst=some t->t<st.n)
  {args:List Value} {ps:List AV} {fz K:List Nat} {base:Nat} {out:Out} (hps:ak w (cv A β fz) β args ps) (DT:∀j∈fz,∃e row l fr,st.h j=some (.row e row l fr))
  (h:PT s st.h base K ps fz=some out) (hC:kT st.h out.new=true) (hc:∀p∈out.cond,p):
  Calls P f args.toArray w fun e w'=>∃v,e= .returned v/\Rel C (st.put dst out) (a.put dst v) w':=by
 unfold PT at h;split at h;case h_2=>cases h
 rename_i hs ZU;cases hq:(jV K&&(ay4 (aW ps++wV hs) K&&(fz.all (fun k=> !aM K k)&&Nat.ble hs.length 100))) with
 |false=>grind
 |true=>
 rw [hq] at h;simp only [L!] at h;split at h;case h_2=>cases h
 rename_i r hr;cases hq2:(Nat.beq r.heap.length hs.length&&(Nat.ble r.new.length 100&&((aE r.res++(yK r.heap++wV r.new)).all (kOk r)))) with
 |false=>grind
 |true=>
 rw [hq2] at h;simp only [L!,A!] at h;subst h;simp only [B!,W!] at hq hq2;obtain⟨q1,q2,q3,q4⟩:=hq;obtain⟨r1,r2,r3⟩:=hq2;have q4:=M! q4;have r1:=D! r1;have r2:=M! r2;obtain⟨hl,ZU⟩:=yL ZU;have N2:∀k∈aW ps++wV hs,k∈K:=fun k hk=>mK.1 (W!.1 q2 k hk)
 have ay5:∀k∈fz,k∉K:=fun k hk hK=>by
  have :=q3 k hk;rw [mK.2 hK] at this;cases this
 let βc:Nat->Value:=fun k=>if 50000<=k/\k<50000+K.length then β (K.getD (k-50000) 0) else .slice none 0 0
 have Hi:∀(i k:Nat),K[i]? =some k->βc (50000+i)=β k:=by
  intro i k hi;have kU:=(T?.1 hi).1;simp only [βc];rw [R! ⟨w!,w!⟩,o?,List.getD,hi];rfl
 have hto:∀k∈K,βc (Vo K k)=β k:=by
  intro k hk;obtain⟨h1,h2⟩:=Hg hk;refine Hi _ _ ?_;rw [E! h1];rw [List.getD,E! h1] at h2;simpa using h2
 have gJ:∀(i k:Nat),K[i]? =some k->∃ab,hs[i]? =some ab/\st.h k=some ab:=by
  intro i k hi;have kU:=(T?.1 hi).1;obtain⟨k',h1,h2⟩:=ZU i _ (E! w!);rw [hi] at h1;simp only [A!] at h1;subst h1;exact⟨_,E! w!,h2⟩
 have aHM:∀b,cv A β fz b->b<w.heap.size:=by
  intro b hb;rcases hb with hb|⟨j,hj,yx⟩
  . exact hB.bound b hb
  . obtain⟨e,row,l,fr,hr⟩:=DT j hj;exact nv hB (by simp [hr]) yx
 have Vh:dC w w A (cv A β fz):=fun b hb=>⟨.inl hb,rfl⟩
 have yI:=hv w (cv A β fz) βc args (nQ (Vo K) ps) (hs.map (lF (Vo K))) r aHM
  (fun i d hi=>(hB.laid i d (by rw [hG];exact hi)).mono Vh)
  (kI (Vo K) ps args (fun k hk=>hto k (N2 k (Z! _ hk))) hps)
  (fun i ab hi=>by
    rw [P?,Option.map_eq_some_iff] at hi;obtain⟨PO,hi,rfl⟩:=hi;obtain⟨k,hk,sx⟩:=ZU i PO hi
    have iu:BR w (cv A β fz) β k PO:=by
     have :=yj (w':=w) (A':=cv A β fz) (aS:=β) (new:= []) (fun _ _=>rfl) rfl (fun b hb=>⟨rfl,fun hA=> ?_⟩) Vh (hB.blocks k PO sx)
     . exact this
     . rcases hA with hA|⟨j,hj,yx⟩
       . exact hA
       . exfalso;obtain⟨e,row,l,fr,hr⟩:=DT j hj;have :=hB.apart j k b (by simp [hr]) (by simp [sx]) yx hb;subst this;exact ay5 j hj (y? hk)
    exact PR (Vo K) (Hi i k hk) (fun j hj=>hto j (N2 j (Y! _ (CE hi j hj)))) iu)
  (fun i j b hi hj h1 h2=>by
    rw [List.length_map] at hi hj;have e1:K[i]? =some K[i]:=E! w!;have e2:K[j]? =some K[j]:=E! w!;rw [Hi i _ e1] at h1;rw [Hi j _ e2] at h2;obtain⟨_,_,l1⟩:=gJ i _ e1;obtain⟨_,_,l2⟩:=gJ j _ e2;have :=hB.apart _ _ b (by simp [l1]) (by simp [l2]) h1 h2;exact Hh q1 e1 (by rw [this];exact e2))
  hr (hc _ z!) (by rw [List.length_map];exact r1) (by rw [List.length_map];exact q4)
 rw [List.length_map] at yI;refine yI.mono ?_;rintro e w' ⟨v,rfl,A2,jf,hp⟩;refine⟨v,rfl,?_⟩;let n:=K.length
 have ahK:r.new.length<=100:=r2;let ups:=gv base (r.new.map (lF (iv K base)))
 have IW:∀k,ay ups k=(if base<=k then(r.new.map (lF (iv K base)))[k-base]? else none):=fun k=>by simpa using tX base (r.new.map (lF (iv K base))) 0 k
 let Vp:Nat->Value:=fun k=>if base<=k/\k<base+r.new.length then jf (60000+(k-base)) else β k
 have JY:∀j,j<r.new.length->Vp (base+j)=jf (60000+j):=by
  intro j hj;simp only [Vp];rw [R! ⟨w!,w!⟩,o?]
 have pU:∀k,ay ups k=none->Vp k=β k:=by
  intro k h;rw [IW k] at h;simp only [Vp];rw [N!];rintro⟨h1,h2⟩;rw [R! h1,List.getElem?_eq_none_iff,List.length_map] at h;omega
 have sG:∀k ab,ay ups k=some ab->∃j b,k=base+j/\r.new[j]? =some b/\ab=lF (iv K base) b/\j<r.new.length:=by
  intro k ab h;rw [IW k] at h;split at h
  . rename_i hb;rw [P?,Option.map_eq_some_iff] at h;obtain⟨b,h1,h2⟩:=h;exact⟨k-base,b,w!,h1,h2.symm,(T?.1 h1).1⟩
  . cases h
 have Nn:∀k,(st.h k).isSome->ay ups k=none:=by
  intro k hk;cases hh:ay ups k with
  |none=>rfl
  |some y=>have :=(kG _ k y hC hh).1;rw [this] at hk;cases hk
 have IX:∀(i k:Nat),K[i]? =some k->(st.h k).isSome:=fun i k hi=>by obtain⟨_,_,h⟩:=gJ i k hi;simp [h]
 have ahL:∀(i k:Nat),K[i]? =some k->Vp k=β k:=fun i k hi=>pU k (Nn k (IX i k hi))
 have hg:∀j,kOk r j=true->Vp (iv K base j)=jf j:=by
  intro j hj;simp only [kOk,X?,B!] at hj;rcases hj with⟨⟨h1,h2⟩,h3⟩|⟨h1,h2⟩
  . have h1:=M! h1;obtain⟨i,rfl⟩:∃i,j=50000+i:=⟨j-50000,w!⟩;rw [o?] at h3;split at h3
    . rename_i ab mE;have kU:=(T?.1 mE).1;obtain⟨k,hKi⟩:∃k,K[i]? =some k:=⟨_,E! w!⟩;obtain⟨_,g2⟩:=hp.kept _ _ mE
      have e:iv K base (50000+i)=k:=by
       unfold iv;rw [h2,cond_true,Nat.add_sub_cancel_left,List.getD,hKi];rfl
      rw [e,ahL _ _ hKi,g2,Hi _ _ hKi]
    . cases h3
  . have h1:=M! h1;have h2':j<60000+r.new.length:=M! h2;obtain⟨i,rfl⟩:∃i,j=60000+i:=⟨j-60000,w!⟩
    have hb:Nat.blt (60000+i) 60000=false :=by
     cases hb:Nat.blt (60000+i) 60000 with
     |false=>rfl
     |true=>have :60000+i<60000:=M! hb;omega
    have e:iv K base (60000+i)=base+i:=by
     unfold iv;rw [hb,cond_false,Nat.add_sub_cancel_left]
    rw [e,JY _ w!]
 have kY:∀(i k:Nat),K[i]? =some k->(r.heap[i]? =some none\/∃b,r.heap[i]? =some (some b)):=by
  intro i k hi;have kU:=(T?.1 hi).1;have :i<r.heap.length:=by omega
  cases hh:r.heap[i] with
  |none=>exact .inl (by rw [E! this,hh])
  |some b=>exact .inr ⟨b,by rw [E! this,hh]⟩
 generalize tS:({cond:= [r.pre],res:=fR (iv K base) r.res,jq:=oX (iv K base) K r.heap++cU st.h fz,del:=uW K r.heap,new:=gv base (r.new.map (lF (iv K base))),raw:=K}:Out)=out;have o1:out.jq=oX (iv K base) K r.heap++cU st.h fz:=by rw [<-tS]
 have o2:out.del=uW K r.heap:=by rw [<-tS]
 have o3:out.new=ups:=by rw [<-tS]
 have o4:out.raw=K:=by rw [<-tS]
 have o5:out.res=fR (iv K base) r.res:=by rw [<-tS]
 have htK:∀(i k:Nat),K[i]? =some k->nr st out k:=by
  intro i k hi;refine⟨IX i k hi,?_⟩;rcases kY i k hi with hh|⟨b,hh⟩
  . right;rw [o2];exact mK.2 (wW.2 ⟨i,hi,hh⟩)
  . left;rw [o1,nz];have :=yM (g:=iv K base) hi hh;obtain⟨y,hy⟩:=T!.1 this;rw [hy];rfl
 have htF:∀j∈fz,nr st out j:=by
  intro j hj;refine⟨by obtain⟨_,_,_,_,hr⟩:=DT j hj;simp [hr], .inl ?_⟩;rw [o1,nz];cases ay (oX (iv K base) K r.heap) j with
  |some y=>rfl
  |none=>exact qu fz j hj (DT j hj)
 have hHM:∀b,HM βc K.length b->∃k,nr st out k/\aB (β k)=some b:=by
  rintro b ⟨i,hi,hb⟩;have e1:K[i]? =some K[i]:=E! hi;rw [Hi i _ e1] at hb;exact⟨_,htK i _ e1,hb⟩
 rw [hl] at hp;have hK2:dC w w' A A2:=fun b hb=>hp.mono b (.inl hb);refine⟨A2,Vp,hB.cR hd ?_ ?_ ?_ hK2 hp.os hp.tape hp.output hp.size ?_ hp.bound ?_ ?_ ?_ ?_ ?_ ?_⟩
 . rw [o3];exact fun k b h=>kG _ k b hC h
 . rw [o1];intro k b h;rw [nz] at h;split at h
   . rename_i y hy;obtain⟨i,_,h1,_⟩:=tY hy;exact IX i k h1
   . obtain⟨h1,e,row,l,fr,h2,_⟩:=jG fz k b h;simp [h2]
 . rw [o3];exact pU
 . intro b hb ht;refine hp.same b hb fun hm=> ?_;obtain⟨k,h1,h2⟩:=hHM b hm;exact ht k h1 h2
 . intro b hb;rcases Nat.lt_or_ge b w.heap.size with kU|Nf
   . rcases hp.nh b kU hb with(h|⟨j,hj,yx⟩)|hm
     . exact .inl h
     . exact .inr (.inr ⟨j,htF j hj,yx⟩)
     . exact .inr (.inr (hHM b hm))
   . exact .inr (.inl Nf)
 . intro k ab h _;rw [o1,nz] at h;split at h
   . rename_i y hy;simp only [A!] at h;subst h;obtain⟨i,b,h1,h2,rfl⟩:=tY hy
     have :BD out k (lF (iv K base) b)=lF (iv K base) b:=by
      simp only [BD,o4,mK.2 (y? h1),L!]
     rw [this];obtain⟨g1,g2⟩:=hp.kept i b h2;refine PR (k:=50000+i) (iv K base) ((ahL i k h1).trans (g2.trans (Hi i k h1)).symm) (fun j hj=>hg j (r3 j ?_)) g1;simp only [F!];exact .inr (.inl (CD h2 j hj))
   . obtain⟨hk,e,row,l,fr,nX,rfl⟩:=jG fz k ab h
     have hkK:aM K k=false :=by
      cases hh:aM K k with
      |false=>rfl
      |true=>exact absurd (mK.1 hh) (ay5 k hk)
     simp only [BD,o4,hkK,Q!];rw [mD];obtain⟨xs,h1,h2,h3⟩:=hB.blocks k _ nX;simp only [BR,pU k (Nn k (by simp [nX]))];refine⟨xs,iH h1 (fun b hb=>(hp.mono b (.inr ⟨k,hk,hb⟩)).2),bZ (fun c x hx=>b4 hK2 row c x hx) l xs h2,fun b hb=> ?_⟩;simp only [K?];exact(hp.mono b (.inr ⟨k,hk,hb⟩)).1
 . rw [o3];intro k ab h;obtain⟨j,b,rfl,h1,rfl,hj⟩:=sG k ab h;refine PR (k:=60000+j) (iv K base) (JY j hj) (fun i hi=>hg i (r3 i ?_)) (hp.rows j b h1).1;simp only [F!];exact .inr (.inr (CE h1 i hi))
 . rw [o3,o2];intro k b ab h hb;obtain⟨j,c,rfl,h1,rfl,hj⟩:=sG k ab h;rw [JY j hj] at hb;rcases(hp.rows j c h1).2 b hb with h|⟨i,hi,Vb⟩
   . exact .inl h
   . have e1:K[i]? =some K[i]:=E! hi;have ay6:=Vb;rw [Hi i _ e1] at ay6;rcases kY i _ e1 with hh|⟨c',hh⟩
     . exact .inr ⟨K[i],mK.2 (wW.2 ⟨i,e1,hh⟩),IX i _ e1,ay6⟩
     . exfalso;obtain⟨_,g2⟩:=hp.kept i c' hh;have :=hp.apart (50000+i) (60000+j) b (.inl ⟨i,c',rfl,w!,hh⟩) (.inr ⟨j,rfl,hj⟩) (by rw [g2];exact Vb) hb;omega
 . rw [o3];intro k k' b h h' hb fv;obtain⟨x,hx⟩:=T!.1 h;obtain⟨y,hy⟩:=T!.1 h';obtain⟨j,c,rfl,h1,_,hj⟩:=sG k x hx;obtain⟨j',c',rfl,h1',_,lU⟩:=sG k' y hy;rw [JY j hj] at hb;rw [JY j' lU] at fv;have :=hp.apart (60000+j) (60000+j') b (.inr ⟨j,rfl,hj⟩) (.inr ⟨j',rfl,lU⟩) hb fv;omega
 . rw [o5];refine CC (iv K base) r.res v (fun k hk=>hg k (r3 k ?_)) hp.res;simp only [F!];exact .inl hk
theorem uX(hB:aJ C A β st a w)(hA:∀b,A b->A' b):∀(m:List Bool) (cZ:List AV) (args:List Value),ak w A β args cZ->(∀k∈(dN st.h m cZ).2,∀b,aB (β k)=some b->A' b)->
  ak w A' β args (dN st.h m cZ).1/\∀k∈(dN st.h m cZ).2,∃e row l fr,st.h k=some (.row e row l fr)
 |m,[],args,h,_=>by
  grind[dN,ak]
 |m,x::xs,args,h,hk=>by
  obtain⟨v,vs,rfl,h1,h2⟩:=h;cases hm:m.headD false with
  |true=>
   simp only [dN,hm,L!] at hk |-;obtain⟨g1,g2⟩:=uX hB hA m.tail xs vs h2 hk;refine⟨?_,g2⟩;exact⟨v,vs,rfl,kD (fun b hb=>⟨hA b hb,rfl⟩) x v h1,g1⟩
  |false=>
   simp only [dN,hm,Q!] at hk |-;obtain⟨p1,p2⟩:=yz hB hA x v h1 (fun k gg=>hk k (Z! _ gg));obtain⟨g1,g2⟩:=uX hB hA m.tail xs vs h2 (fun k gg=>hk k (Y! _ gg));refine⟨?_,fun k gg=> ?_⟩
   . simp [ak];grind
   grind
end
def Se(E:Env)(st:St)(o:Oper):Option Out:=match o.op with
 | .call c=>match c.callee with
   | .value f=>match ev st f,o.dst with
     | .fn (.func f) first bH,some d=>mJ E st.h (st.kb+d) f (first++(c.args.toList.map (ev st))++bH)
     | .fn (.func f) first bH,none=>mJ E st.h st.kb f (first++(c.args.toList.map (ev st))++bH)
     |_,_=>none
   |_=>none
 |_=>none
def JZ(E:Env)(st:St)(o:Oper):Option Out:=match ZT E st o with
 |some out=>some out
 |none=>Se E st o
section
variable {P:Program} {C:Ctx} {A A':Nat->Prop} {β aS:Nat->Value} {st:St} {a:Act} {w:World} {E:Env} {T:cJ}
theorem Hj(hE:hJ P C E)(hB:aJ C A β st a w) {o:Oper} {out:Out}(h:JZ E st o=some out)(Sb:j6 st o=true)(hC:kT st.h out.new=true)(hc:∀p∈out.cond,p)
  {K:Act->World->Prop} {Q:Exit->Act->World->Prop} (hK:∀a' w',Rel C (st.put o.dst out) a' w'->K a' w'):o.wp P a w K Q:=by
 unfold JZ at h;split at h
 . grind[Option.some.injEq,Sd]
 rename_i pU
 have hd:∀t,o.dst=some t->t<st.n:=by
  intro t ht;simp_all[j6,M!]
 obtain⟨dst,op,type,pos,after,guard⟩:=o;unfold Se at h;simp at h;split at h
 . rename_i c;obtain⟨callee,args,argTypes⟩:=c;split at h
   . rename_i f aL5;have hf:=bk hB f
     have key:∀(pS:FuncId) (first bH:List AV) (base:Nat),ev st f= .fn (.func pS) first bH->mJ E st.h base pS (first++(args.toList.map (ev st))++bH)=some out->
       Oper.wp P {dst,op:= .call {callee:= .value f,args,argTypes},type,pos,after,guard} a w K Q:=by
      intro pS first bH base D3 ny
      rw [D3] at hf;obtain⟨a1,a2,RZ,r1,r2⟩:=hf;unfold mJ at ny;split at ny
      . rename_i m s hs;obtain⟨hv,CB⟩:=hE.sv pS m s hs;have cw:=fk _ _ _ _ (fk _ _ _ _ r1 (qL hB args.toList)) r2;obtain⟨p1,p2⟩:=uX (A':=cv A β (dN st.h m (first++(args.toList.map (ev st))++bH)).2) hB (fun b h=> .inl h) m _ _ cw (fun k hk b hb=> .inr ⟨k,hk,hb⟩);have yI:=PU hv hB hE.g hd p1 p2 ny hC hc
        have kF:(execOp a.eval {dst,op:= .call {callee:= .value f,args,argTypes},type,pos,after,guard}).run P w= .ok (.enter pS (a1.toList++args.toList.map a.eval++a2.toList).toArray) w:=by
         have e:(a1++args.map a.eval)++a2=(a1.toList++args.toList.map a.eval++a2.toList).toArray:=by
          simp
         have :=CB (a1++args.map a.eval++a2) w;rw [e] at this;simp only [execOp,resolve,RZ,Deferred.ofValue,Sem.run_bind,Sem.run_pure,Result.andThen_ok,invoke,e,this]
        unfold Oper.wp;rw [kF];refine yI.mono fun e w' ⟨v,he,hrel⟩=> ?_;subst he;exact hK _ _ hrel
      grind
     grind
   grind
 grind
end
end Go.Vg

end
