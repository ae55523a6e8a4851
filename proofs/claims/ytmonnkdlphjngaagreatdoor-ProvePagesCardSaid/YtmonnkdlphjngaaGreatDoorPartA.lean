import Derived.Deep.MidRow
import Derived.Laws.AppendOwn
import Derived.Laws.OwnMore
import Derived.KernelRfl
import Derived.Laws.Sem
import Derived.Laws.BytesString
import Derived.Laws.StructEq
import Derived.Laws.Strings
import Derived.Laws.Small
import Derived.MapKept
import Derived.Laws.MakeOwn
set_option linter.unusedVariables false
set_option linter.unusedSimpArgs false
section
set_option linter.defProp false
def A!:=@Option.some.injEq
def B!:=@Bool.and_eq_true
def C!:=@List.length_append
def D!:=@List.getElem?_eq_getElem
def E!:=@Nat.eq_of_beq_eq_true
def F!:=@List.mem_append
def G!:=@List.mem_cons_of_mem
def H!:=@List.getD_eq_getElem?_getD
def I!:=@decide_eq_true_eq
def J!:=@Nat.zero_le
def K!:=@cond_true
def L!:=@List.mem_cons
def M!:=@Nat.le_of_ble_eq_true
def N!:=@Nat.le_refl
def O!:=@Option.isSome_iff_exists
def P!:=@cond_false
def Q!:=@Int.toNat_natCast
def R!:=@List.mem_cons_self
def S!:=@List.length_singleton
def T!:=@if_neg
def U!:=@List.append_assoc
def V!:=@List.length_drop
def W!:=@if_pos
def X!:=@List.length_take
def Y!:=@List.eq_nil_of_length_eq_zero
def Z!:=@List.mem_append_right
def A?:=@List.mem_append_left
def B?:=@Bool.false_eq_true
def C?:=@List.append_nil
def D?:=@List.length_cons
def E?:=@List.all_eq_true
def F?:=@Nat.mul_le_mul_right
def G?:=@Array.getElem?_eq_some_iff
def H?:=@if_true
def I?:=@List.take_of_length_le
def J?:=@List.getElem?_map
def K?:=@Array.getD_eq_getD_getElem?
def L?:=@Bool.not_eq_true'
def M?:=@List.length_eq_zero_iff
def N?:=@Classical.byContradiction
def O?:=@List.take_append_drop
def P?:=@decide_eq_true
def Q?:=@List.drop_eq_nil_of_le
def R?:=@Bool.or_eq_false_iff
def S?:=@List.drop_drop
def T?:=@List.map_cons
def U?:=@List.getElem?_eq_some_iff
def V?:=@decide_eq_false
def W?:=@List.pairwise_cons
def X?:=@Bool.or_eq_true
def Y?:=@Nat.lt_of_lt_of_le
def Z?:=@if_false
def a?:=@Array.getElem?_toList
def b?:=@List.mem_map_of_mem
def c?:=@List.cons_append
def d?:=@List.getElem?_cons_zero
def e?:=@decide_eq_false_iff_not
def f?:=@Int.le_refl
def g?:=@List.mem_map
def h?:=@Nat.add_mul
def i?:=@List.getElem?_take
def j?:=@List.map_congr_left
def k?:=@List.drop_left
def l?:=@List.drop_eq_getElem_cons
def m?:=@List.mem_singleton
def n?:=@Int.eq_ofNat_of_zero_le
def o?:=@Nat.add_sub_cancel_left
def p?:=@Nat.le_trans
def q?:=@List.mem_range
def r?:=@Nat.zero_add
def s?:=@List.cons.injEq
def t?:=@List.nil_append
def u?:=@Option.some.inj
def v?:=@List.map_append
def w?:=@List.flatMap_append
def x?:=@List.length_nil
def y?:=@Nat.min_eq_left
def z?:=@List.set_eq_take_append_cons_drop
namespace Go.Vg
open Go
inductive Ty where
 |int (k:IntKind)
 |bool
 |str
 |slice (row:List Ty)
mutual
def Ty.beq:Ty->Ty->Bool
 | .int k, .int k'=>decide (k=k')
 | .bool, .bool=>true
 | .str, .str=>true
 | .slice r, .slice r'=>Ty.vF r r'
 |_,_=>false
def Ty.vF:List Ty->List Ty->Bool
 | [],[]=>true
 |t::ts,u::us=>Ty.beq t u&&Ty.vF ts us
 |_,_=>false
end
@[reducible] def DI:IntKind->Type
  | .u8=>UInt8
  | .i8=>Int| .i16=>Int| .i32=>Int| .i64=>Int| .u16=>Int| .u32=>Int| .u64=>Int
@[reducible] def aGI (ts:List Ty) (a b:Type):Type :=match ts with
  | []=>a
  |_::_=>a×b
mutual
@[reducible] def D:Ty->Type
  | .int k=>DI k
  | .bool=>Bool
  | .str=>List UInt8
  | .slice row=>List (Row row)
@[reducible] def Row:List Ty->Type
  | []=>Unit
  |t::ts=>aGI ts (D t) (Row ts)
end
def DI.toInt:(k:IntKind)->DI k->Int
 | .u8,x=>(UInt8.toNat x:Int)
 | .i8,n=>n| .i16,n=>n| .i32,n=>n| .i64,n=>n| .u16,n=>n| .u32,n=>n| .u64,n=>n
def DI.ofInt:(k:IntKind)->Int->DI k
 | .u8,n=>UInt8.ofNat n.toNat
 | .i8,n=>n| .i16,n=>n| .i32,n=>n| .i64,n=>n| .u16,n=>n| .u32,n=>n| .u64,n=>n
def Row.hd {t:Ty}: {ts:List Ty}->Row (t::ts)->D t
 | [],x=>x
 |_::_,x=>x.1
def Row.tl {t:Ty}: {ts:List Ty}->Row (t::ts)->Row ts
 | [],_=>()
 |_::_,x=>x.2
def Row.mk {t:Ty}: {ts:List Ty}->D t->Row ts->Row (t::ts)
 | [],x,_=>x
 |_::_,x,y=>(x,y)
def DI.zero:(k:IntKind)->DI k
 | .u8=>(0:UInt8)
 | .i8=>(0:Int)| .i16=>(0:Int)| .i32=>(0:Int)| .i64=>(0:Int)| .u16=>(0:Int)| .u32=>(0:Int)| .u64=>(0:Int)
def D.zero:(t:Ty)->D t
 | .int k=>DI.zero k
 | .bool=>false
 | .str=> []
 | .slice _=> []
def Row.zero:(ts:List Ty)->Row ts
 | []=>()
 |t::ts=>Row.mk (D.zero t) (Row.zero ts)
def lo:IntKind->Int
 | .i8=> -128| .i16=> -32768| .i32=> -2147483648| .i64=> -9223372036854775808
 | .u8=>0| .u16=>0| .u32=>0| .u64=>0
def hi:IntKind->Int
 | .i8=>127| .i16=>32767| .i32=>2147483647| .i64=>9223372036854775807
 | .u8=>255| .u16=>65535| .u32=>4294967295| .u64=>18446744073709551615
def nC:IntKind->Option Int
 | .u8=>some 256| .u16=>some 65536| .u32=>some 4294967296| .u64=>some 18446744073709551616
 | .i8=>none| .i16=>none| .i32=>none| .i64=>none
inductive AV where
 |dz
 |undef
 |int (k:IntKind) (n:Int)
 |bool (b:Bool)
 |tt
 |ff
 |str (s:List UInt8)
 |nil
 |jM
 |kq
 |sl (row:List Ty) (l:List (Row row))
 |full (row:List Ty) (l:List (Row row))
 |gR (row:List Ty) (x:Row row) (j:Nat)
 |qd (row:List Ty) (l:List (Row row))
 |own (k:Nat)
 |pre (k:Nat) (n:Nat)
 |view (k sz off len:Nat)
 |ref (k off:Nat)
 |elem (k sz i j:Nat)
 |agg (cs:List AV)
 |b4 (vs:List AV)
 |fn (f:Fn) (first bB:List AV)
 |pw (row:List Ty) (l:List (Row row))
 |ia (ks:List Int) (cs:List AV)
inductive AB where
 |cells (cs:List AV)
 |row (e:Nat) (row:List Ty) (l:List (Row row)) (fr:Bool)
 |views (e:Nat) (j:Option Nat) (n m sz:Nat)
 |arr (row:List Ty) (l:List (Row row))
 |gS (e:Nat) (j:Option Nat) (row:List Ty) (l:List (Row row)) (i:Nat)
def Av:(t:Ty)->D t->AV
 | .int k,x=> .int k (DI.toInt k x)
 | .bool,b=> .bool b
 | .str,s=> .str s
 | .slice row,l=> .sl row l
def gh:(ts:List Ty)->Row ts->List AV
 | [],_=> []
 |t::ts,x=>Av t (Row.hd x)::gh ts (Row.tl x)
mutual
theorem Ty.eq_of_beq:∀(a b:Ty),Ty.beq a b=true->a=b
 | .int k, .int k',h=>by simp [Ty.beq] at h;rw [h]
 | .bool, .bool,_=>rfl
 | .str, .str,_=>rfl
 | .slice r, .slice r',h=>by simp only [Ty.beq] at h;rw [Ty.ku r r' h]
 | .int _, .bool,h=>by simp [Ty.beq] at h
 | .int _, .str,h=>by simp [Ty.beq] at h
 | .int _, .slice _,h=>by simp [Ty.beq] at h
 | .bool, .int _,h=>by simp [Ty.beq] at h
 | .bool, .str,h=>by simp [Ty.beq] at h
 | .bool, .slice _,h=>by simp [Ty.beq] at h
 | .str, .int _,h=>by simp [Ty.beq] at h
 | .str, .bool,h=>by simp [Ty.beq] at h
 | .str, .slice _,h=>by simp [Ty.beq] at h
 | .slice _, .int _,h=>by simp [Ty.beq] at h
 | .slice _, .bool,h=>by simp [Ty.beq] at h
 | .slice _, .str,h=>by simp [Ty.beq] at h
theorem Ty.ku:∀(a b:List Ty),Ty.vF a b=true->a=b
 | [],[],_=>rfl
 |t::ts,u::us,h=>by
  simp only [Ty.vF,B!] at h;rw [Ty.eq_of_beq t u h.1,Ty.ku ts us h.2]
 | [],_::_,h=>by simp [Ty.vF] at h
 |_::_,[],h=>by simp [Ty.vF] at h
end
def fu(r r':List Ty)(l:List (Row r)):Option (List (Row r')):=
 if h:Ty.vF r r'=true then some ((Ty.ku r r' h)▸l) else none
def Pt:(t:Ty)->AV->Option (D t)
 | .int k, .int k' n=>if k=k' then some (DI.ofInt k n) else none
 | .bool, .bool b=>some b
 | .bool, .tt=>some true
 | .bool, .ff=>some false
 | .str, .str s=>some s
 | .slice r, .sl r' l=>fu r' r l
 | .slice r, .full r' l=>fu r' r l
 | .slice _, .nil=>some ([]:List _)
 |_,_=>none
def lu:(ts:List Ty)->List AV->Option (Row ts)
 | [],[]=>some ()
 |t::ts,a::aK=>match Pt t a,lu ts aK with
  |some x,some y=>some (Row.mk x y)
  |_,_=>none
 |_,_=>none
def setRow:(ts:List Ty)->Row ts->Nat->AV->Option (Row ts)
 | [],_,_,_=>none
 |t::ts,x,0,a=>match Pt t a with
  |some d=>some (Row.mk d (Row.tl x))
  |none=>none
 |t::ts,x,j+1,a=>match setRow ts (Row.tl x) j a with
  |some y=>some (Row.mk (Row.hd x:D t) y)
  |none=>none
def oF:(ts:List Ty)->Row ts->Nat->List AV->Option (Row ts)
 |_,x,_,[]=>some x
 |ts,x,j,a::aK=>match setRow ts x j a with
  |some y=>oF ts y (j+1) aK
  |none=>none
def tL(ts:List Ty):Nat->List AV->Option (List (Row ts))
 |0,aK=>match aK with| []=>some []|_::_=>none
 |n+1,aK=>match lu ts (aK.take ts.length),tL ts n (aK.drop ts.length) with
  |some x,some l=>some (x::l)
  |_,_=>none
structure TE where
 desc:TypeDesc
 size:Nat
 bytes:Nat
 zero:Value
inductive cA where
 |leaf
 |node (l:cA) (k:Nat) (v:TE) (r:cA)
def cA.find:cA->Nat->Option TE
 | .leaf,_=>none
 | .node l k v r,n=>bif Nat.beq n k then some v else bif Nat.blt n k then l.find n else r.find n
def _root_.Go.TypeDesc.kQ:TypeDesc->Bool
 | .struct _| .array _ _=>true
 |_=>false
def yG {α:Type}:Option (List α)->Option (List α)->Option (List α)
 |some a,some b=>some (a++b)
 |_,_=>none
def rowOf(T:cA):Nat->TypeId->Option (List Ty)
 |0,_=>none
 |n+1,t=>match T.find t with
  |none=>none
  |some te=>match te.desc with
   | .int k=>some [.int k]
   | .bool=>some [.bool]
   | .string=>some [.str]
   | .slice e=>match rowOf T n e with|some r=>some [.slice r]|none=>none
   | .struct fs=>fs.toList.foldr (fun f acc=>yG (rowOf T n f.type) acc) (some [])
   | .array k e=>match rowOf T n e with|some r=>some ((List.replicate k r).flatten)|none=>none
   |_=>none
def tM:Value->AV
 | .int k n=>if lo k<=n/\n<=hi k then .int k n else .dz
 | .bool b=>if b then .tt else .ff
 | .string s=>bif Nat.ble s.data.toList.length 1000000 then .str s.data.toList else .dz
 | .slice none 0 0=> .nil
 | .pointer none=> .jM
 | .nilFunc=> .kq
 |_=> .dz
def ofConst:Value->AV
 | .agg cs=> .agg (cs.toList.map tM)
 |v=>tM v
inductive KS where
 |one (k:Nat)
 |dst (d:Nat)
structure GD where
 row:List Ty
 l:List (Row row)
structure St where
 t:Nat->AV
 h:Nat->Option AB
 cm:List Nat
 news:List KS
 Df:List Nat
 n:Nat
 kb:Nat
 g:Nat->Option GD
abbrev bg:=Nat->Option AB
def ev(st:St):Operand->AV
 | .tmp i=>st.t i
 | .const v=>ofConst v
 | .global i=>match st.g i with
   |some d=> .qd d.row d.l
   |none=> .dz
 | .func f=> .fn (.func f) [] []
def gu(h:bg):AV->AV×List Nat
 | .own k=>match h k with
   |some (.row _ row l _)=>(.sl row l,[k])
   |_=>(.dz,[])
 | .pre k n=>match h k with
   |some (.row _ row l _)=>(.sl row (l.take n),[k])
   |_=>(.dz,[])
 | .view k sz off len=>match h k with
   |some (.row _ row l _)=>bif Nat.beq sz row.length then(.sl row ((l.drop off).take len),[k]) else(.dz,[])
   |_=>(.dz,[])
 |a=>(a,[])
def mN(h:bg):List AV->List AV×List Nat
 | []=>([],[])
 |a::aK=>((gu h a).1::(mN h aK).1,(gu h a).2++(mN h aK).2)
def ny(h:bg):AV->AV×List Nat
 | .agg cs=>(.agg (mN h cs).1,(mN h cs).2)
 |a=>gu h a
def kv(h:bg):List AV->List AV×List Nat
 | []=>([],[])
 |a::aK=>((ny h a).1::(kv h aK).1,(ny h a).2++(kv h aK).2)
def AV.cells:AV->List AV
 | .agg cs=>cs
 |a=> [a]
def AV.one:AV->Bool
 | .dz| .undef| .agg _| .b4 _=>false
 |_=>true
structure Out where
 cond:List Prop
 res:AV
 ib:List (Nat×AB):= []
 del:List Nat:= []
 new:List (Nat×AB):= []
 raw:List Nat:= []
def cJ(h:bg):List Nat->List (Nat×AB)
 | []=> []
 |k::ks=>match h k with
  |some (.row e row l _)=>(k, .row e row l true)::cJ h ks
  |_=>cJ h ks
mutual
def dX(d:Nat):AV->AV
 | .own k=>bif Nat.beq k d then .dz else .own k
 | .pre k n=>bif Nat.beq k d then .dz else .pre k n
 | .view k sz off n=>bif Nat.beq k d then .dz else .view k sz off n
 | .ref k off=>bif Nat.beq k d then .dz else .ref k off
 | .elem k sz i j=>bif Nat.beq k d then .dz else .elem k sz i j
 | .agg cs=> .agg (fI d cs)
 | .b4 vs=> .b4 (fI d vs)
 | .fn f first bB=> .fn f (fI d first) (fI d bB)
 | .ia ks cs=> .ia ks (fI d cs)
 |a=>a
def fI(d:Nat):List AV->List AV
 | []=> []
 |a::aK=>dX d a::fI d aK
end
def rp(d:Nat):Option Nat->Option Nat
 |some k=>bif Nat.beq k d then none else some k
 |none=>none
def oh(d:Nat):AB->AB
 | .cells cs=> .cells (fI d cs)
 | .views e j n m sz=> .views e (rp d j) n m sz
 | .gS e j row l i=> .gS e (rp d j) row l i
 |b=>b
def Aw(cs:List AV)(off:Nat)(vs:List AV):List AV:=cs.take off++vs++cs.drop (off+vs.length)
def Ce(h:bg):AV->Option Int
 | .str s=>some (s.length:Int)
 | .sl _ l=>some (l.length:Int)
 | .full _ l=>some (l.length:Int)
 | .nil=>some 0
 | .own k=>match h k with
   |some (.row _ _ l _)=>some (l.length:Int)
   |_=>none
 | .pre k n=>match h k with
   |some (.row _ _ _ _)=>some (n:Int)
   |_=>none
 | .view k _ _ n=>match h k with
   |some (.row _ _ _ _)=>some (n:Int)
   |_=>none
 |_=>none
def rq(T:cA)(t:TypeId):Option TE:=match T.find t with
 |some te=>match te.desc with
  | .slice e=>T.find e
  |_=>none
 |none=>none
def xG(T:cA)(t:TypeId):Option TypeId:=match T.find t with
 |some te=>match te.desc with
  | .slice e=>some e
  |_=>none
 |none=>none
def abH(T:cA)(t:TypeId)(n:Nat):Bool:=match T.find t with
 |some te=>Nat.beq te.size n
 |none=>false
def bE(T:cA)(t:TypeId)(n:Nat):Bool:=match rq T t with
 |some te=>Nat.beq te.size n&&Nat.blt 0 n
 |none=>false
def E5(T:cA)(t:TypeId):Option (Nat×Nat):=match T.find t with
 |some te=>match te.desc with
  | .array k e=>match T.find e with
    |some ee=>bif Nat.blt 0 ee.size then some (k,ee.size) else none
    |none=>none
  |_=>none
 |none=>none
def e6(T:cA)(h:bg)(t:TypeId):AV->AV->Option Out
 | .sl row l, .int _ i=>
   bif bE T t row.length then some {cond:= [0<=i/\i<(l.length:Int)],res:= .gR row (l.getD i.toNat (Row.zero row)) 0} else none
 | .full row l, .int _ i=>
   bif bE T t row.length then some {cond:= [0<=i/\i<(l.length:Int)],res:= .gR row (l.getD i.toNat (Row.zero row)) 0} else none
 | .own k, .int _ i=>match h k with
   |some (.row _ row l _)=>bif bE T t row.length then some {cond:= [0<=i/\i<(l.length:Int)],res:= .elem k row.length i.toNat 0} else none
   |_=>none
 | .pre k n, .int _ i=>match h k with
   |some (.row _ row l _)=>bif bE T t row.length then some {cond:= [0<=i/\i<(n:Int)],res:= .elem k row.length i.toNat 0} else none
   |_=>none
 | .view k sz off n, .int _ i=>bif bE T t sz then some {cond:= [0<=i/\i<(n:Int)],res:= .elem k sz (off+i.toNat) 0} else none
 | .qd row l, .int _ i=>match E5 T t with
   |some (n,sz)=>bif Nat.beq sz row.length then some {cond:= [n=l.length,0<=i/\i<(l.length:Int)],res:= .gR row (l.getD i.toNat (Row.zero row)) 0} else none
   |none=>none
 | .ref k off, .int _ i=>match E5 T t with
   |some (n,sz)=>some {cond:= [0<=i/\i<(n:Int)],res:= .ref k (off+i.toNat*sz)}
   |none=>none
 |_,_=>none
def Kt(off:Nat)(n:Int)(sz:Nat):Nat:=off+n.toNat*sz
def ann:Operand->Option Int
 | .const (.int _ n)=>some n
 |_=>none
def qe(T:cA)(h:bg)(t:TypeId)(n:Option Int)(x y:AV):Option Out:=match n,x,y with
 |some n, .ref k off, .int kd i=>match E5 T t with
  |some (m,sz)=>if n=i then some {cond:= [0<=i/\i<(m:Int)],res:= .ref k (Kt off n sz)} else e6 T h t (.ref k off) (.int kd i)
  |none=>none
 |_,x,y=>e6 T h t x y
def pick(te:TE)(cs:List AV)(off:Nat):Option AV:=
 bif te.desc.kQ then(bif Nat.ble (off+te.size) cs.length then some (.agg ((cs.drop off).take te.size)) else none)
 else cs[off]?
def oG(T:cA)(h:bg)(t:TypeId):AV->Option Out
 | .gR row x j=>match T.find t with
   |some te=>match pick te (gh row x) j with
    |some a=>some {cond:= [],res:=a}
    |none=>none
   |none=>none
 | .qd row l=>match T.find t with
   |some te=>match pick te (l.flatMap (gh row)) 0 with
    |some a=>some {cond:= [],res:=a}
    |none=>none
   |none=>none
 | .ref k off=>match T.find t,h k with
   |some te,some (.cells cs)=>match pick te cs off with
    |some a=>some {cond:= [],res:=a}
    |none=>none
   |_,_=>none
 | .elem k sz i j=>match T.find t,h k with
   |some te,some (.row _ row l _)=>
    bif Nat.beq sz row.length then match pick te (gh row (l.getD i (Row.zero row))) j with
     |some a=>some {cond:= [i<l.length],res:=a}
     |none=>none
    else none
   |_,_=>none
 |_=>none
def iP(T:cA)(h:bg)(t:TypeId):AV->AV->Option Out
 | .ref k off,v=>match h k with
   |some (.cells cs)=>
    bif v.cells.all AV.one&&abH T t v.cells.length&&Nat.ble (off+v.cells.length) cs.length then
     some {cond:= [],res:= .undef,ib:= [(k, .cells (Aw cs off v.cells))]} else none
   |_=>none
 | .elem k sz i j,v=>match h k with
   |some (.row e row l false)=>
    bif Nat.beq sz row.length&&abH T t v.cells.length&&Nat.blt 0 v.cells.length then match oF row (l.getD i (Row.zero row)) j (ny h v).1.cells with
     |some x=>bif (ny h v).2.elem k then none else some {cond:= [i<l.length],res:= .undef,ib:=(k, .row e row (l.set i x) false)::cJ h (ny h v).2}
     |none=>none
    else none
   |_=>none
 |_,_=>none
def Ax(T:cA)(s:TypeId)(f:Nat):Option (TypeId×Nat):=match T.find s with
 |some te=>match te.desc with
  | .struct fs=>match fs[f]? with
    |some fd=>some (fd.type,fd.offset)
    |none=>none
  |_=>none
 |none=>none
def Ay(T:cA)(t:TypeId):Bool:=match T.find t with
 |some te=>Nat.blt 0 te.size
 |none=>false
def sh(T:cA)(s:TypeId)(f:Nat)(x:AV):Option Out:=match Ax T s f with
 |some (ft,o)=>bif Ay T ft then match x with
  | .ref k off=>some {cond:= [],res:= .ref k (off+o)}
  | .gR row x j=>some {cond:= [],res:= .gR row x (j+o)}
  | .elem k sz i j=>some {cond:= [],res:= .elem k sz i (j+o)}
  |_=>none
  else none
 |none=>none
def fit(k:IntKind)(n:Int):List Prop×AV:=match nC k with
 |some c=>([], .int k (n%c))
 |none=>([lo k<=n/\n<=hi k], .int k n)
def ru(k:IntKind)(cond:List Prop)(n:Int):Option Out:=some {cond:=cond++(fit k n).1,res:=(fit k n).2}
def yH(k:IntKind)(n:Int):List Prop :=match nC k with
 |some _=> []
 |none=> [0<=n]
def bitsOf:IntKind->Int
 | .i8| .u8=>8| .i16| .u16=>16| .i32| .u32=>32| .i64| .u64=>64
def aM(a b:Int):Int:=((a.toNat&&&b.toNat:Nat):Int)
def cn(a b:Int):Int:=((a.toNat ||| b.toNat:Nat):Int)
def bT(a b:Int):Int:=((a.toNat^^^b.toNat:Nat):Int)
def rv:AV->Option Bool
 | .bool b=>some b
 | .tt=>some true
 | .ff=>some false
 |_=>none
def dW(T:cA)(t:TypeId)(f:TypeDesc->Bool):Bool:=match T.find t with
 |some te=>f te.desc
 |none=>false
def ik:TypeDesc->Bool
 | .slice _=>true
 |_=>false
def E6:TypeDesc->Bool
 | .bool=>true
 |_=>false
def E7(T:cA)(E:TypeId->AV->AV->Option Bool)(xs ys:List AV):List Field->Option Bool
 | []=>some true
 |f::fs=>match T.find f.type with
  |some te=>match pick te xs f.offset,pick te ys f.offset with
   |some a,some b=>match E f.type a b,E7 T E xs ys fs with
    |some r,some r'=>some (match fs with| []=>r|_=>bif r then r' else false)
    |_,_=>none
   |_,_=>none
  |none=>none
def Dg(T:cA):Nat->TypeId->AV->AV->Option Bool
 |0,_,_,_=>none
 |n+1,t,x,y=>match T.find t with
  |some te=>match te.desc with
   | .struct fs=>match x,y with
     | .agg xs, .agg ys=>E7 T (Dg T n) xs ys fs.toList
     |_,_=>none
   | .int _=>match x,y with
     | .int k a, .int k' b=>if k=k' then some (decide (a=b)) else none
     |_,_=>none
   | .string=>match x,y with
     | .str a, .str b=>some (decide (a=b))
     |_,_=>none
   | .bool=>match rv x,rv y with
     |some a,some b=>some (a==b)
     |_,_=>none
   |_=>none
  |none=>none
def M7(T:cA)(t:TypeId)(op:BinOp):AV->AV->Option Out
 | .int k n, .int k' m=>match op with
   | .shl=>ru k [0<=m/\m<=bitsOf k] (n*2^m.toNat)
   | .shr=>some {cond:= [0<=m/\m<=bitsOf k],res:= .int k (n/2^m.toNat)}
   |_=>if k=k' then match op with
    | .add=>ru k [] (n+m)
    | .sub=>ru k [] (n-m)
    | .mul=>ru k [] (n*m)
    | .quo=>some {cond:=yH k n++ [0<m],res:= .int k (n/m)}
    | .rem=>some {cond:=yH k n++ [0<m],res:= .int k (n%m)}
    | .and=>some {cond:=yH k n++yH k m,res:= .int k (aM n m)}
    | .or=>some {cond:=yH k n++yH k m,res:= .int k (cn n m)}
    | .xor=>some {cond:=yH k n++yH k m,res:= .int k (bT n m)}
    | .eql=>some {cond:= [],res:= .bool (decide (n=m))}
    | .neq=>some {cond:= [],res:= .bool (!decide (n=m))}
    | .lss=>some {cond:= [],res:= .bool (decide (n<m))}
    | .leq=>some {cond:= [],res:= .bool (decide (n<=m))}
    | .gtr=>some {cond:= [],res:= .bool (decide (m<n))}
    | .geq=>some {cond:= [],res:= .bool (decide (m<=n))}
    |_=>none
    else none
 | .str s, .str u=>match op with
   | .add=>some {cond:= [((s.length+u.length:Nat):Int)<=9223372036854775807],res:= .str (s++u)}
   | .eql=>some {cond:= [],res:= .bool (decide (s=u))}
   | .neq=>some {cond:= [],res:= .bool (!decide (s=u))}
   | .lss=>some {cond:= [],res:= .bool (Op.bytesLess s u)}
   | .leq=>some {cond:= [],res:= .bool (Op.bytesLess s u || decide (s=u))}
   | .gtr=>some {cond:= [],res:= .bool (!(Op.bytesLess s u || decide (s=u)))}
   | .geq=>some {cond:= [],res:= .bool (!Op.bytesLess s u)}
   |_=>none
 | .sl (r::rs) l, .nil=>bif dW T t ik then match op with
     | .eql=>some {cond:= [],res:= .pw (r::rs) l}
     |_=>none
     else none
 | .agg xs, .agg ys=>match Dg T 8 t (.agg xs) (.agg ys) with
   |some r=>match op with
    | .eql=>some {cond:= [],res:= .bool r}
    | .neq=>some {cond:= [],res:= .bool (!r)}
    |_=>none
   |none=>none
 |a,b=>match rv a,rv b with
  |some x,some y=>bif dW T t E6 then match op with
   | .eql=>some {cond:= [],res:= .bool (x==y)}
   | .neq=>some {cond:= [],res:= .bool (!(x==y))}
   |_=>none
   else none
  |_,_=>none
def Sh(op:UnOp):AV->Option Out
 | .bool b=>match op with| .not=>some {cond:= [],res:= .bool (!b)}|_=>none
 | .tt=>match op with| .not=>some {cond:= [],res:= .ff}|_=>none
 | .ff=>match op with| .not=>some {cond:= [],res:= .tt}|_=>none
 | .int k n=>match op with
   | .neg=>ru k [] (0-n)
   | .xor=>match nC k with
     |some c=>some {cond:= [],res:= .int k (c-1-n)}
     |none=>none
   |_=>none
 |_=>none
def lv(h:bg)(row:List Ty)(a:AV):Option (List (Row row)):=match a with
 | .str s=>fu [.int .u8] row s
 | .nil=>some []
 |a=>match(gu h a).1 with
  | .sl r l=>fu r row l
  | .full r l=>fu r row l
  |_=>none
def ry:Nat:=8
def EE:TypeDesc->Bool
 | .slice _=>true
 | .string=>true
 |_=>false
def nH(T:cA)(h:bg)(d:Nat)(t t':TypeId)(s x:AV):Option Out:=
 match xG T t,rq T t with
 |some e,some te=>match rowOf T ry e with
  |some row=>bif Nat.beq row.length te.size&&Nat.blt 0 te.size&&Nat.beq (ofConst te.zero).cells.length te.size&&dW T t' EE then
   match lv h row x with
   |some m=>match s with
    | .nil=>some {cond:= [m.length<=140737488355328/te.bytes],res:= .own d,new:= [(d, .row e row m false)]}
    | .own k=>match h k with
      |some (.row e' jn l false)=>bif Nat.beq e' e then match fu jn row l with
       |some l'=>some {cond:= [l'.length+m.length<=140737488355328/te.bytes],res:= .own d,del:= [k],new:= [(d, .row e row (l'++m) false)]}
       |none=>none
       else none
      |_=>none
    | .pre k n=>match h k with
      |some (.row e' jn l false)=>bif Nat.beq e' e then match fu jn row l with
       |some l'=>some {cond:= [n+m.length<=140737488355328/te.bytes],res:= .own d,del:= [k],new:= [(d, .row e row (l'.take n++m) false)]}
       |none=>none
       else none
      |_=>none
    | .full r l=>match fu r row l with
      |some l'=>some {cond:= [0<m.length,l'.length+m.length<=140737488355328/te.bytes],res:= .own d,new:= [(d, .row e row (l'++m) false)]}
      |none=>none
    |_=>none
   |none=>none
   else none
  |none=>none
 |_,_=>none
def oH(T:cA)(h:bg)(t t':TypeId)(s x:AV):Option Out:=
 match s with
 | .own k=>match h k with
   |some (.row e row l false)=>bif bE T t row.length then match lv h row x with
    |some m=>some {cond:= [],res:= .int .i64 ((min m.length l.length:Nat):Int),ib:= [(k, .row e row (m.take l.length++l.drop m.length) false)]}
    |none=>none
    else none
   |_=>none
 | .view k sz off n=>match h k with
   |some (.row e row l false)=>bif bE T t row.length&&Nat.beq sz row.length then match lv h row x with
    |some m=>some {cond:= [off+n<=l.length],res:= .int .i64 ((min m.length n:Nat):Int),ib:= [(k, .row e row (l.take off++m.take n++l.drop (off+min m.length n)) false)]}
    |none=>none
    else none
   |_=>none
 |_=>none
def oi:Option AV->Option (Option Int)
 |none=>some none
 |some (.int _ i)=>some (some i)
 |some _=>none
def pA:TypeDesc->Bool
 | .string=>true
 |_=>false
def pX(T:cA)(h:bg)(t:TypeId)(x:AV)(lo hi mx:Option AV):Option Out:=
 match x,oi lo,oi hi,oi mx with
 | .str s,some lo,some hi,some none=>bif dW T t pA then match lo,hi with
   |none,none=>some {cond:= [],res:= .str s}
   |none,some b=>some {cond:= [0<=b/\b<=(s.length:Int)],res:= .str (s.take b.toNat)}
   |some a,none=>some {cond:= [0<=a/\a<=(s.length:Int)],res:= .str (s.drop a.toNat)}
   |some a,some b=>some {cond:= [0<=a/\a<=b/\b<=(s.length:Int)],res:= .str ((s.take b.toNat).drop a.toNat)}
   else none
 | .sl row l,some lo,some hi,some none=>bif bE T t row.length then match lo,hi with
   |none,none=>some {cond:= [],res:= .sl row l}
   |none,some b=>some {cond:= [0<=b/\b<=(l.length:Int)],res:= .sl row (l.take b.toNat)}
   |some a,none=>some {cond:= [0<=a/\a<=(l.length:Int)],res:= .sl row (l.drop a.toNat)}
   |some a,some b=>some {cond:= [0<=a/\a<=b/\b<=(l.length:Int)],res:= .sl row ((l.take b.toNat).drop a.toNat)}
   else none
 | .sl row l,some none,some (some b),some (some c)=>bif bE T t row.length then some {cond:= [0<=b/\b=c/\b<=(l.length:Int)],res:= .full row (l.take b.toNat)} else none
 | .own k,some lo,some hi,some none=>match h k with
   |some (.row _ row l _)=>bif bE T t row.length then match lo,hi with
    |none,none=>some {cond:= [],res:= .own k}
    |none,some b=>some {cond:= [0<=b/\b<=(l.length:Int)],res:= .pre k b.toNat}
    |some a,none=>some {cond:= [0<=a/\a<=(l.length:Int)],res:= .view k row.length a.toNat (l.length-a.toNat)}
    |some a,some b=>some {cond:= [0<=a/\a<=b/\b<=(l.length:Int)],res:= .view k row.length a.toNat (b.toNat-a.toNat)}
    else none
   |_=>none
 |_,_,_,_=>none
def tN:AV->Bool
 | .str _=>false
 |_=>true
def xH(T:cA)(h:bg)(s d:TypeId)(k:Nat):Option Out:=
 bif Nat.beq s d then match T.find s with
  |some ts=>match ts.desc with
   | .slice e=>match T.find e,h k with
     |some te,some (.row _ row l false)=>match te.desc,fu row [.int .u8] l with
      | .int .u8,some l'=>some {cond:= [0<l'.length],res:= .sl [.int .u8] l',del:= [k]}
      |_,_=>none
     |_,_=>none
   |_=>none
  |none=>none
 else none
def mz(T:cA)(h:bg)(s d:TypeId)(x:AV):Option Out:=
 match T.find s,T.find d with
 |some ts,some td=>match ts.desc,td.desc,x with
  | .int _, .int k, .int k' n=>
    if lo k<=lo k'/\hi k'<=hi k then some {cond:= [],res:= .int k n} else ru k [] n
  | .string, .string, .str u=>some {cond:= [],res:= .str u}
  | .string, .slice e, .str u=>match T.find e with
    |some te=>match te.desc with
     | .int .u8=>some {cond:= [],res:= .sl [.int .u8] u}
     |_=>none
    |none=>none
  | .slice e, .string,x=>match T.find e with
    |some te=>match te.desc with
     | .int .u8=>match tN x,lv h [.int .u8] x with
       |true,some u=>some {cond:= [],res:= .str u}
       |_,_=>none
     |_=>none
    |none=>none
  | .slice _, .slice _, .own k=>xH T h s d k
  |_,_,_=>none
 |_,_=>none
def zo(place:Nat->Option (Nat×Nat))(cs:List AV):List (Nat×AV)->Option (List AV)
 | []=>some cs
 |(i,v)::rest=>match place i with
  |none=>none
  |some (off,size)=>bif Nat.beq v.cells.length size&&Nat.ble (off+size) cs.length&&v.cells.all AV.one then zo place (Aw cs off v.cells) rest else none
def placesOf(T:cA):List Field->Option (List (Nat×Nat))
 | []=>some []
 |f::fs=>match T.find f.type,placesOf T fs with
  |some te,some ps=>some ((f.offset,te.size)::ps)
  |_,_=>none
def Cf(T:cA)(t:TypeId)(parts:List (Nat×AV)):Option Out:=match T.find t with
 |some te=>match te.desc with
  | .struct fs=>match placesOf T fs.toList with
    |some ps=>match zo (fun i=>ps[i]?) (ofConst te.zero).cells parts with
     |some cs=>some {cond:= [],res:= .agg cs}
     |none=>none
    |none=>none
  | .array _ e=>match T.find e with
    |some ee=>match zo (fun i=>some (i*ee.size,ee.size)) (ofConst te.zero).cells parts with
     |some cs=>some {cond:= [],res:= .agg cs}
     |none=>none
    |none=>none
  |_=>none
 |none=>none
def mO(h:bg):List (Nat×AV)->List (Nat×AV)×List Nat
 | []=>([],[])
 |(i,x)::ps=>((i,(ny h x).1)::(mO h ps).1,(ny h x).2++(mO h ps).2)
def iQ(T:cA)(h:bg)(d:Nat)(t:TypeId)(len:Nat)(parts:List (Nat×AV)):Option Out:=
 match xG T t,rq T t with
 |some e,some te=>match rowOf T ry e with
  |some row=>bif Nat.beq row.length te.size&&Nat.blt 0 te.size&&Nat.beq (ofConst te.zero).cells.length te.size&&Nat.ble (len*te.size) 16777216 then
   match zo (fun i=>some (i*te.size,te.size)) ((List.replicate len (ofConst te.zero).cells).flatten) (mO h parts).1 with
   |some cs=>match tL row len cs with
    |some l=>some {cond:= [],res:= .own d,ib:=cJ h (mO h parts).2,new:= [(d, .row e row l false)]}
    |none=>none
   |none=>none
   else none
  |none=>none
 |_,_=>none
def cU(row:List Ty)(z:Value):Bool:=match z with
 | .agg cs=>cx row cs.toList
 |v=>cx row [v]
where
 cx:List Ty->List Value->Bool
 | [],[]=>true
 | .int k::ts, .int k' n::vs=>decide (k=k')&&decide (n=0)&&cx ts vs
 | .bool::ts, .bool false ::vs=>cx ts vs
 | .str::ts, .string s::vs=>s.data.toList.isEmpty&&cx ts vs
 | .slice _::ts, .slice none 0 0::vs=>cx ts vs
 |_,_=>false
def nI(T:cA)(h:bg)(t:TypeId)(x:AV):Option Out:=
 match x with
 | .view k sz off n=>match h k with
   |some (.row e row l false)=>match xG T t,rq T t with
    |some _,some te=>bif bE T t row.length&&Nat.beq sz row.length&&Nat.beq row.length te.size&&cU row te.zero then
      some {cond:= [off+n<=l.length],res:= .b4 [],ib:= [(k, .row e row (l.take off++List.replicate n (Row.zero row)++l.drop (off+n)) false)]} else none
    |_,_=>none
   |_=>none
 |_=>none
def si(T:cA)(d:Nat)(t:TypeId):AV->AV->Option Out
 | .int k n, .int k' c=>match xG T t,rq T t with
   |some e,some te=>match rowOf T ry e with
    |some row=>bif Nat.beq row.length te.size&&Nat.blt 0 te.size&&cU row te.zero then
     some {cond:= [0<=n/\n<=c/\c<=140737488355328/te.bytes],res:= .own d,new:= [(d, .row e row (List.replicate n.toNat (Row.zero row)) false)]} else none
    |none=>none
   |_,_=>none
 |_,_=>none
abbrev bh:=List AV->Option (Prop×AV×List AB)
structure b9 where
 pre:Prop
 res:AV
 heap:List (Option AB)
 new:List AB
abbrev bq:=List AV->List AB->Option b9
structure Env where
 T:cA
 sig:Nat->Option bh
 mP:Nat->Option GD:=fun _=>none
 lq:Nat->Option (List Bool×bq):=fun _=>none
 gS:Nat->Bool:=fun _=>false
 cls:Nat->Option Nat:=fun _=>none
 spl:Nat->Bool:=fun _=>false
 JW:Nat:=0
mutual
def dM(base:Nat):AV->AV
 | .own k=> .own (base+k)
 | .agg cs=> .agg (pY base cs)
 | .b4 vs=> .b4 (pY base vs)
 |a=>a
def pY(base:Nat):List AV->List AV
 | []=> []
 |a::aK=>dM base a::pY base aK
end
def fC(base:Nat):List AB->List (Nat×AB)
 | []=> []
 |b::bs=>(base,b)::fC (base+1) bs
def mA(d:Nat):Nat:=100000+100*d
mutual
def AV.eS:AV->Bool
 | .int _ _| .bool _| .tt| .ff| .str _| .undef| .own _| .nil=>true
 | .agg cs=>Az cs
 | .b4 vs=>Az vs
 |_=>false
def Az:List AV->Bool
 | []=>true
 |a::aK=>a.eS&&Az aK
end
def E8:AV->Bool
 | .fn (.func _) [] []=>true
 |_=>false
mutual
def jv(n:Nat):AV->Bool
 | .own k=>Nat.blt k n
 | .agg cs=>AA n cs
 | .b4 vs=>AA n vs
 | .ia _ cs=>cs.all E8
 | .dz| .pre _ _| .view _ _ _ _| .ref _ _| .elem _ _ _ _| .fn _ _ _| .gR _ _ _| .qd _ _=>false
 |_=>true
def AA(n:Nat):List AV->Bool
 | []=>true
 |a::aK=>jv n a&&AA n aK
end
def iR:List AB->Bool
 | []=>true
 | .row _ _ _ false ::r=>iR r
 |_=>false
def EF:Ty->Bool
 | .slice _=>false
 |_=>true
def dD:List AB->Bool
 | []=>true
 | .row _ row _ _::r=>row.all EF&&dD r
 |_=>false
def mQ(E:Env)(h:bg)(d:Nat)(f:Nat)(args:List AV):Option Out:=match E.sig f with
 |some s=>match s (kv h args).1 with
  |some (pre,res,bs)=>bif Nat.ble bs.length 100&&jv bs.length res&&iR bs then some {cond:= [pre],res:=dM (mA d) res,ib:=bif res.eS&&dD bs then [] else cJ h (kv h args).2,new:=fC (mA d) bs} else none
  |none=>none
 |none=>none
def AD(b:Bool):AV->AV->AV
 | .int k n, .int k' m=>if k=k' then .int k (bif b then n else m) else .dz
 | .str s, .str u=> .str (bif b then s else u)
 | .sl r l, .sl r' m=>match fu r' r m with
   |some m'=> .sl r (bif b then l else m')
   |none=> .dz
 | .sl r l, .nil=> .sl r (bif b then l else [])
 | .nil, .sl r l=> .sl r (bif b then [] else l)
 | .nil, .nil=> .nil
 | .jM, .jM=> .jM
 | .own k, .own k'=>bif Nat.beq k k' then .own k else .dz
 |x,y=>match rv x,rv y with
  |some p,some q=> .bool (bif b then p else q)
  |_,_=> .dz
def nJ(b:Bool):List AV->List AV->List AV
 |x::xs,y::ys=>AD b x y::nJ b xs ys
 |_,_=> []
def AE(b:Bool):AV->AV->AV
 | .agg xs, .agg ys=>bif Nat.beq xs.length ys.length then .agg (nJ b xs ys) else .dz
 | .b4 xs, .b4 ys=>bif Nat.beq xs.length ys.length then .b4 (nJ b xs ys) else .dz
 |x,y=>AD b x y
def AF(b:Bool):Option AB->Option AB->Option AB
 |some (.cells xs),some (.cells ys)=>bif Nat.beq xs.length ys.length then some (.cells (nJ b xs ys)) else none
 |some (.row e r l fr),some (.row e' r' m Cg)=>match fu r' r m with
  |some m'=>bif Nat.beq e e'&&(fr==Cg) then some (.row e r (bif b then l else m') fr) else none
  |none=>none
 |_,_=>none
def AG:List AV->Option (IntKind×List Int)
 | []=>none
 |a::r=>match a with
  | .int k n=>match r with
    | []=>some (k,[n])
    |_::_=>match AG r with
     |some (k',l)=>if k=k' then some (k,n::l) else none
     |none=>none
  |_=>none
def every(sz j:Nat):Nat->List AV->List AV
 |0,_=> []
 |n+1,cs=>cs.getD j .dz::every sz j n (cs.drop sz)
def AH(sz k:Nat)(cs:List AV)(n:Int):Nat->Option (List AV)
 |0=>some []
 |m+1=>match AH sz k cs n m,AG (every sz m k cs) with
  |some vs,some (kd,l)=>some (vs++ [.int kd (l.getD n.toNat 0)])
  |_,_=>none
def E9(T:cA)(t:TypeId):Option (Nat×TE):=match T.find t with
 |some te=>match te.desc with
  | .array k e=>match T.find e with
    |some ee=>some (k,ee)
    |none=>none
  |_=>none
 |none=>none
def tO(T:cA)(t:TypeId)(cs:List AV)(n:Int):Option Out:=match E9 T t with
 |some (k,ee)=>bif Nat.beq cs.length (k*ee.size) then match AH ee.size k cs n ee.size with
  |some vs=>bif ee.desc.kQ then some {cond:= [0<=n/\n<(k:Int)],res:= .agg vs} else match vs with
   | [a]=>some {cond:= [0<=n/\n<(k:Int)],res:=a}
   |_=>none
  |none=>none
  else none
 |none=>none
def pB(k:Nat):Bool:=Nat.ble 50000 k&&Nat.blt k 60000
def fresh(h:bg)(k:Nat):Bool:=match h k with
 |none=> !(pB k)
 |some _=>false
def tP(n:Int):List Int->Prop
 | []=>True
 |k::r=>n≠k/\tP n r
def Fa(n:Int):List Int->Bool
 | []=>false
 |k::r=>decide (n=k) || Fa n r
def jx:List Int->Bool
 | []=>true
 |k::r=> !Fa k r&&jx r
def zp:TypeDesc->Bool
 | .int .i64=>true
 |_=>false
def Si:Value->Bool
 | .nilFunc=>true
 |_=>false
def zq(T:cA)(JW:Nat)(t:TypeId)(ok:Bool)(ks:List Int)(cs:List AV)(n:Int):Option Out:=match T.find t with
 |some te=>match te.desc with
  | .map kt et=>bif dW T kt zp&&jx ks then
      (match ks[JW]?,cs[JW]? with
      |some k,some c=>some {cond:= [n=k],res:=bif ok then .b4 [c, .tt] else c}
      |_,_=>match T.find et with
       |some ee=>bif Si ee.zero then some {cond:= [tP n ks],res:=bif ok then .b4 [.kq, .ff] else .kq} else none
       |none=>none)
    else none
  |_=>none
 |none=>none
def di(E:Env)(st:St)(o:Oper):Option Out:=
 let T:=E.T
 let h:=st.h
 let ρ:=ev st
 match o.op with
 | .move x| .assign x=>some {cond:= [],res:=ρ x}
 | .pick c a b=>match ρ c with
   | .tt=>some {cond:= [],res:=ρ a}
   | .ff=>some {cond:= [],res:=ρ b}
   | .bool p=>some {cond:= [],res:=AE p (ρ a) (ρ b)}
   |_=>none
 | .alloc t=>match T.find t,o.dst with
   |some te,some d=>bif Nat.ble te.size 40 then(bif (ofConst te.zero).cells.all AV.one then some {cond:= [],res:= .ref (st.kb+d) 0,new:= [(st.kb+d, .cells (fI (st.kb+d) (ofConst te.zero).cells))]} else none) else none
   |_,_=>none
 | .box _ x=>match o.dst with
   |some d=>bif (ρ x).cells.all AV.one then some {cond:= [],res:= .ref (st.kb+d) 0,new:= [(st.kb+d, .cells (fI (st.kb+d) (ρ x).cells))]} else none
   |none=>none
 | .build t parts=>Cf T t (parts.toList.map fun p=>(p.1,ρ p.2))
 | .buildSlice t len parts=>match o.dst with
   |some d=>bif fresh h (st.kb+d) then iQ T h (st.kb+d) t len (parts.toList.map fun p=>(p.1,ρ p.2)) else none
   |none=>none
 | .load t p=>oG T h t (ρ p)
 | .store t p v=>iP T h t (ρ p) (ρ v)
 | .nilCheck x=>match ρ x with
   | .ref k off=>some {cond:= [],res:= .ref k off}
   | .gR r x j=>some {cond:= [],res:= .gR r x j}
   | .elem k sz i j=>some {cond:= [],res:= .elem k sz i j}
   | .fn (.func f) first bB=>some {cond:= [],res:= .fn (.func f) first bB}
   |_=>none
 | .binOp op t x y _=>M7 T t op (ρ x) (ρ y)
 | .unOp op _ x=>Sh op (ρ x)
 | .convert s d x=>mz T h s d (ρ x)
 | .makeFunc f first bB=>some {cond:= [],res:= .fn f (first.toList.map ρ) (bB.toList.map ρ)}
 | .makeSlice t l c=>match o.dst with
   |some d=>bif fresh h (st.kb+d) then si T (st.kb+d) t (ρ l) (ρ c) else none
   |none=>none
 | .slice t x lo hi mx=>pX T h t (ρ x) (lo.map ρ) (hi.map ρ) (mx.map ρ)
 | .fieldAddr s x f=>sh T s f (ρ x)
 | .field s x f=>match Ax T s f,ρ x with
   |some (ft,off), .agg cs=>match T.find ft with
    |some te=>match pick te cs off with
     |some a=>some {cond:= [],res:=a}
     |none=>none
    |none=>none
   |_,_=>none
 | .indexAddr t x i=>qe T h t (ann i) (ρ x) (ρ i)
 | .index t x i=>match ρ x,ρ i with
   | .str s, .int _ n=>bif dW T t pA then some {cond:= [0<=n/\n<(s.length:Int)],res:= .int .u8 ((s.getD n.toNat 0).toNat:Int)} else none
   | .agg cs, .int _ n=>tO T t cs n
   |_,_=>none
 | .extract x i=>match ρ x with
   | .b4 vs=>match vs[i]? with
     |some a=>some {cond:= [],res:=a}
     |none=>none
   |_=>none
 | .lookup t x i ok=>match ρ x,ρ i with
   | .ia ks cs, .int .i64 n=>zq T E.JW t ok ks cs n
   |_,_=>none
 | .call c=>match c.callee with
   | .builtin b=>match b,c.args.toList,c.argTypes.toList with
     | .len,[x],[t]=>match Ce h (ρ x) with
       |some n=>bif (bif tN (ρ x) then dW T t ik else dW T t pA) then some {cond:= [],res:= .int .i64 n} else none
       |none=>none
     | .append,[s,x],[t,t']=>match o.dst with
       |some d=>bif fresh h (st.kb+d) then nH T h (st.kb+d) t t' (ρ s) (ρ x) else none
       |none=>none
     | .copy,[s,x],[t,t']=>oH T h t t' (ρ s) (ρ x)
     | .clear,[x],[t]=>nI T h t (ρ x)
     | .min,[x,y],_=>match ρ x,ρ y with
       | .int k n, .int k' m=>if k=k' then some {cond:= [],res:= .int k (min n m)} else none
       |_,_=>none
     | .max,[x,y],_=>match ρ x,ρ y with
       | .int k n, .int k' m=>if k=k' then some {cond:= [],res:= .int k (max n m)} else none
       |_,_=>none
     |_,_,_=>none
   | .value f=>match ρ f,o.dst with
     | .fn (.func f) first bB,some d=>mQ E h (st.kb+d) f (first++(c.args.toList.map ρ)++bB)
     | .fn (.func f) first bB,none=>mQ E h st.kb f (first++(c.args.toList.map ρ)++bB)
     |_,_=>none
   |_=>none
 |_=>none
def jy(h:bg):List (Nat×AB)->Bool
 | []=>true
 |(k,_)::r=>(match h k with|none=> !(pB k)|some _=>false)&&jy h r
def mR(new:List (Nat×AB))(a:AV):AV:=match new with
 | []=>a
 |(k,_)::r=>mR r (dX k a)
def c6(new:List (Nat×AB))(a:AB):AB:=match new with
 | []=>a
 |(k,_)::r=>c6 r (oh k a)
def aw(l:List (Nat×AB))(k:Nat):Option AB:=match l with
 | []=>none
 |(j,b)::r=>bif Nat.beq k j then some b else aw r k
def aI(l:List Nat)(k:Nat):Bool:=match l with
 | []=>false
 |j::r=>Nat.beq k j || aI r k
def vG(out:Out)(k:Nat)(b:AB):AB:=bif aI out.raw k then b else c6 out.new b
def Fb(h:bg)(out:Out):bg:=fun k=>match aw out.new k with
 |some b=>some b
 |none=>bif aI out.del k then none else match aw out.ib k with
  |some b=>some (vG out k b)
  |none=>match h k with
   |some b=>some (c6 out.new b)
   |none=>none
def St.put(st:St)(d:Option Nat)(out:Out):St:=
 {st with
  t:=match d with
   |some d=>fun i=>bif Nat.beq i d then out.res else mR out.new (st.t i)
   |none=>fun i=>mR out.new (st.t i)
  h:=Fb st.h out
  cm:=out.ib.map (·.1)++(out.del++(out.new.map (·.1)++st.cm))
  news:=st.news++out.new.map fun x=> .one x.1
  Df:=out.del++st.Df}
def Dh:List Prop->Prop
 | []=>True
 | [p]=>p
 |p::ps=>p/\Dh ps
end Go.Vg

end
section
namespace Go.Vg
open Go
def E2 {α:Type}(R:List Value->α->Prop):List Value->List α->Prop
 |cs,[]=>cs= []
 |cs,x::l=>∃c1 c2,cs=c1++c2/\R c1 x/\E2 R c2 l
mutual
def Rd(w:World)(A:Nat->Prop):(t:Ty)->Value->D t->Prop
 | .int k,v,x=>v= .int k (DI.toInt k x)/\lo k<=DI.toInt k x/\DI.toInt k x<=hi k
 | .bool,v,b=>v= .bool b
 | .str,v,s=>v= .string ⟨s.toArray⟩/\s.length<=maxLen
 | .slice row,v,l=>∃a cap cs,v= .slice a l.length cap/\l.length<=cap/\cap<=maxLen/\E2 (bC w A row) cs l/\
     (cs≠ []->∃b o,a=some ⟨b,o,none⟩/\A b/\w.rangeAt b o cs)
def bC(w:World)(A:Nat->Prop):(ts:List Ty)->List Value->Row ts->Prop
 | [],vs,_=>vs= []
 |t::ts,vs,x=>∃v cg,vs=v::cg/\Rd w A t v (Row.hd x)/\bC w A ts cg (Row.tl x)
end
mutual
def aa(w:World)(A:Nat->Prop)(β:Nat->Value):Value->AV->Prop
 |_, .dz=>True
 |v, .undef=>v=undef
 |v, .int k n=>v= .int k n/\lo k<=n/\n<=hi k
 |v, .bool b=>v= .bool b
 |v, .tt=>v= .bool true
 |v, .ff=>v= .bool false
 |v, .str s=>v= .string ⟨s.toArray⟩/\s.length<=maxLen
 |v, .nil=>v= .slice none 0 0
 |v, .jM=>v= .pointer none
 |v, .kq=>v= .nilFunc
 |v, .sl row l=>Rd w A (.slice row) v l
 |v, .full row l=>Rd w A (.slice row) v l/\∃a,v= .slice a l.length l.length
 |v, .gR row x j=>∃b o cs,v= .pointer (some ⟨b,o+j,none⟩)/\A b/\w.rangeAt b o cs/\bC w A row cs x
 |v, .qd row l=>∃b o cs,v= .pointer (some ⟨b,o,none⟩)/\A b/\w.rangeAt b o cs/\E2 (bC w A row) cs l
 |v, .own k=>v=β k/\v.oneCell'=true
 |v, .pre k n=>(β k= .slice none 0 0/\v= .slice none 0 0/\n=0)\/
    ∃b m cap,β k= .slice (some ⟨b,0,none⟩) m cap/\v= .slice (some ⟨b,0,none⟩) n cap/\n<=m
 |v, .view k sz off n=>(n=0/\∃a cap,v= .slice a 0 cap/\cap<=maxLen)\/
    ∃b m cap iS,β k= .slice (some ⟨b,0,none⟩) m cap/\v= .slice (some ⟨b,off*sz,none⟩) n iS/\n<=iS/\off+iS<=cap/\off+n<=m
 |v, .ref k off=>∃b,β k= .pointer (some ⟨b,0,none⟩)/\v= .pointer (some ⟨b,off,none⟩)
 |v, .elem k sz i j=>∃b m cap,β k= .slice (some ⟨b,0,none⟩) m cap/\v= .pointer (some ⟨b,i*sz+j,none⟩)
 |v, .agg cs=>∃arr:Array Value,v= .agg arr/\ai w A β arr.toList cs
 |v, .b4 vs=>∃arr:Array Value,v= .tuple arr/\ai w A β arr.toList vs
 |v, .pw _ l=>∃b,v= .bool b/\(b=true->l= [])
 |v, .fn f first bB=>∃a1 a2:Array Value,v= .func f a1 a2/\ai w A β a1.toList first/\ai w A β a2.toList bB
 |v, .ia ks cs=>∃(b:Nat) (es:Array MapEntry) (clock:Nat),v= .map (some b)/\A b/\w.heap[b]? =some (.map es clock)/\es.toList.map (·.key)=ks.map (Value.int .i64)/\ai w A β (es.toList.map (·.val)) cs
def ai(w:World)(A:Nat->Prop)(β:Nat->Value):List Value->List AV->Prop
 |vs,[]=>vs= []
 |vs,a::aK=>∃v cg,vs=v::cg/\aa w A β v a/\ai w A β cg aK
end
def aA:Value->Option Nat
 | .pointer (some a)=>some a.block
 | .slice (some a) _ _=>some a.block
 |_=>none
def BR(w:World)(A:Nat->Prop)(β:Nat->Value)(k:Nat):AB->Prop
 | .cells cs=>∃b arr e,β k= .pointer (some ⟨b,0,none⟩)/\w.heap[b]? =some (.cells arr e (0,0))/\¬A b/\
     ai w A β arr.toList cs/\∀v∈arr.toList,v.oneCell'=true
 | .row e row l fr=>∃xs,w.ownsRow 0 e row.length (β k) l.length xs/\E2 (bC w A row) xs l/\
     ∀b,aA (β k)=some b->if fr then A b else ¬A b
 | .arr row l=>∃b arr e,β k= .pointer (some ⟨b,0,none⟩)/\w.heap[b]? =some (.cells arr e (0,0))/\¬A b/\E2 (bC w A row) arr.toList l
 | .gS e j row l i=>∃xs v0,w.ownsRow 0 e row.length (β k) l.length xs/\(∀b,aA (β k)=some b->¬A b)/\E2 (bC w A row) (xs.set (i*row.length+(row.length-1)) v0) l/\
     ∀j',j=some j'->xs[i*row.length+(row.length-1)]? =some (β j')
 | .views e j n m sz=>∃xs,w.ownsRow 0 e 1 (β k) n xs/\(∀b,aA (β k)=some b->¬A b)/\
     ∀j',j=some j'->∀i,i<m->∃v,xs[i]? =some v/\aa w A β v (.view j' 1 (i*sz) sz)
def pe(w:World)(A:Nat->Prop)(i:Nat)(d:GD):Prop :=A i/\∃cs,w.rangeAt i 0 cs/\E2 (bC w A d.row) cs d.l
structure Ctx where
 w0:World
 A0:Nat->Prop
 M0:Nat->Prop
 G:Nat->Option GD
 AI:Nat->Value
structure Fr (C:Ctx) (w:World):Prop where
 os:w.os=C.w0.os
 tape:w.tape=C.w0.tape
 output:w.output=C.w0.output
 size:C.w0.heap.size<=w.heap.size
 block:∀b,b<C.w0.heap.size->¬C.M0 b->w.heap[b]? =C.w0.heap[b]?
structure aF (C:Ctx) (A:Nat->Prop) (β:Nat->Value) (st:St) (a:Act) (w:World):Prop where
 defers:a.defers= []
 size:a.tmps.size=st.n
 tmps:∀i,aa w A β (a.tmps.getD i undef) (st.t i)
 blocks:∀k ab,st.h k=some ab->BR w A β k ab
 apart:∀k k' b,(st.h k).isSome->(st.h k').isSome->aA (β k)=some b->aA (β k')=some b->k=k'
 bound:∀b,A b->b<w.heap.size
 frame:Fr C w
 lx:∀b,b<C.w0.heap.size->A b->C.A0 b\/C.M0 b
 base:∀b,C.A0 b->A b
 oI:∀k b,(st.h k).isSome->aA (β k)=some b->C.w0.heap.size<=b\/C.M0 b
 sk:∀i d,st.g i=some d->C.G i=some d
 laid:∀i d,C.G i=some d->pe w A i d
 held:∀k,pB k=true->β k=C.AI k
def Rel(C:Ctx)(st:St)(a:Act)(w:World):Prop :=∃A β,aF C A β st a w
theorem om {w w':World} {b o:Nat} {cs:List Value}(h:w'.heap[b]? =w.heap[b]?)(hr:w.rangeAt b o cs):w'.rangeAt b o cs:=by
 intro j v hj;have :=hr j v hj;grind[World.cell?_of_block]
theorem bX {α:Type} {R R':List Value->α->Prop}(h:∀c x,R c x->R' c x):∀(l:List α) (cs:List Value),E2 R cs l->E2 R' cs l
 | [],_,hr=>hr
 |_::l,_,⟨c1,c2,hc,h1,h2⟩=>⟨c1,c2,hc,h _ _ h1,bX h l c2 h2⟩
def dg(w w':World)(A A':Nat->Prop):Prop :=∀b,A b->A' b/\w'.heap[b]? =w.heap[b]?
mutual
theorem AJ {w w':World} {A A':Nat->Prop}(h:dg w w' A A'):∀(t:Ty) (v:Value) (x:D t),Rd w A t v x->Rd w' A' t v x
 | .int _,_,_,hr=>by simpa only [Rd] using hr
 | .bool,_,_,hr=>by simpa only [Rd] using hr
 | .str,_,_,hr=>by simpa only [Rd] using hr
 | .slice row,v,l,hr=>by
   simp only [Rd] at hr |-;obtain⟨a,cap,cs,h1,h2,h3,h4,h5⟩:=hr;refine⟨a,cap,cs,h1,h2,h3,bX (fun c x hx=>bY h row c x hx) l cs h4,fun dR=> ?_⟩;obtain⟨b,o,ha,hA,hra⟩:=h5 dR;exact⟨b,o,ha,(h b hA).1,om (h b hA).2 hra⟩
theorem bY {w w':World} {A A':Nat->Prop}(h:dg w w' A A'):∀(ts:List Ty) (vs:List Value) (x:Row ts),bC w A ts vs x->bC w' A' ts vs x
 | [],_,_,hr=>by simpa only [bC] using hr
 |t::ts,vs,x,hr=>by
  simp only [bC] at hr |-;obtain⟨v,cg,h1,h2,h3⟩:=hr;exact⟨v,cg,h1,AJ h t v _ h2,bY h ts cg _ h3⟩
end
theorem pe.mono {w w':World} {A A':Nat->Prop} {i:Nat} {d:GD}(hd:pe w A i d)(h:dg w w' A A'):pe w' A' i d:=by
 obtain⟨h1,cs,h2,h3⟩:=hd;exact⟨(h i h1).1,cs,om (h i h1).2 h2,bX (fun c x hx=>bY h _ _ _ hx) _ _ h3⟩
mutual
theorem jo {w w':World} {A A':Nat->Prop} {β:Nat->Value}(h:dg w w' A A'):∀(a:AV) (v:Value),aa w A β v a->aa w' A' β v a
 | .dz,_,hr=>by simp [aa]
 | .undef,_,hr=>by simpa only [aa] using hr
 | .int _ _,_,hr=>by simpa only [aa] using hr
 | .bool _,_,hr=>by simpa only [aa] using hr
 | .tt,_,hr=>by simpa only [aa] using hr
 | .ff,_,hr=>by simpa only [aa] using hr
 | .str _,_,hr=>by simpa only [aa] using hr
 | .nil,_,hr=>by simpa only [aa] using hr
 | .jM,_,hr=>by simpa only [aa] using hr
 | .pw _ _,_,hr=>by simpa only [aa] using hr
 | .kq,_,hr=>by simpa only [aa] using hr
 | .sl row l,v,hr=>by
   simp only [aa] at hr |-;exact AJ h _ _ _ hr
 | .full row l,v,hr=>by
   simp only [aa] at hr |-;exact⟨AJ h _ _ _ hr.1,hr.2⟩
 | .gR row x j,v,hr=>by
   simp only [aa] at hr |-;obtain⟨b,o,cs,h1,h2,h3,h4⟩:=hr;exact⟨b,o,cs,h1,(h b h2).1,om (h b h2).2 h3,bY h _ _ _ h4⟩
 | .qd row l,v,hr=>by
   simp only [aa] at hr |-;obtain⟨b,o,cs,h1,h2,h3,h4⟩:=hr;exact⟨b,o,cs,h1,(h b h2).1,om (h b h2).2 h3,bX (fun c x hx=>bY h _ _ _ hx) _ _ h4⟩
 | .own _,_,hr=>by simpa only [aa] using hr
 | .pre _ _,_,hr=>by simpa only [aa] using hr
 | .view _ _ _ _,_,hr=>by simpa only [aa] using hr
 | .ref _ _,_,hr=>by simpa only [aa] using hr
 | .elem _ _ _ _,_,hr=>by simpa only [aa] using hr
 | .agg cs,v,hr=>by
   simp only [aa] at hr |-;obtain⟨arr,h1,h2⟩:=hr;exact⟨arr,h1,e7 h cs _ h2⟩
 | .b4 cs,v,hr=>by
   simp only [aa] at hr |-;obtain⟨arr,h1,h2⟩:=hr;exact⟨arr,h1,e7 h cs _ h2⟩
 | .fn f first bB,v,hr=>by
   simp only [aa] at hr |-;obtain⟨a1,a2,h1,h2,h3⟩:=hr;exact⟨a1,a2,h1,e7 h first _ h2,e7 h bB _ h3⟩
 | .ia ks cs,v,hr=>by
   simp only [aa] at hr |-;obtain⟨b,es,ck,h1,h2,h3,h4,h5⟩:=hr;exact⟨b,es,ck,h1,(h b h2).1,(h b h2).2.trans h3,h4,e7 h cs _ h5⟩
theorem e7 {w w':World} {A A':Nat->Prop} {β:Nat->Value}(h:dg w w' A A'):∀(aK:List AV) (vs:List Value),ai w A β vs aK->ai w' A' β vs aK
 | [],_,hr=>by simpa only [ai] using hr
 |a::aK,vs,hr=>by
  simp only [ai] at hr |-;obtain⟨v,cg,h1,h2,h3⟩:=hr;exact⟨v,cg,h1,jo h a v h2,e7 h aK cg h3⟩
end
theorem bc {k d:Nat}(h:¬k=d):Nat.beq k d=false :=by
 grind[Nat.eq_of_beq_eq_true]
theorem bZ(k:Nat):Nat.beq k k=true :=Nat.beq_refl k
def b5(β:Nat->Value)(d:Nat)(v:Value):Nat->Value:=fun k=>if k=d then v else β k
mutual
theorem tQ {w:World} {A:Nat->Prop} {β:Nat->Value}(d:Nat)(u:Value):∀(a:AV) (v:Value),aa w A β v a->aa w A (b5 β d u) v (dX d a)
 | .dz,_,hr=>by simp [dX,aa]
 | .undef,_,hr=>by simpa only [dX,aa] using hr
 | .int _ _,_,hr=>by simpa only [dX,aa] using hr
 | .bool _,_,hr=>by simpa only [dX,aa] using hr
 | .tt,_,hr=>by simpa only [dX,aa] using hr
 | .ff,_,hr=>by simpa only [dX,aa] using hr
 | .str _,_,hr=>by simpa only [dX,aa] using hr
 | .nil,_,hr=>by simpa only [dX,aa] using hr
 | .jM,_,hr=>by simpa only [dX,aa] using hr
 | .pw _ _,_,hr=>by simpa only [dX,aa] using hr
 | .kq,_,hr=>by simpa only [dX,aa] using hr
 | .sl _ _,_,hr=>by simpa only [dX,aa] using hr
 | .full _ _,_,hr=>by simpa only [dX,aa] using hr
 | .gR _ _ _,_,hr=>by simpa only [dX,aa] using hr
 | .qd _ _,_,hr=>by simpa only [dX,aa] using hr
 | .own k,v,hr=>by
   simp only [dX];by_cases hk:k=d
   . subst hk;simp [aa]
   . have :Nat.beq k d=false :=bc hk;simp only [this,P!];simpa only [aa,b5,T! hk] using hr
 | .pre k n,v,hr=>by
   simp only [dX];by_cases hk:k=d
   . subst hk;simp [aa]
   . have :Nat.beq k d=false :=bc hk;simp only [this,P!];simpa only [aa,b5,T! hk] using hr
 | .view k sz off n,v,hr=>by
   simp only [dX];by_cases hk:k=d
   . subst hk;simp [aa]
   . have :Nat.beq k d=false :=bc hk;simp only [this,P!];simpa only [aa,b5,T! hk] using hr
 | .ref k off,v,hr=>by
   simp only [dX];by_cases hk:k=d
   . subst hk;simp [aa]
   . have :Nat.beq k d=false :=bc hk;simp only [this,P!];simpa only [aa,b5,T! hk] using hr
 | .elem k sz i j,v,hr=>by
   simp only [dX];by_cases hk:k=d
   . subst hk;simp [aa]
   . have :Nat.beq k d=false :=bc hk;simp only [this,P!];simpa only [aa,b5,T! hk] using hr
 | .agg cs,v,hr=>by
   simp only [dX,aa] at hr |-;obtain⟨arr,h1,h2⟩:=hr;exact⟨arr,h1,gI d u cs _ h2⟩
 | .b4 cs,v,hr=>by
   simp only [dX,aa] at hr |-;obtain⟨arr,h1,h2⟩:=hr;exact⟨arr,h1,gI d u cs _ h2⟩
 | .fn f first bB,v,hr=>by
   simp only [dX,aa] at hr |-;obtain⟨a1,a2,h1,h2,h3⟩:=hr;exact⟨a1,a2,h1,gI d u first _ h2,gI d u bB _ h3⟩
 | .ia ks cs,v,hr=>by
   simp only [dX,aa] at hr |-;obtain⟨b,es,ck,h1,h2,h3,h4,h5⟩:=hr;exact⟨b,es,ck,h1,h2,h3,h4,gI d u cs _ h5⟩
theorem gI {w:World} {A:Nat->Prop} {β:Nat->Value}(d:Nat)(u:Value):∀(aK:List AV) (vs:List Value),ai w A β vs aK->ai w A (b5 β d u) vs (fI d aK)
 | [],_,hr=>by simpa only [fI,ai] using hr
 |a::aK,vs,hr=>by
  simp only [fI,ai] at hr |-;obtain⟨v,cg,h1,h2,h3⟩:=hr;exact⟨v,cg,h1,tQ d u a v h2,gI d u aK cg h3⟩
end
theorem Sj {w:World} {A:Nat->Prop} {β aO:Nat->Value}(h:∀k,aO k=β k) {v:Value} {a:AV}(hr:aa w A β v a):aa w A aO v a:=by
 simp_all[funext]
theorem yI {w:World} {A:Nat->Prop}:∀(new:List (Nat×AB)) (β aO:Nat->Value) (v:Value) (a:AV),(∀k,aw new k=none->aO k=β k)->aa w A β v a->aa w A aO v (mR new a)
 | [],β,aO,v,a,h,hr=>by
   grind[mR,Sj,aw]
 |(d,b)::r,β,aO,v,a,h,hr=>by
  refine yI r (b5 β d (aO d)) aO v (dX d a) (fun k hk=> ?_) (tQ d (aO d) a v hr);by_cases M8:k=d
  . grind[b5]
  simp_all[b5,T!,aw,bc,P!]
def sK(new:List (Nat×AB))(cs:List AV):List AV:=match new with
 | []=>cs
 |(k,_)::r=>sK r (fI k cs)
theorem adC {w:World} {A:Nat->Prop}:∀(new:List (Nat×AB)) (β aO:Nat->Value) (vs:List Value) (aK:List AV),(∀k,aw new k=none->aO k=β k)->ai w A β vs aK->ai w A aO vs (sK new aK)
 | [],β,aO,v,a,h,hr=>by
   simp_all[sK,funext,aw]
 |(d,b)::r,β,aO,v,a,h,hr=>by
  refine adC r (b5 β d (aO d)) aO v (fI d a) (fun k hk=> ?_) (gI d (aO d) a v hr);by_cases M8:k=d
  . grind[b5]
  simp_all[b5,T!,aw,bc,P!]
theorem vI:∀(new:List (Nat×AB)) (cs:List AV),c6 new (.cells cs)= .cells (sK new cs)
 | [],_=>rfl
 |(k,_)::r,cs=>by simp [c6,oh,sK,vI r]
theorem abK:∀(new:List (Nat×AB)) (e:Nat) (row:List Ty) (l:List (Row row)) (fr:Bool),c6 new (.row e row l fr)= .row e row l fr
 | [],_,_,_,_=>rfl
 |(k,_)::r,e,row,l,fr=>by simp [c6,oh,abK r]
theorem AK:∀(new:List (Nat×AB)) (row:List Ty) (l:List (Row row)),c6 new (.arr row l)= .arr row l
 | [],_,_=>rfl
 |(k,_)::r,row,l=>by simp [c6,oh,AK r]
def lF(new:List (Nat×AB))(j:Option Nat):Option Nat:=match new with
 | []=>j
 |(k,_)::r=>lF r (rp k j)
theorem vJ:∀(new:List (Nat×AB)) (e:Nat) (j:Option Nat) (n m sz:Nat),c6 new (.views e j n m sz)= .views e (lF new j) n m sz
 | [],_,_,_,_,_=>rfl
 |(k,_)::r,e,j,n,m,sz=>by simp [c6,oh,lF,vJ r]
theorem AL:∀(new:List (Nat×AB)) (e:Nat) (j:Option Nat) (row:List Ty) (l:List (Row row)) (i:Nat),c6 new (.gS e j row l i)= .gS e (lF new j) row l i
 | [],_,_,_,_,_=>rfl
 |(k,_)::r,e,j,row,l,i=>by simp [c6,oh,lF,AL r]
theorem sm:∀(new:List (Nat×AB)),lF new none=none
 | []=>rfl
 |(k,_)::r=>by simp [lF,rp,sm r]
theorem sn:∀(new:List (Nat×AB)) (j:Option Nat) (j':Nat),lF new j=some j'->j=some j'/\aw new j'=none
 | [],j,j',h=>⟨h,rfl⟩
 |(k,_)::r,none,j',h=>by grind[sm]
 |(k,_)::r,some i,j',h=>by
  simp [lF,rp] at h;cases hb:Nat.beq i k with
  |true=>simp_all[K!,sm]
  |false=>
   rw [hb] at h;obtain⟨h1,h2⟩:=sn r (some i) j' h;simp at h1;subst h1;exact⟨rfl,by simp_all[aw,P!]⟩
theorem vK {w w':World} {A A':Nat->Prop} {β aO:Nat->Value} {v:Value} {j sz off n:Nat}(h:aO j=β j)(hr:aa w A β v (.view j sz off n)):aa w' A' aO v (.view j sz off n):=by
 grind[aa]
theorem gJ {w w':World} {e size n:Nat} {v:Value} {xs:List Value}(h:w.ownsRow 0 e size v n xs)(hb:∀b,aA v=some b->w'.heap[b]? =w.heap[b]?):w'.ownsRow 0 e size v n xs:=by
 refine⟨h.1,?_⟩;rcases h.2 with hn|⟨g,cap,cur,rfl,h0,hg,rest⟩
 . grind
 . refine .inr ⟨g,cap,cur,rfl,h0,?_,rest⟩;rw [hb g rfl];omega
theorem vL {w w':World} {A A':Nat->Prop} {β aO:Nat->Value} {new:List (Nat×AB)} {k:Nat} {ab:AB}(cB:∀k,aw new k=none->aO k=β k)(hk:aO k=β k)
  (hblk:∀b,aA (β k)=some b->w'.heap[b]? =w.heap[b]? /\(A' b->A b)) (hK:dg w w' A A') (h:BR w A β k ab):BR w' A' aO k (c6 new ab):=by
 cases ab with
 |cells cs=>
  rw [vI];obtain⟨b,arr,e,h1,h2,h3,h4,h5⟩:=h;have hb:=hblk b (by rw [h1];rfl);exact⟨b,arr,e,hk.trans h1,hb.1.trans h2,fun hA=>h3 (hb.2 hA),adC new β aO _ _ cB (e7 hK _ _ h4),h5⟩
 |row e row l fr=>
  rw [abK];obtain⟨xs,h1,h2,h3⟩:=h;simp [BR,hk];refine⟨xs,gJ h1 (fun b hb=>(hblk b hb).1),bX (fun c x hx=>bY hK row c x hx) l xs h2,fun b hb=> ?_⟩;have :=h3 b hb;cases fr with
  |true=>exact(hK b this).1
  |false=>grind
 |arr row l=>
  rw [AK];obtain⟨b,arr,e,h1,h2,h3,h4⟩:=h;have hb:=hblk b (by rw [h1];rfl);exact⟨b,arr,e,hk.trans h1,hb.1.trans h2,fun hA=>h3 (hb.2 hA),bX (fun c x hx=>bY hK row c x hx) l _ h4⟩
 |views e j n m sz=>
  rw [vJ];obtain⟨xs,h1,h2,h3⟩:=h;simp [BR,hk];refine⟨xs,gJ h1 (fun b hb=>(hblk b hb).1),fun b hb hA=>h2 b hb ((hblk b hb).2 hA),fun j' eY i hi=> ?_⟩;obtain⟨hj,dN⟩:=sn new j j' eY;grind[vK]
 |gS e j row l i=>
  grind[AL,BR,gJ,bX,bY,sn]
def lG(st:St)(out:Out)(k:Nat):Prop :=(st.h k).isSome/\((aw out.ib k).isSome\/aI out.del k=true)
theorem aF.Sk {C:Ctx} {A A':Nat->Prop} {β aO:Nat->Value} {st:St} {a:Act} {w w':World} {out:Out} {d:Option Nat} {v:Value}
  (hB:aF C A β st a w) (hd:∀t,d=some t->t<st.n)
  (Ch:∀k b,aw out.new k=some b->st.h k=none/\pB k=false)
  (Ci:∀k b,aw out.ib k=some b->(st.h k).isSome)
  (cB:∀k,aw out.new k=none->aO k=β k)
  (hK:dg w w' A A')
  (hos:w'.os=w.os) (Sl:w'.tape=w.tape) (rz:w'.output=w.output) (l8:w.heap.size<=w'.heap.size)
  (so:∀b,b<w.heap.size->(∀k,lG st out k->aA (β k)≠some b)->w'.heap[b]? =w.heap[b]?)
  (hbound:∀b,A' b->b<w'.heap.size)
  (hA:∀b,A' b->A b\/w.heap.size<=b\/∃k,lG st out k/\aA (β k)=some b)
  (AM:∀k ab,aw out.ib k=some ab->aI out.del k=false->BR w' A' aO k (vG out k ab))
  (dN:∀k ab,aw out.new k=some ab->BR w' A' aO k ab)
  (vM:∀k b ab,aw out.new k=some ab->aA (aO k)=some b->w.heap.size<=b\/∃k0,aI out.del k0=true/\(st.h k0).isSome/\aA (β k0)=some b)
  (zr:∀k k' b,(aw out.new k).isSome->(aw out.new k').isSome->aA (aO k)=some b->aA (aO k')=some b->k=k')
  (sL:aa w' A' aO v out.res):aF C A' aO (st.put d out) (a.put d v) w':=by
 have fP:∀k b,(st.h k).isSome->aA (β k)=some b->b<w.heap.size:=by
  intro k b hk hb;obtain⟨ab,gv⟩:=O!.1 hk;have gw:=hB.blocks k ab gv;cases ab with
  |arr row l=>
   obtain⟨b',arr,e,h1,h2,_⟩:=gw;grind[aA,Option.some.injEq,Array.getElem?_eq_some_iff]
  |cells cs=>
   obtain⟨b',arr,e,h1,h2,_⟩:=gw;grind[aA,Option.some.injEq,Array.getElem?_eq_some_iff]
  |row e row l fr=>
   obtain⟨xs,h1,_⟩:=gw;rcases h1.2 with⟨hn,_⟩|⟨g,cap,cur,hv,_,hg,_⟩
   . grind[aA]
   grind[aA,Option.some.injEq,Array.getElem?_eq_some_iff]
  |gS e j row l i=>
   obtain⟨xs,v0,h1,_⟩:=gw;rcases h1.2 with⟨hn,_⟩|⟨g,cap,cur,hv,_,hg,_⟩
   . rw [hn] at hb;simp [aA] at hb
   . rw [hv] at hb;simp only [aA,A!] at hb;subst hb;exact(G?.1 hg).1
  |views e j n m sz=>
   obtain⟨xs,h1,_⟩:=gw;rcases h1.2 with⟨hn,_⟩|⟨g,cap,cur,hv,_,hg,_⟩
   . rw [hn] at hb;simp [aA] at hb
   . rw [hv] at hb;simp only [aA,A!] at hb;subst hb;exact(G?.1 hg).1
 have ado:∀k Cj,(st.put d out).h k=some Cj->(∃ab,aw out.new k=some ab/\ab=Cj)\/(aw out.new k=none/\aI out.del k=false/\
   ((∃ab,aw out.ib k=some ab/\Cj=vG out k ab)\/(aw out.ib k=none/\∃ab,st.h k=some ab/\Cj=c6 out.new ab))):=by
  intro k Cj hk;simp only [St.put,Fb] at hk;cases hn:aw out.new k with
  |some ab=>simp only [hn,A!] at hk;exact .inl ⟨ab,rfl,hk⟩
  |none=>
   simp only [hn] at hk;cases axG:aI out.del k with
   |true=>simp [axG] at hk
   |false=>
    simp only [axG,P!] at hk;cases hu:aw out.ib k with
    |some ab=>simp only [hu,A!] at hk;exact .inr ⟨rfl,rfl, .inl ⟨ab,rfl,hk.symm⟩⟩
    |none=>
     simp only [hu] at hk;cases hs:st.h k with
     |none=>simp [hs] at hk
     |some ab=>simp only [hs,A!] at hk;exact .inr ⟨rfl,rfl, .inr ⟨rfl,ab,rfl,hk.symm⟩⟩
 have fQ:∀k,((st.put d out).h k).isSome->(aw out.new k).isSome\/(aw out.new k=none/\aI out.del k=false/\(st.h k).isSome):=by
  intro k hk;obtain⟨Cj,aGJ⟩:=O!.1 hk;rcases ado k Cj aGJ with⟨ab,h,_⟩|⟨h1,h2,⟨ab,h,_⟩|⟨_,ab,h,_⟩⟩
  . exact .inl (by simp [h])
  . exact .inr ⟨h1,h2,Ci k ab h⟩
  . exact .inr ⟨h1,h2,by simp [h]⟩
 have axH:∀v a,aa w A β v a->aa w' A' aO v (mR out.new a):=fun v a h=>yI out.new β aO v a cB (jo hK a v h)
 refine⟨?_,?_,?_,?_,?_,hbound,?_,?_,?_,?_,hB.sk,fun i d hd=>(hB.laid i d hd).mono hK,fun k hk=>by
  rw [cB k (by
   cases hn:aw out.new k with
   |none=>rfl
   |some ab=>rw [(Ch k ab hn).2] at hk;cases hk)]
  exact hB.held k hk⟩
 . cases d<;>exact hB.defers
 . cases d with
   |none=>exact hB.size
   |some t=>show(a.put (some t) v).tmps.size=st.n;simp [Act.put,hB.size]
 . intro i;cases d with
   |none=>exact axH _ _ (hB.tmps i)
   |some t=>
    have ht:=hd t rfl;simp only [St.put,Act.put];by_cases hi:i=t
    . subst hi;simp only [bZ,K!];rw [K?,Array.getElem?_setIfInBounds_self_of_lt (by rw [hB.size];exact ht)];exact sL
    . simp only [bc hi,P!];have :=axH _ _ (hB.tmps i);rw [K?,Array.getElem?_setIfInBounds_ne (fun h=>hi h.symm),<-K?];exact this
 . intro k Cj hk;rcases ado k Cj hk with⟨ab,h,rfl⟩|⟨h1,h2,⟨ab,h,rfl⟩|⟨h3,ab,h,rfl⟩⟩
   . exact dN k _ h
   . exact AM k ab h h2
   . have zt:=hB.blocks k ab h;refine vL cB (cB k h1) (fun b hb=> ?_) hK zt
     have hnt:∀k',lG st out k'->aA (β k')≠some b:=by
      intro k' ht bS;have :k'=k:=hB.apart k' k b ht.1 (by simp [h]) bS hb;subst this;rcases ht.2 with hu|hu
      . simp [h3] at hu
      . simp [h2] at hu
     refine⟨so b (fP k b (by simp [h]) hb) hnt,fun Fc=> ?_⟩;rcases hA b Fc with hh|hh|⟨k',ht,bS⟩
     . exact hh
     . exact absurd (fP k b (by simp [h]) hb) (by omega)
     . exact absurd bS (hnt k' ht)
 . intro k k' b hk dJ hb bS;rcases fQ k hk with h1|⟨h1,h2,h3⟩<;>rcases fQ k' dJ with g1|⟨g1,g2,g3⟩
   . exact zr k k' b h1 g1 hb bS
   . obtain⟨ab,gv⟩:=O!.1 h1;rw [cB k' g1] at bS;rcases vM k b ab gv hb with hh|⟨k0,hd0,M9,Eg⟩
     . exact absurd (fP k' b g3 bS) (by omega)
     . have :k0=k':=hB.apart k0 k' b M9 g3 Eg bS;subst this;rw [hd0] at g2;cases g2
   . obtain⟨ab,gv⟩:=O!.1 g1;rw [cB k h1] at hb;rcases vM k' b ab gv bS with hh|⟨k0,hd0,M9,Eg⟩
     . exact absurd (fP k b h3 hb) (by omega)
     . have :k0=k:=hB.apart k0 k b M9 h3 Eg hb;subst this;rw [hd0] at h2;cases h2
   . rw [cB k h1] at hb;rw [cB k' g1] at bS;exact hB.apart k k' b h3 g3 hb bS
 . refine⟨hos.trans hB.frame.os,Sl.trans hB.frame.tape,rz.trans hB.frame.output,p? hB.frame.size l8,fun b hb hM=> ?_⟩;rw [so b (Y? hb hB.frame.size) (fun k ht zt=> ?_)]
   . exact hB.frame.block b hb hM
   . rcases hB.oI k b ht.1 zt with h|h
     . omega
     . exact hM h
 . intro b hb Fc;rcases hA b Fc with hh|hh|⟨k,ht,zt⟩
   . exact hB.lx b hb hh
   . exact absurd hB.frame.size (by omega)
   . rcases hB.oI k b ht.1 zt with h|h
     . omega
     . exact .inr h
 . exact fun b hb=>(hK b (hB.base b hb)).1
 . intro k b hk hb;rcases fQ k hk with h1|⟨h1,h2,h3⟩
   . obtain⟨ab,gv⟩:=O!.1 h1;rcases vM k b ab gv hb with hh|⟨k0,hd0,M9,Eg⟩
     . exact .inl (p? hB.frame.size hh)
     . exact hB.oI k0 b M9 Eg
   . rw [cB k h1] at hb;exact hB.oI k b h3 hb
theorem aF.step {C:Ctx} {A A':Nat->Prop} {β aO:Nat->Value} {st:St} {a:Act} {w w':World} {out:Out} {d:Option Nat} {v:Value}
  (hB:aF C A β st a w) (hd:∀t,d=some t->t<st.n)
  (Ch:∀k b,aw out.new k=some b->st.h k=none/\pB k=false)
  (Ci:∀k b,aw out.ib k=some b->(st.h k).isSome)
  (cB:∀k,aw out.new k=none->aO k=β k)
  (hK:dg w w' A A')
  (hos:w'.os=w.os) (Sl:w'.tape=w.tape) (rz:w'.output=w.output) (l8:w.heap.size<=w'.heap.size)
  (so:∀b,b<w.heap.size->(∀k,lG st out k->aA (β k)≠some b)->w'.heap[b]? =w.heap[b]?)
  (hbound:∀b,A' b->b<w'.heap.size)
  (hA:∀b,A' b->A b\/w.heap.size<=b\/∃k,lG st out k/\aA (β k)=some b)
  (AM:∀k ab,aw out.ib k=some ab->aI out.del k=false->BR w' A' aO k (c6 out.new ab))
  (dN:∀k ab,aw out.new k=some ab->BR w' A' aO k ab)
  (vM:∀k b ab,aw out.new k=some ab->aA (aO k)=some b->w.heap.size<=b\/∃k0,aI out.del k0=true/\(st.h k0).isSome/\aA (β k0)=some b)
  (zr:∀k k' b,(aw out.new k).isSome->(aw out.new k').isSome->aA (aO k)=some b->aA (aO k')=some b->k=k')
  (sL:aa w' A' aO v out.res) (hr:out.raw= []:=by rfl):aF C A' aO (st.put d out) (a.put d v) w':=
 hB.Sk hd Ch Ci cB hK hos Sl rz l8 so hbound hA (fun k ab h1 h2=>by
  grind[vG,c6,aI]) dN vM zr sL
end Go.Vg

end
section
namespace Go.Vg
open Go
def Sm(P:Program)(t:TypeId):TypeDesc->Prop
 | .struct fs=>P.stoodInHeld t=false/\P.eqGuardType P.depth t=false/\(fs.toList.all fun f=>f.name != "_")=true
 |_=>True
structure bO (T:cA) (P:Program):Prop where
 ok:∀t te,T.find t=some te->P.underlying t=some te.desc/\∃i,P.info? t=some i/\i.size=te.size/\i.bytes=te.bytes/\i.zero=some te.zero
 held:∀t te,T.find t=some te->Sm P t te.desc
section
variable {P:Program} {C:Ctx} {A:Nat->Prop} {β:Nat->Value} {st:St} {a:Act} {w:World}
theorem dj {o:Oper} {K:Act->World->Prop} {Q:Exit->Act->World->Prop} {v:Value} {w':World}(h:(execOp a.eval o).run P w= .ok (.value v) w')(hk:K (a.put o.dst v) w'):o.wp P a w K Q:=by
 unfold Oper.wp;rw [h];exact hk
theorem sM {o:Oper} {K:Act->World->Prop} {Q:Exit->Act->World->Prop} {w':World}(h:(execOp a.eval o).run P w= .ok .skip w')(hk:K (a.put o.dst undef) w'):o.wp P a w K Q:=by
 unfold Oper.wp;rw [h];exact hk
theorem Di(v:Value):aa w A β v (tM v):=by
 unfold tM;split
 . split
   . rename_i h;simp only [aa];exact⟨trivial,h⟩
   . simp [aa]
 . split
   . rename_i h;simp [aa,h]
   . rename_i h;simp [aa,h]
 . rename_i s;cases hb:Nat.ble s.data.toList.length 1000000 with
   |false=>simp [aa]
   |true=>
    have :=Nat.le_of_ble_eq_true hb;simp only [cond_true,aa];refine⟨by simp,?_⟩;unfold maxLen;omega
 . simp [aa]
 . simp [aa]
 . simp [aa]
 . simp [aa]
theorem Dj(f:Value->AV)(hf:∀v,aa w A β v (f v)):∀(vs:List Value),ai w A β vs (vs.map f)
 | []=>by simp [ai]
 |v::vs=>by
  simp only [T?,ai];exact⟨v,vs,rfl,hf v,Dj f hf vs⟩
theorem tR(v:Value):aa w A β v (ofConst v):=by
 unfold ofConst;split
 . rename_i cs;simp only [aa];exact⟨cs,rfl,Dj tM Di cs.toList⟩
 . exact Di v
theorem bl(hB:aF C A β st a w)(x:Operand):aa w A β (a.eval x) (ev st x):=by
 cases x with
 |tmp i=>exact hB.tmps i
 |const v=>exact tR v
 |global g=>
  simp only [ev,Act.eval];cases hg:st.g g with
  |none=>simp [aa]
  |some d=>
   obtain⟨h1,cs,h2,h3⟩:=hB.laid g d (hB.sk g d hg);simp only [aa];exact⟨g,0,cs,rfl,h1,h2,h3⟩
 |func f=>
  simp only [ev,aa,Act.eval];exact⟨#[], #[],rfl,by simp [ai],by simp [ai]⟩
theorem dg.refl(w:World)(A:Nat->Prop):dg w w A A:=fun _ h=>⟨h,rfl⟩
theorem aF.pure(hB:aF C A β st a w) {d:Option Nat}(hd:∀t,d=some t->t<st.n) {c:List Prop} {r:AV} {v:Value}(h:aa w A β v r):
  aF C A β (st.put d {cond:=c,res:=r}) (a.put d v) w:=
 hB.step (out:= {cond:=c,res:=r}) hd (by simp [aw]) (by simp [aw]) (fun _ _=>rfl) (dg.refl w A) rfl rfl rfl (N! _) (fun _ _ _=>rfl) hB.bound
  (fun b h=> .inl h) (by simp [aw]) (by simp [aw]) (by simp [aw]) (by simp [aw]) h
theorem Rel.ly {A:Nat->Prop} {β:Nat->Value}(h:aF C A β st a w):Rel C st a w:=⟨A,β,h⟩
theorem tS(b:Bool) {v:Value}:∀(x y:AV),(if b then aa w A β v x else aa w A β v y)->aa w A β v (AD b x y):=by
 intro x y h
 have hb:∀x y p q,rv x=some p->rv y=some q->(if b then aa w A β v x else aa w A β v y)->aa w A β v (.bool (bif b then p else q)):=by
  intro x y p q hx hy h;cases b<;>cases x<;>simp_all [rv,aa]<;>cases y<;>simp_all [aa]
 unfold AD;split
 . split
   . cases b<;>simp_all [aa]
   . simp [aa]
 . cases b<;>simp_all [aa]
 . rename_i r l r' m;cases hc:fu r' r m with
   |none=>simp [aa]
   |some m'=>
    simp only [fu] at hc;split at hc
    . rename_i yw;have :=Ty.ku _ _ yw;subst this;simp only [A!] at hc;subst hc;cases b<;>simp_all
    . cases hc
 . cases b with
   |true=>simpa using h
   |false=>
    simp only [aa,B?,Z?] at h;simp only [aa,Rd,P!];exact⟨none,0,[],by simpa using h,by simp,by simp,by simp [E2],by simp⟩
 . cases b with
   |false=>simpa using h
   |true=>
    simp only [aa,H?] at h;simp only [aa,Rd,K!];exact⟨none,0,[],by simpa using h,by simp,by simp,by simp [E2],by simp⟩
 . cases b<;>simp_all
 . cases b<;>simp_all
 . rename_i k k';cases hk:Nat.beq k k' with
   |false=>simp [aa]
   |true=>
    have :=E! hk;subst this;cases b<;>simp_all
 . split;next p q hx hy=>exact hb _ _ _ _ hx hy h
   next=>simp [aa]
theorem dA:∀(aK:List AV) (vs:List Value),ai w A β vs aK->vs.length=aK.length
 | [],vs,h=>by simp only [ai] at h;simp [h]
 |a::aK,vs,h=>by
  simp only [ai] at h;obtain⟨v,cg,rfl,_,h2⟩:=h;simp [dA aK cg h2]
theorem iE(b:Bool):∀(xs ys:List AV) (vs:List Value),xs.length=ys.length->(if b then ai w A β vs xs else ai w A β vs ys)->ai w A β vs (nJ b xs ys)
 | [],[],vs,_,h=>by simpa [nJ] using h
 |x::xs,y::ys,vs,hl,h=>by
  simp only [nJ,ai];cases b with
  |true=>
   simp only [H?,ai] at h;obtain⟨v,cg,rfl,h1,h2⟩:=h;exact⟨v,cg,rfl,tS true x y (by simpa using h1),iE true xs ys cg (by simpa using hl) (by simpa using h2)⟩
  |false=>
   simp only [B?,Z?,ai] at h;obtain⟨v,cg,rfl,h1,h2⟩:=h;exact⟨v,cg,rfl,tS false x y (by simpa using h1),iE false xs ys cg (by simpa using hl) (by simpa using h2)⟩
 | [],_::_,_,hl,_=>by simp at hl
 |_::_,[],_,hl,_=>by simp at hl
theorem yJ(b:Bool) {v:Value}(x y:AV)(h:if b then aa w A β v x else aa w A β v y):aa w A β v (AE b x y):=by
 unfold AE;split
 . rename_i xs ys;cases hl:Nat.beq xs.length ys.length with
   |false=>simp [aa]
   |true=>
    have hl:=E! hl;simp only [K!,aa];cases b with
    |true=>
     simp only [H?,aa] at h;obtain⟨arr,h1,h2⟩:=h;exact⟨arr,h1,iE true xs ys _ hl (by simpa using h2)⟩
    |false=>
     simp only [B?,Z?,aa] at h;obtain⟨arr,h1,h2⟩:=h;exact⟨arr,h1,iE false xs ys _ hl (by simpa using h2)⟩
 . rename_i xs ys;cases hl:Nat.beq xs.length ys.length with
   |false=>simp [aa]
   |true=>
    have hl:=E! hl;simp only [K!,aa];cases b with
    |true=>
     simp only [H?,aa] at h;obtain⟨arr,h1,h2⟩:=h;exact⟨arr,h1,iE true xs ys _ hl (by simpa using h2)⟩
    |false=>
     simp only [B?,Z?,aa] at h;obtain⟨arr,h1,h2⟩:=h;exact⟨arr,h1,iE false xs ys _ hl (by simpa using h2)⟩
 . exact tS b x y h
end
end Go.Vg

end
section
namespace Go.Vg
open Go
section
variable {P:Program} {C:Ctx} {A:Nat->Prop} {β:Nat->Value} {st:St} {a:Act} {w:World} {T:cA}
theorem gK:∀(ts:List Ty) (vs:List Value) (x:Row ts),bC w A ts vs x->vs.length=ts.length
 | [],vs,_,h=>by grind[bC]
 |t::ts,vs,x,h=>by
  obtain⟨v,cg,rfl,_,h2⟩:=h;simp [gK ts cg _ h2]
theorem fp {row:List Ty}:∀(l:List (Row row)) (cs:List Value),E2 (bC w A row) cs l->cs.length=l.length*row.length
 | [],cs,h=>by grind[E2]
 |x::l,cs,⟨c1,c2,hc,h1,h2⟩=>by
  subst hc;simp [gK row c1 x h1,fp l c2 h2,h?,Nat.add_comm]
theorem qf {row:List Ty}:∀(l:List (Row row)) (cs:List Value) (i:Nat) (hi:i<l.length),E2 (bC w A row) cs l->
  ∃c1 c c2,cs=c1++(c++c2)/\c1.length=i*row.length/\bC w A row c l[i]/\E2 (bC w A row) c1 (l.take i)/\E2 (bC w A row) c2 (l.drop (i+1))
 | [],_,_,hi,_=>by grind
 |x::l,cs,0,_,⟨c1,c2,hc,h1,h2⟩=>⟨[],c1,c2,by grind,by simp,by grind,by rfl,by grind⟩
 |x::l,cs,i+1,hi,⟨c1,c2,hc,h1,h2⟩=>by
  obtain⟨d1,d,d2,e1,e2,e3,e4,e5⟩:=qf l c2 i (by grind) h2;subst hc;subst e1;exact⟨c1++d1,d,d2,by simp,by grind[gK,Nat.add_mul,Nat.add_comm],by simpa using e3,⟨c1,d1,rfl,h1,e4⟩,by simpa using e5⟩
theorem iq {α:Type} {R:List Value->α->Prop}:∀(l m:List α) (cs ds:List Value),E2 R cs l->E2 R ds m->E2 R (cs++ds) (l++m)
 | [],m,cs,ds,h,h'=>by grind[E2]
 |x::l,m,cs,ds,⟨c1,c2,hc,h1,h2⟩,h'=>by
  subst hc;exact⟨c1,c2++ds,by simp,h1,iq l m c2 ds h2 h'⟩
theorem eM {row:List Ty}:∀(l:List (Row row)) (cs:List Value) (i:Nat),E2 (bC w A row) cs l->
  E2 (bC w A row) (cs.take (i*row.length)) (l.take i)/\E2 (bC w A row) (cs.drop (i*row.length)) (l.drop i)
 | [],cs,i,h=>by grind[E2]
 |x::l,cs,0,h=>by grind[E2]
 |x::l,cs,i+1,⟨c1,c2,hc,h1,h2⟩=>by
  subst hc;have hl:=gK row c1 x h1;have ih:=eM l c2 i h2;have e:(i+1)*row.length=c1.length+i*row.length:=by grind
  rw [e];refine⟨⟨c1,c2.take (i*row.length),?_,h1,ih.1⟩,?_⟩
  . grind
  . rw [List.drop_length_add_append];grind
theorem tT {b o:Nat} {c1 c c2:List Value}(h:w.rangeAt b o (c1++(c++c2))):w.rangeAt b (o+c1.length) c:=by
 intro j v hj
 have :=h (c1.length+j) v (by
  grind)
 grind
theorem oq {b o n:Nat} {cs:List Value}(h:w.rangeAt b o cs):w.rangeAt b (o+n) (cs.drop n):=by
 intro j v hj;have :=h (n+j) v (by grind);grind
theorem iF {b o n:Nat} {cs:List Value}(h:w.rangeAt b o cs):w.rangeAt b o (cs.take n):=by
 intro j v hj;refine h j v ?_;grind
theorem Pv:∀(t:Ty) (v:Value) (x:D t),Rd w A t v x->aa w A β v (Av t x)
 | .int k,v,x,h=>by grind[Av,aa,Rd]
 | .bool,v,x,h=>by grind[Av,aa,Rd]
 | .str,v,x,h=>by grind[Av,aa,Rd]
 | .slice row,v,x,h=>by grind[Av,aa]
theorem kz:∀(ts:List Ty) (vs:List Value) (x:Row ts),bC w A ts vs x->ai w A β vs (gh ts x)
 | [],vs,_,h=>by grind[gh,ai,bC]
 |t::ts,vs,x,h=>by
  obtain⟨v,cg,rfl,h1,h2⟩:=h;exact⟨v,cg,rfl,Pv t v _ h1,kz ts cg _ h2⟩
theorem mS:∀(ts:List Ty) (x:Row ts),(gh ts x).length=ts.length
 | [],_=>rfl
 |t::ts,x=>by simp [gh,mS ts]
theorem gM:∀(aK:List AV) (vs:List Value) (n:Nat),ai w A β vs aK->ai w A β (vs.take n) (aK.take n)/\ai w A β (vs.drop n) (aK.drop n)
 | [],vs,n,h=>by grind[ai]
 |a::aK,vs,0,h=>by grind[ai]
 |a::aK,vs,n+1,h=>by
  obtain⟨v,cg,rfl,h1,h2⟩:=h;have ih:=gM aK cg n h2;exact⟨⟨v,_,rfl,h1,ih.1⟩,ih.2⟩
theorem rA:∀(aK:List AV) (vs:List Value) (i:Nat) (r:AV),ai w A β vs aK->aK[i]? =some r->∃v,vs[i]? =some v/\aa w A β v r
 | [],vs,i,r,h,hr=>by grind
 |a::aK,vs,0,r,h,hr=>by
  grind[ai]
 |a::aK,vs,i+1,r,h,hr=>by
  obtain⟨v,cg,rfl,h1,h2⟩:=h;obtain⟨u,hu,nz⟩:=rA aK cg i r h2 (by simpa using hr);exact⟨u,by simpa using hu,nz⟩
theorem JY(d:TypeDesc):d.kQ=d.isRow:=by rfl
theorem l9(hT:bO T P) {t:TypeId} {te:TE}(ht:T.find t=some te) {cs:List Value} {aK:List AV}(hrel:ai w A β cs aK) {off:Nat} {r:AV}(hp:pick te aK off=some r)
  {b o:Nat} (hr:w.rangeAt b o cs):∃v,(Instr.loadAt t (.pointer (some ⟨b,o+off,none⟩))).run P w= .ok v w/\aa w A β v r:=by
 obtain⟨hu,i,hi,hs,_,_⟩:=hT.ok t te ht;unfold pick at hp;cases Ku:te.desc.kQ with
 |true=>
  simp [Ku,K!] at hp;cases hle:Nat.ble (off+te.size) aK.length with
  |false=>grind
  |true=>
   have hle:=M! hle;simp [hle,Nat.ble_eq_true_of_le,K!,A!] at hp;subst hp;have hlen:=dA aK cs hrel;refine⟨.agg ((cs.drop off).take te.size).toArray,?_,?_⟩
   . refine run_loadAt_mid w b (o+off) t ((cs.drop off).take te.size) te.desc (iF (oq hr)) hu (by grind[JY]) ?_;grind
   . exact⟨_,rfl,by simp_all[gM]⟩
 |false=>
  simp [Ku,P!] at hp;obtain⟨v,hv,hrv⟩:=rA aK cs off r hrel hp;have hc:=hr off v hv
  have hia:(isAgg t).run P w= .ok false w:=by
   unfold isAgg;rw [Sem.run_bind,run_underlying hu w];cases hd:te.desc<;>simp_all [TypeDesc.kQ]
  simp_all[Instr.loadAt,Instr.sureAddr,loadVar]
theorem e8(hT:bO T P) {t:TypeId} {n:Nat}(h:bE T t n=true):∃e i,P.underlying t=some (.slice e)/\P.info? e=some i/\i.size=n/\0<n:=by
 unfold bE rq at h;cases ht:T.find t with
 |none=>grind
 |some te=>
  simp [ht] at h;cases hd:te.desc with
  |slice e=>
   simp [hd] at h;cases he:T.find e with
   |none=>grind
   |some ee=>
    simp only [he,B!] at h;obtain⟨_,i,hi,hs,_⟩:=hT.ok e ee he;exact⟨e,i,by rw [(hT.ok t te ht).1,hd],hi,hs.trans (E! h.1),by simp_all⟩
  |_=>grind
theorem jz {t:TypeId} {e:TypeId} {i:TypeInfo}(hu:P.underlying t=some (.slice e))(hi:P.info? e=some i)(b o len cap:Nat)(k:IntKind)(n:Int)(h0:0<=n)(h1:n<(len:Int)):
  (Instr.indexAt t (.slice (some ⟨b,o,none⟩) len cap) (.int k n)).run P w= .ok (.pointer (some ⟨b,o+n.toNat*i.size,none⟩)) w:=by
 simp [Instr.indexAt,asIntOf,run_underlying hu,sizeOf,typeInfo,hi,h0,h1,Addr.add_mid]
theorem Kv(hT:bO T P) {t:TypeId} {n sz:Nat}(h:E5 T t=some (n,sz)):∃e i,P.underlying t=some (.array n e)/\P.info? e=some i/\i.size=sz:=by
 unfold E5 at h;split at h
 . rename_i te lz;obtain⟨hu,_⟩:=hT.ok t te lz;split at h
   . rename_i k e hd;split at h
     . rename_i ee qg;obtain⟨_,i,hi,hs,_⟩:=hT.ok e ee qg;grind
     grind
   grind
 grind
theorem yK {t:TypeId} {e:TypeId} {i:TypeInfo} {len:Nat}(hu:P.underlying t=some (.array len e))(hi:P.info? e=some i)(b o:Nat)(k:IntKind)(n:Int)(h0:0<=n)(h1:n<(len:Int)):
  (Instr.indexAt t (.pointer (some ⟨b,o,none⟩)) (.int k n)).run P w= .ok (.pointer (some ⟨b,o+n.toNat*i.size,none⟩)) w:=by
 simp [Instr.indexAt,Instr.sureAddr,asIntOf,run_underlying hu,sizeOf,typeInfo,hi,h0,h1,Addr.add_mid]
theorem vN:∀(xs ys:List AV) (us vs:List Value),ai w A β us xs->ai w A β vs ys->ai w A β (us++vs) (xs++ys)
 | [],ys,us,vs,h,g=>by
   grind[ai]
 |a::aK,ys,us,vs,h,g=>by
  obtain⟨v,zu,rfl,h1,h2⟩:=h;exact⟨v,zu++vs,rfl,h1,vN aK ys zu vs h2 g⟩
theorem Kw(row:List Ty):∀(l:List (Row row)) (cs:List Value),E2 (bC w A row) cs l->ai w A β cs (l.flatMap (gh row))
 | [],cs,h=>by grind[E2,ai]
 |x::l,cs,⟨c1,c2,hc,h1,h2⟩=>by
  subst hc;exact vN _ _ _ _ (kz row c1 x h1) (Kw row l c2 h2)
theorem getD_eq {α:Type}(l:List α)(i:Nat)(d:α)(h:i<l.length):l.getD i d=l[i]:=by
 grind
theorem Kx(row:List Ty)(l:List (Row row))(v:Value)(n:Int)(hR:Rd w A (.slice row) v l)(h0:0<=n)(h1:n<(l.length:Int)):
  row≠ []->∃b o cap,v= .slice (some ⟨b,o,none⟩) l.length cap/\aa w A β (.pointer (some ⟨b,o+n.toNat*row.length,none⟩)) (.gR row (l.getD n.toNat (Row.zero row)) 0):=by
 intro j7;obtain⟨a,cap,cs,hv,_,_,hL,dy⟩:=hR;have hn:n.toNat<l.length:=by omega
 obtain⟨c1,c,c2,e1,e2,e3,_,_⟩:=qf l cs n.toNat hn hL;have hc:=gK row c _ e3
 have dR:cs≠ []:=by
  intro h;rw [h] at e1;have :=congrArg List.length e1;simp at this;exact j7 (Y! (by omega))
 obtain⟨b,o,ha,hA,hra⟩:=dy dR;refine⟨b,o,cap,by rw [hv,ha],?_⟩;refine⟨b,o+n.toNat*row.length,c,by simp,hA,?_,?_⟩
 . rw [e1] at hra;have :=tT hra;rwa [e2] at this
 . rw [getD_eq l _ _ hn];exact e3
theorem rB(T:cA)(h:bg)(t:TypeId)(n:Option Int)(x y:AV):qe T h t n x y=e6 T h t x y:=by
 unfold qe;grind[e6,Kt]
theorem eC {x:Prop} {l:List Prop}(h:∀p∈(x::l),p):x:=h _ (List.Mem.head _)
theorem axI {x y:Prop} {l:List Prop}(h:∀p∈(x::y::l),p):y:=h _ (List.Mem.tail _ (List.Mem.head _))
def Out.quiet(out:Out):Prop :=out.ib= []/\out.del= []/\out.new= []
theorem aF.quiet(hB:aF C A β st a w) {d:Option Nat}(hd:∀t,d=some t->t<st.n) {out:Out}(hq:out.quiet) {v:Value}(h:aa w A β v out.res):
  aF C A β (st.put d out) (a.put d v) w:=by
 obtain⟨c,r,u,dl,nw,rw'⟩:=out;obtain⟨h1,h2,h3⟩:=hq;subst h1 h2 h3;exact hB.pure (c:=c) hd h
def Reads(P:Program)(A:Nat->Prop)(β:Nat->Value)(w:World)(s:Sem Value)(out:Out):Prop :=out.quiet/\∃v,s.run P w= .ok v w/\aa w A β v out.res
theorem e9(hB:aF C A β st a w) {k e:Nat} {row:List Ty} {l:List (Row row)} {fr:Bool}(h:st.h k=some (.row e row l fr)):
  (β k= .slice none 0 0/\l= [])\/∃b cap cur,β k= .slice (some ⟨b,0,none⟩) l.length cap/\w.heap[b]? =some (.cells cur e (0,0))/\l.length<=cap/\cap<=maxLen/\cur.size=cap*row.length/\
    E2 (bC w A row) (cur.toList.take (l.length*row.length)) l/\(if fr then A b else ¬A b):=by
 obtain⟨xs,h1,h2,h3⟩:=hB.blocks k _ h;rcases h1.2 with⟨hv,hn⟩|⟨g,cap,cur,hv,_,hg,h4,h5,h6,h7⟩
 . grind
 . exact .inr ⟨g,cap,cur,hv,hg,h4,h5,h6,by grind,h3 g (by rw [hv];rfl)⟩
theorem Ck(hT:bO T P)(hB:aF C A β st a w) {t:TypeId} {x i:AV} {vx vi:Value}(hx:aa w A β vx x)(hi:aa w A β vi i) {out:Out}
  (h:e6 T st.h t x i=some out) (hc:∀p∈out.cond,p):Reads P A β w (Instr.indexAt t vx vi) out:=by
 unfold e6 at h;split at h
 . rename_i row l k n;cases hs:bE T t row.length with
   |false=>grind
   |true=>
    simp only [hs,cond_true,Option.some.injEq] at h;subst h;obtain⟨h0,h1⟩:=eC hc;obtain⟨e,ii,hu,iJ,cZ,iT⟩:=e8 hT hs;simp only [aa] at hx hi;obtain⟨b,o,cap,hv,hr⟩:=Kx (β:=β) row l vx n hx h0 h1 (by grind);refine⟨⟨rfl,rfl,rfl⟩,_,?_,hr⟩;grind[jz]
 . rename_i row l k n;cases hs:bE T t row.length with
   |false=>grind
   |true=>
    simp only [hs,cond_true,Option.some.injEq] at h;subst h;obtain⟨h0,h1⟩:=eC hc;obtain⟨e,ii,hu,iJ,cZ,iT⟩:=e8 hT hs;simp only [aa] at hx hi;obtain⟨b,o,cap,hv,hr⟩:=Kx (β:=β) row l vx n hx.1 h0 h1 (by grind);refine⟨⟨rfl,rfl,rfl⟩,_,?_,hr⟩;grind[jz]
 . rename_i k kk n;split at h
   . rename_i e' row l fr hk;cases hs:bE T t row.length with
     |false=>grind
     |true=>
      simp only [hs,K!,A!] at h;subst h;obtain⟨h0,h1⟩:=eC hc;obtain⟨e,ii,hu,iJ,cZ,iT⟩:=e8 hT hs;simp only [aa] at hx hi;rcases e9 hB hk with⟨_,hl⟩|⟨b,cap,cur,hv,_⟩
      . grind
      . refine⟨⟨rfl,rfl,rfl⟩, .pointer (some ⟨b,0+n.toNat*row.length,none⟩),?_,?_⟩
        . simp_all[hi,jz]
        grind[aa]
   grind
 . rename_i k m kk n;split at h
   . rename_i e' row l fr hk;cases hs:bE T t row.length with
     |false=>grind
     |true=>
      simp only [hs,K!,A!] at h;subst h;obtain⟨h0,h1⟩:=eC hc;obtain⟨e,ii,hu,iJ,cZ,iT⟩:=e8 hT hs;simp only [aa] at hx hi;rcases hx with⟨_,_,hl⟩|⟨b,mm,cap,hv,zv,_⟩
      . omega
      . refine⟨⟨rfl,rfl,rfl⟩, .pointer (some ⟨b,0+n.toNat*row.length,none⟩),?_,?_⟩
        . simp_all[hi,jz]
        grind[aa]
   grind
 . rename_i k sz off m kk n;cases hs:bE T t sz with
   |false=>grind
   |true=>
    simp only [hs,K!,A!] at h;subst h;obtain⟨h0,h1⟩:=eC hc;obtain⟨e,ii,hu,iJ,cZ,iT⟩:=e8 hT hs;simp only [aa] at hx hi;rcases hx with⟨hm,_⟩|⟨b,mm,cap,iS,hv,zv,_⟩
    . omega
    . refine⟨⟨rfl,rfl,rfl⟩, .pointer (some ⟨b,off*sz+n.toNat*sz,none⟩),?_,?_⟩
      . grind[jz]
      grind[aa,Nat.add_mul]
 . rename_i row l k n;split at h
   . rename_i m sz ha;cases hb:Nat.beq sz row.length with
     |false=>grind
     |true=>
      rw [hb] at h;simp only [K!,A!] at h;subst h;have hm:=eC hc;have hz:=E! hb;obtain⟨h0,h1⟩:=axI hc;obtain⟨e,ii,hu,iJ,cZ⟩:=Kv hT ha;simp only [aa] at hx hi;obtain⟨b,o,cs,rfl,hA,hr,hL⟩:=hx;have hn:n.toNat<l.length:=by omega
      obtain⟨c1,c,c2,e1,e2,e3,_,_⟩:=qf l cs n.toNat hn hL;refine⟨⟨rfl,rfl,rfl⟩, .pointer (some ⟨b,o+n.toNat*row.length,none⟩),?_,?_⟩
      . grind[yK]
      grind[aa,tT,getD_eq]
   grind
 . rename_i k off kk n;split at h
   . rename_i m sz ha;simp only [A!] at h;subst h;obtain⟨h0,h1⟩:=eC hc;obtain⟨e,ii,hu,iJ,cZ⟩:=Kv hT ha;simp only [aa] at hx hi;obtain⟨b,cB,rfl⟩:=hx;refine⟨⟨rfl,rfl,rfl⟩, .pointer (some ⟨b,off+n.toNat*sz,none⟩),?_,?_⟩
     . rw [hi.1,yK hu iJ b off kk n h0 h1,cZ]
     . simp only [aa];exact⟨b,cB,rfl⟩
   grind
 grind
theorem Dk(hT:bO T P)(hB:aF C A β st a w) {t:TypeId} {x:AV} {vx:Value}(hx:aa w A β vx x) {out:Out}
  (h:oG T st.h t x=some out) (hc:∀p∈out.cond,p):Reads P A β w (Instr.loadAt t vx) out:=by
 unfold oG at h;split at h
 . rename_i row x j;split at h
   . rename_i te ht;split at h
     . rename_i r hp;simp only [A!] at h;subst h;simp only [aa] at hx;obtain⟨b,o,cs,rfl,hA,hr,hv⟩:=hx;obtain⟨v,h1,h2⟩:=l9 (β:=β) hT ht (kz row cs x hv) hp hr;exact⟨⟨rfl,rfl,rfl⟩,v,h1,h2⟩
     grind
   grind
 . rename_i row l;split at h
   . rename_i te ht;split at h
     . rename_i r hp;simp only [A!] at h;subst h;simp only [aa] at hx;obtain⟨b,o,cs,rfl,hA,hr,hv⟩:=hx;obtain⟨v,h1,h2⟩:=l9 (β:=β) hT ht (Kw row l cs hv) hp hr;exact⟨⟨rfl,rfl,rfl⟩,v,by omega,h2⟩
     grind
   grind
 . rename_i k off;split at h
   . rename_i te cs ht hk;split at h
     . rename_i r hp;simp only [A!] at h;subst h;simp only [aa] at hx;obtain⟨b,cB,rfl⟩:=hx;obtain⟨b',arr,e,h1,h2,_,h4,_⟩:=hB.blocks k _ hk;rw [cB] at h1;simp at h1;subst h1
       have hr:w.rangeAt b 0 arr.toList:=fun j v hj=>by
        grind[World.cell?]
       obtain⟨v,g1,g2⟩:=l9 (β:=β) hT ht h4 hp hr;exact⟨⟨rfl,rfl,rfl⟩,v,by grind,g2⟩
     grind
   grind
 . rename_i k sz i j;split at h
   . rename_i te e row l fr ht hk;cases cZ:Nat.beq sz row.length with
     |false=>grind
     |true=>
      have cZ:=E! cZ;subst cZ;simp only [bZ,K!] at h;split at h
      . rename_i r hp;simp only [A!] at h;subst h;have hi:i<l.length:=eC hc;obtain⟨b,m,cap,cB,rfl⟩:=hx;rcases e9 hB hk with⟨_,hl⟩|⟨b',iS,cur,hv,hg,_,_,dy,hL,_⟩
        . grind
        . rw [cB] at hv;simp at hv;obtain⟨hbb,_,_⟩:=hv;subst hbb;obtain⟨c1,c,c2,e1,e2,e3,_,_⟩:=qf l _ i hi hL
          have hr:w.rangeAt b 0 (cur.toList.take (l.length*row.length)):=fun j v hj=>by
           grind[World.cell?]
          rw [e1] at hr;have hr:=tT hr;rw [e2] at hr;rw [getD_eq l _ _ hi] at hp;obtain⟨v,g1,g2⟩:=l9 (β:=β) hT ht (kz row c _ e3) hp hr;exact⟨⟨rfl,rfl,rfl⟩,v,by grind,g2⟩
      grind
   grind
 grind
end
end Go.Vg

end
section
namespace Go.Vg
open Go
section
variable {P:Program} {C:Ctx} {A:Nat->Prop} {β:Nat->Value} {st:St} {a:Act} {w:World} {T:cA}
theorem Dl(hT:bO T P) {s:TypeId} {f:Nat} {ft o:Nat}(h:Ax T s f=some (ft,o)):∃fs fd,P.underlying s=some (.struct fs)/\fs[f]? =some fd/\fd.type=ft/\fd.offset=o:=by
 unfold Ax at h;cases ht:T.find s with
 |none=>grind
 |some te=>
  simp [ht] at h;cases hd:te.desc with
  |struct fs=>
   simp [hd] at h;cases hf:fs[f]? with
   |none=>grind
   |some fd=>
    simp [hf,A!,Prod.mk.injEq] at h;exact⟨fs,fd,by rw [(hT.ok s te ht).1,hd],hf,h.1,h.2⟩
  |_=>grind
theorem Pw(hT:bO T P) {t:TypeId}(h:Ay T t=true):∃i,P.info? t=some i/\i.size≠0:=by
 unfold Ay at h;cases ht:T.find t with
 |none=>grind
 |some te=>
  simp only [ht] at h;obtain⟨_,i,hi,hs,_⟩:=hT.ok t te ht;have :=Nat.le_of_ble_eq_true h;grind
theorem tU {s f:Nat} {fs:Array Field} {fd:Field} {i:TypeInfo}(hu:P.underlying s=some (.struct fs))(hf:fs[f]? =some fd)(hi:P.info? fd.type=some i)(hs:i.size≠0)(b o:Nat):
  (Instr.fieldAt s (.pointer (some ⟨b,o,none⟩)) f).run P w= .ok (.pointer (some ⟨b,o+fd.offset,none⟩)) w:=by
 simp [Instr.fieldAt,run_underlying hu,hf,Instr.sureAddr,fieldPlace,sizeOf,typeInfo,hi,hs,Addr.add_mid]
theorem Cl(hT:bO T P) {s f:Nat} {x:AV} {vx:Value}(hx:aa w A β vx x) {out:Out}
  (h:sh T s f x=some out):Reads P A β w (Instr.fieldAt s vx f) out:=by
 unfold sh at h;split at h
 . rename_i ft o hf;obtain⟨fs,fd,hu,hfd,e1,e2⟩:=Dl hT hf;cases hs:Ay T ft with
   |false=>grind
   |true=>
    simp [hs,K!] at h;obtain⟨i,hi,dR⟩:=Pw hT hs;rw [<-e1] at hi;split at h
    . simp at h;subst h;obtain⟨b,h1,rfl⟩:=hx;refine⟨⟨rfl,rfl,rfl⟩,_,tU hu hfd hi dR b _,?_⟩;grind[aa]
    . simp at h;subst h;obtain⟨b,oo,cs,rfl,h2,h3,h4⟩:=hx;refine⟨⟨rfl,rfl,rfl⟩,_,tU hu hfd hi dR b _,?_⟩;grind[aa,Nat.add_assoc]
    . simp at h;subst h;obtain⟨b,m,cap,h1,rfl⟩:=hx;refine⟨⟨rfl,rfl,rfl⟩,_,tU hu hfd hi dR b _,?_⟩;grind[aa,Nat.add_assoc]
    grind
 grind
theorem sN {t:TypeId} {te:TE}(hT:bO T P)(ht:T.find t=some te) {arr:Array Value} {cs:List AV} {off:Nat} {r:AV}(hrel:ai w A β arr.toList cs)(hp:pick te cs off=some r):
  ∃v,(part t arr off).run P w= .ok v w/\aa w A β v r:=by
 obtain⟨hu,i,hi,hs,_,_⟩:=hT.ok t te ht;unfold pick at hp;cases Ku:te.desc.kQ with
 |true=>
  simp [Ku,K!] at hp;cases hle:Nat.ble (off+te.size) cs.length with
  |false=>grind
  |true=>
   simp [hle,Nat.ble_eq_true_of_le,K!,A!] at hp;subst hp
   have hia:(isAgg t).run P w= .ok true w:=by
    unfold isAgg;rw [Sem.run_bind,run_underlying hu w];cases hd:te.desc<;>simp_all [TypeDesc.kQ]
   refine⟨.agg (arr.extract off (off+te.size)),?_,?_⟩
   . simp_all[part,sizeOf,typeInfo,hi]
   . simp [aa];simp_all[gM,Array.toList_extract,List.extract]
 |false=>
  simp [Ku,P!] at hp;obtain⟨v,hv,hrv⟩:=rA cs _ off r hrel hp
  have hia:(isAgg t).run P w= .ok false w:=by
   unfold isAgg;rw [Sem.run_bind,run_underlying hu w];cases hd:te.desc<;>simp_all [TypeDesc.kQ]
  simp_all[part]
theorem Sn(hB:aF C A β st a w) {x:AV} {vx:Value}(hx:aa w A β vx x) {n:Int}(h:Ce st.h x=some n):
  (∃ad l c,vx= .slice ad l c/\n=(l:Int)/\l<=maxLen)\/(∃s,x= .str s/\n=(s.length:Int)):=by
 unfold Ce at h;grind[Option.some.injEq,aa,Rd,e9,trans,Value.slice.injEq]
theorem vP {k:IntKind} {n:Int}(h:lo k<=n/\n<=hi k):k.wrap n=n:=by
 cases k<;>simp [lo,hi] at h<;>simp [IntKind.wrap,IntKind.signed,IntKind.bits]<;>omega
theorem Sq {k:IntKind} {n c:Int}(h:nC k=some c):k.wrap n=n%c:=by
 cases k<;>simp [nC] at h<;>subst h<;>simp [IntKind.wrap,IntKind.signed,IntKind.bits]
theorem Px {k:IntKind} {n c:Int}(h:nC k=some c):lo k<=n%c/\n%c<=hi k:=by
 cases k<;>simp [nC] at h<;>subst h<;>simp [lo,hi]<;>omega
theorem nK {k:IntKind} {cs:List Prop} {n:Int} {out:Out}(h:ru k cs n=some out)(hc:∀p∈out.cond,p):
  out.quiet/\aa w A β (.int k (k.wrap n)) out.res/\∀p∈cs,p:=by
 unfold ru at h;simp at h;subst h;unfold fit at hc |-;cases hk:nC k with
 |none=>
  refine⟨⟨rfl,rfl,rfl⟩,?_,fun p hp=>hc p (by grind)⟩;simp_all[vP,aa,trivial]
 |some c=>
  refine⟨⟨rfl,rfl,rfl⟩,?_,fun p hp=>hc p (by grind)⟩;simp_all[Sq,aa,trivial,Px]
theorem Cm {op:BinOp} {t:TypeId} {x y:Operand} {k k':IntKind} {n m:Int}:(eqGuard op t x y (.int k n) (.int k' m)).run P w= .ok () w:=by
 simp_all[eqGuard]
theorem Cn {op:BinOp} {t:TypeId} {x y:Operand} {s u:ByteArray}:(eqGuard op t x y (.string s) (.string u)).run P w= .ok () w:=by
 simp_all[eqGuard]
theorem zw {op:BinOp} {t:TypeId} {x y:Operand} {p q:Option Addr} {n m n' m':Nat}:(eqGuard op t x y (.slice p n m) (.slice q n' m')).run P w= .ok () w:=by
 simp_all[eqGuard]
theorem Co(w:World)(d:Nat)(t e:TypeId)(a:Option Addr)(n c n' c':Nat)(h:P.underlying t=some (.slice e)):
  (Op.equalIn (d+1) t (.slice a n c) (.slice none n' c')).run P w= .ok a.isNone w:=by
 cases a<;>simp [Op.equalIn,run_underlying h]
theorem Na(w:World)(t e:TypeId)(a:Option Addr)(n c n' c':Nat)(h:P.underlying t=some (.slice e)):
  (binOp .eql t (.slice a n c) (.slice none n' c')).run P w= .ok (.bool a.isNone) w:=by
 simp_all[binOp,Op.equal,Op.maxDepth,Co]
theorem AN {op:BinOp} {t:TypeId} {x y:Operand} {s u:Bool}:(eqGuard op t x y (.bool s) (.bool u)).run P w= .ok () w:=by
 simp_all[eqGuard]
theorem oJ {k:IntKind} {n:Int}(hr:lo k<=n)(h:∀p∈yH k n,p):0<=n:=by
 unfold yH at h;cases hc:nC k with
 |none=>simp [hc] at h;exact h _ (by simp)
 |some c=>cases k<;>simp [nC] at hc<;>simpa [lo] using hr
def lH:IntKind->Nat
 | .i8=>7| .i16=>15| .i32=>31| .i64=>63| .u8=>8| .u16=>16| .u32=>32| .u64=>64
theorem toNat_lt {k:IntKind} {n:Int}(h0:0<=n)(h:n<=hi k):n.toNat<2^lH k:=by
 cases k<;>simp [hi] at h<;>simp [lH]<;>omega
theorem abl {k:IntKind} {n:Nat}(h:n<2^lH k):lo k<=(n:Int)/\(n:Int)<=hi k:=by
 cases k<;>simp [lH] at h<;>simp [lo,hi]<;>omega
theorem pC {k:IntKind} {n:Int}(h0:0<=n)(h:n<=hi k):(BitVec.ofInt k.bits n).toNat=n.toNat:=by
 cases k<;>simp [hi] at h<;>simp [IntKind.bits]<;>omega
theorem Fe {k:IntKind} {n m:Int}(f:Nat->Nat->Nat)(g:BitVec k.bits->BitVec k.bits->BitVec k.bits)(hfg:∀x y,(g x y).toNat=f x.toNat y.toNat)
  (hf:∀a b,a<2^lH k->b<2^lH k->f a b<2^lH k) (hn:lo k<=n/\n<=hi k) (hm:lo k<=m/\m<=hi k) (h0:0<=n) (h1:0<=m):
  k.wrap ((g (BitVec.ofInt k.bits n) (BitVec.ofInt k.bits m)).toNat:Int)=(f n.toNat m.toNat:Int)/\lo k<=(f n.toNat m.toNat:Int)/\(f n.toNat m.toNat:Int)<=hi k:=by
 rw [hfg,pC h0 hn.2,pC h1 hm.2];have :=abl (hf _ _ (toNat_lt h0 hn.2) (toNat_lt h1 hm.2));exact⟨vP this,this⟩
theorem yL(s:List UInt8):(⟨s.toArray⟩:ByteArray).toList=s:=by
 simp_all
theorem sO(s:List UInt8):(⟨s.toArray⟩:ByteArray).size=s.length:=by rfl
theorem Sr(s u:List UInt8):(⟨s.toArray⟩:ByteArray)++⟨u.toArray⟩=⟨(s++u).toArray⟩:=by
 rfl
theorem Ff {x:AV} {v:Value} {p:Bool}(hx:aa w A β v x)(h:rv x=some p):v= .bool p:=by cases x<;>simp_all [rv,aa]
theorem Ky {d:Nat} {E:TypeId->AV->AV->Option Bool}(hT:bO T P)(hE:∀t x y v u r,aa w A β v x->aa w A β u y->E t x y=some r->(Op.equalIn d t v u).run P w= .ok r w)
  {arr brr:Array Value} {xs ys:List AV} (hx:ai w A β arr.toList xs) (hy:ai w A β brr.toList ys):∀(fs:List Field) (r:Bool),(fs.all fun f=>f.name != "_")=true->E7 T E xs ys fs=some r->(Op.eqFields d arr brr fs).run P w= .ok r w
 | [],r,_,h=>by simp_all[E7,A!,Op.eqFields]
 |f::fs,r,hn,h=>by
  simp only [List.all_cons,Bool.and_eq_true] at hn;have Fg:f.name≠ "_":=by grind
  simp [E7] at h;cases hf:T.find f.type with
  |none=>grind
  |some te=>
   simp [hf] at h;cases ha:pick te xs f.offset with
   |none=>grind
   |some a=>cases hb:pick te ys f.offset with
    |none=>grind
    |some b=>
     simp [ha,hb] at h;cases he:E f.type a b with
     |none=>grind
     |some q=>cases hr:E7 T E xs ys fs with
      |none=>grind
      |some q'=>
       simp [he,hr,A!] at h;subst h;obtain⟨va,a1,a2⟩:=sN hT hf hx ha;obtain⟨vb,b1,b2⟩:=sN hT hf hy hb;have e1:=hE _ _ _ _ _ _ a2 b2 he;have e2:=Ky hT hE hx hy fs q' hn.2 hr;simp [Op.eqFields,Fg,ne_eq,not_false_eq_true,H?,Sem.run_bind,a1,b1,e1,Result.andThen_ok];cases fs with
       |nil=>
        cases q<;>simp [Op.eqFields]
       |cons g gs=>cases q<;>simp [e2]
theorem Kz(hT:bO T P):∀(n d:Nat) (t:TypeId) (x y:AV) (v u:Value) (r:Bool),n<=d->aa w A β v x->aa w A β u y->Dg T n t x y=some r->(Op.equalIn d t v u).run P w= .ok r w
 |0,_,_,_,_,_,_,_,_,_,_,h=>by grind[Dg]
 |n+1,0,_,_,_,_,_,_,hd,_,_,_=>by omega
 |n+1,d+1,t,x,y,v,u,r,hd,hx,hy,h=>by
  simp [Dg] at h;cases hf:T.find t with
  |none=>grind
  |some te=>
   simp [hf] at h;obtain⟨hu,_⟩:=hT.ok t te hf;split at h
   . rename_i fs sq;split at h
     . obtain⟨arr,rfl,hx⟩:=hx;obtain⟨brr,rfl,hy⟩:=hy;have hh:=hT.held t te hf;rw [sq] at hh hu;have hfo:P.fieldsOf t=fs:=by grind[Program.fieldsOf]
       rw [run_equalIn_struct w d t arr brr (by grind) hh.1,hfo];exact Ky hT (fun t x y v u r g1 g2 g3=>Kz hT n d t x y v u r (by omega) g1 g2 g3) hx hy _ _ hh.2.2 h
     grind
   . grind[Option.some.injEq,aa,run_equalIn_int]
   . grind[Option.some.injEq,aa,run_equalIn_string,yL]
   . rename_i sq;rw [sq] at hu;split at h
     . rename_i p q hp hq;simp at h;subst h;rw [Ff hx hp,Ff hy hq,run_equalIn_bool' w d t _ _ hu]
     grind
   grind
theorem Py(hT:bO T P) {n:Nat} {t:TypeId} {xs ys:List AV} {r:Bool}(h:Dg T n t (.agg xs) (.agg ys)=some r):P.eqGuardType P.depth t=false :=by
 cases n with
 |zero=>grind[Dg]
 |succ n=>
  simp [Dg] at h;cases hf:T.find t with
  |none=>grind
  |some te=>
   simp [hf] at h;have hh:=hT.held t te hf;split at h
   . rename_i fs sq;rw [sq] at hh;exact hh.2.1
   . cases h
   . cases h
   . grind[rv]
   grind
set_option maxHeartbeats 1000000 in
theorem Ss(hT:bO T P) {op:BinOp} {t:TypeId} {ox oy:Operand} {x y:AV} {vx vy:Value}(hx:aa w A β vx x)(hy:aa w A β vy y) {out:Out}
  (h:M7 T t op x y=some out) (hc:∀p∈out.cond,p):Reads P A β w (do eqGuard op t ox oy vx vy;binOp op t vx vy) out:=by
 unfold M7 at h;split at h
 . rename_i k n k' m;simp only [aa] at hx hy;obtain⟨rfl,hn⟩:=hx;obtain⟨rfl,hm⟩:=hy;unfold Reads;simp only [Sem.run_bind,Cm,Result.andThen_ok];split at h
   . obtain⟨hq,hr,dy⟩:=nK (w:=w) (A:=A) (β:=β) h hc;obtain⟨h0,h1⟩:=eC dy;refine⟨hq,_,?_,hr⟩;have adt:¬m<0:=by omega
     have adu:min m.toNat k.bits=m.toNat:=by
      cases k<;>simp [bitsOf] at h1<;>simp [IntKind.bits]<;>omega
     simp [binOp,Op.shift,adt,adu]
   . simp only [A!] at h;subst h;obtain⟨h0,h1⟩:=eC hc;have adt:¬m<0:=by omega
     have adu:min m.toNat k.bits=m.toNat:=by
      cases k<;>simp [bitsOf] at h1<;>simp [IntKind.bits]<;>omega
     refine⟨⟨rfl,rfl,rfl⟩, .int k (n/2^m.toNat),?_,?_⟩
     . simp only [binOp,Op.shift,adt,adu,if_false,Sem.run_pure];grind
     . simp only [aa];have hp:(1:Int)<=2^m.toNat:=Int.pow_pos (by omega);refine⟨trivial,?_,?_⟩
       . have h2:lo k<=0:=by cases k<;>simp [lo]
         rcases Int.le_total 0 n with hh|hh
         . exact Int.le_trans h2 (Int.ediv_nonneg hh (by omega))
         . have :n<=n/2^m.toNat:=by
            rw [Int.le_ediv_iff_mul_le (by omega)];have :=Int.mul_le_mul_of_nonpos_left hh hp;omega
           omega
       . have h2:0<=hi k:=by cases k<;>simp [hi]
         rcases Int.le_total 0 n with hh|hh
         . have :n/2^m.toNat<=n:=Int.ediv_le_self _ hh;omega
         . have :n/2^m.toNat<=0:=Int.ediv_nonpos_of_nonpos_of_neg hh (by omega);omega
   . rename_i hs1 Nb;by_cases hkk:k=k'
     . subst hkk;simp only [H?] at h
       have hb:binOp op t (.int k n) (.int k m)=match op with
         | .add| .sub| .mul=>Op.intArith op k n m
         | .quo| .rem=>Op.intDiv op k n m
         | .and| .or| .xor| .andNot=>Op.intBits op k n m
         |_=>Op.intCmp op n m:=by
        cases op<;>first|exact absurd rfl hs1|exact absurd rfl Nb|simp [binOp]
       rw [hb];split at h
       . obtain⟨hq,hr,_⟩:=nK (w:=w) (A:=A) (β:=β) h hc;simp_all[Op.intArith]
       . obtain⟨hq,hr,_⟩:=nK (w:=w) (A:=A) (β:=β) h hc;simp_all[Op.intArith]
       . obtain⟨hq,hr,_⟩:=nK (w:=w) (A:=A) (β:=β) h hc;simp_all[Op.intArith]
       . simp only [Option.some.injEq] at h;subst h;have h0:0<=n:=oJ hn.1 (fun p hp=>hc p (by grind));have h1:0<m:=hc _ (by simp);have dR:¬m=0:=by omega
         have h2:0<=n/m:=Int.ediv_nonneg h0 (by omega);have h3:n/m<=n:=Int.ediv_le_self _ h0;have Nc:lo k<=0:=by cases k<;>simp [lo]
         have hr:lo k<=n/m/\n/m<=hi k:=⟨by omega,by omega⟩;refine⟨⟨rfl,rfl,rfl⟩, .int k (n/m),?_,by simp_all[aa,trivial]⟩;simp_all[Op.intDiv,Z?,Int.tdiv_eq_ediv_of_nonneg,vP,Sem.run_pure]
       . simp only [Option.some.injEq] at h;subst h;have h0:0<=n:=oJ hn.1 (fun p hp=>hc p (by grind));have h1:0<m:=hc _ (by simp);have dR:¬m=0:=by omega
         have h2:0<=n%m:=Int.emod_nonneg _ dR
         have h3:n%m<=n:=by
          have e1:=Int.emod_def n m;have e2:0<=m*(n/m):=Int.mul_nonneg (by omega) (Int.ediv_nonneg h0 (by omega));omega
         have Nc:lo k<=0:=by cases k<;>simp [lo]
         have hr:lo k<=n%m/\n%m<=hi k:=⟨by omega,by omega⟩;refine⟨⟨rfl,rfl,rfl⟩, .int k (n%m),?_,by simp_all[aa,trivial]⟩;simp_all[Op.intDiv,Z?,Int.tmod_eq_emod_of_nonneg,Sem.run_pure]
       . simp only [Option.some.injEq] at h;subst h;have h0:0<=n:=oJ hn.1 (fun p hp=>hc p (by grind));have h1:0<=m:=oJ hm.1 (fun p hp=>hc p (by grind));obtain⟨e1,e2⟩:=Fe (k:=k) (· &&& ·) (· &&& ·) (fun x y=>BitVec.toNat_and x y) (fun a b ha hb=>Nat.lt_of_le_of_lt Nat.and_le_left ha) hn hm h0 h1;exact⟨⟨rfl,rfl,rfl⟩,_,by simp only [Op.intBits,Sem.run_pure,e1];rfl,by simp only [aa];exact⟨rfl,e2⟩⟩
       . simp only [Option.some.injEq] at h;subst h;have h0:0<=n:=oJ hn.1 (fun p hp=>hc p (by grind));have h1:0<=m:=oJ hm.1 (fun p hp=>hc p (by grind));obtain⟨e1,e2⟩:=Fe (k:=k) (· ||| ·) (· ||| ·) (fun x y=>BitVec.toNat_or x y) (fun a b ha hb=>Nat.or_lt_two_pow ha hb) hn hm h0 h1;exact⟨⟨rfl,rfl,rfl⟩,_,by simp only [Op.intBits,Sem.run_pure,e1];rfl,by simp only [aa];exact⟨rfl,e2⟩⟩
       . simp only [Option.some.injEq] at h;subst h;have h0:0<=n:=oJ hn.1 (fun p hp=>hc p (by grind));have h1:0<=m:=oJ hm.1 (fun p hp=>hc p (by grind));obtain⟨e1,e2⟩:=Fe (k:=k) (· ^^^ ·) (· ^^^ ·) (fun x y=>BitVec.toNat_xor x y) (fun a b ha hb=>Nat.xor_lt_two_pow ha hb) hn hm h0 h1;exact⟨⟨rfl,rfl,rfl⟩,_,by simp only [Op.intBits,Sem.run_pure,e1];rfl,by simp only [aa];exact⟨rfl,e2⟩⟩
       . simp only [A!] at h;subst h;exact⟨⟨rfl,rfl,rfl⟩, .bool (decide (n=m)),by rfl,by rfl⟩
       . simp only [A!] at h;subst h;exact⟨⟨rfl,rfl,rfl⟩, .bool (!decide (n=m)),by rfl,by rfl⟩
       . simp only [A!] at h;subst h;exact⟨⟨rfl,rfl,rfl⟩, .bool (decide (n<m)),by rfl,by rfl⟩
       . simp only [A!] at h;subst h;exact⟨⟨rfl,rfl,rfl⟩, .bool (decide (n<=m)),by rfl,by rfl⟩
       . simp only [A!] at h;subst h;exact⟨⟨rfl,rfl,rfl⟩, .bool (decide (m<n)),by rfl,by rfl⟩
       . simp only [A!] at h;subst h;exact⟨⟨rfl,rfl,rfl⟩, .bool (decide (m<=n)),by rfl,by rfl⟩
       grind
     grind
 . rename_i s u;simp only [aa] at hx hy;obtain⟨rfl,hn⟩:=hx;obtain⟨rfl,hm⟩:=hy;unfold Reads;simp only [Sem.run_bind,Cn,Result.andThen_ok];have hb:binOp op t (.string ⟨s.toArray⟩) (.string ⟨u.toArray⟩)=Op.stringOp op ⟨s.toArray⟩ ⟨u.toArray⟩:=by cases op<;>rfl
   have aGL:(s==u)=decide (s=u):=by
    grind
   rw [hb];split at h
   . simp only [A!] at h;subst h;have h0:=eC hc;refine⟨⟨rfl,rfl,rfl⟩, .string ⟨(s++u).toArray⟩,?_,?_⟩
     . simp_all[IntKind.max,IntKind.signed,IntKind.bits,Op.stringOp,sO,Sr]
     . simp only [aa];refine⟨trivial,?_⟩;grind[List.length_append,maxLen]
   all_goals first|(simp only [A!] at h;subst h;exact⟨⟨rfl,rfl,rfl⟩,_,by simp only [Op.stringOp,Sem.run_pure,yL,aGL];rfl,by rfl⟩)|cases h
 . rename_i r rs l;cases hd:dW T t ik with
   |false=>grind
   |true=>
    simp only [hd,K!] at h
    obtain⟨e,hu⟩:∃e,P.underlying t=some (.slice e):=by
     unfold dW at hd;cases ht:T.find t with
     |none=>grind
     |some te=>
      simp only [ht] at hd;rw [(hT.ok t te ht).1];cases sr:te.desc<;>simp_all [ik]
    simp only [aa,Rd] at hx hy;obtain⟨ad,cap,cs,rfl,h1,h2,h3,h4⟩:=hx;subst hy;split at h
    . simp only [Option.some.injEq] at h;subst h;unfold Reads;simp only [Sem.run_bind,zw,Result.andThen_ok];refine⟨⟨rfl,rfl,rfl⟩, .bool ad.isNone,Na w t e ad _ _ _ _ hu,?_⟩;simp only [aa];refine⟨_,rfl,fun hn=> ?_⟩;cases l with
      |nil=>rfl
      |cons x l=>
       grind[E2,bC]
    grind
 . rename_i xs ys;split at h
   . rename_i r hr;have hg:=Py hT hr;have hq:=Kz (w:=w) (A:=A) (β:=β) hT 8 10000 t _ _ _ _ r (by omega) hx hy hr;simp only [aa] at hx hy;obtain⟨arr,rfl,hx⟩:=hx;obtain⟨brr,rfl,hy⟩:=hy;unfold Reads;simp only [Sem.run_bind,run_eqGuard_agg w op t ox oy arr brr hg,Result.andThen_ok];split at h
     . simp only [A!] at h;subst h;exact⟨⟨rfl,rfl,rfl⟩,_,by rw [run_eql_struct,hq];rfl,by rfl⟩
     . simp only [A!] at h;subst h;exact⟨⟨rfl,rfl,rfl⟩,_,by rw [run_neq_struct,hq];rfl,by rfl⟩
     grind
   grind
 . rename_i Eh hy1 hz1;split at h
   . rename_i p q hp hq;have ex:vx= .bool p:=by cases x<;>simp_all [rv,aa]
     have ey:vy= .bool q:=by cases y<;>simp_all [rv,aa]
     subst ex;subst ey;unfold Reads;simp only [Sem.run_bind,AN,Result.andThen_ok];cases hd:dW T t E6 with
     |false=>grind
     |true=>
      simp only [hd,K!] at h
      have hu:P.underlying t=some .bool:=by
       unfold dW at hd;cases ht:T.find t with
       |none=>grind
       |some te=>
        simp only [ht] at hd;rw [(hT.ok t te ht).1];grind[E6]
      split at h
      . simp only [A!] at h;subst h;exact⟨⟨rfl,rfl,rfl⟩, .bool (p==q),run_eql_bool w t p q hu,by rfl⟩
      . simp only [A!] at h;subst h;exact⟨⟨rfl,rfl,rfl⟩, .bool (!(p==q)),run_neq_bool w t p q hu,by rfl⟩
      grind
   grind
theorem Fh(sz j:Nat):∀(k:Nat) (cs:List AV) (i:Nat),i<k->(every sz j k cs)[i]? =some (cs.getD (i*sz+j) .dz)
 |k+1,cs,0,_=>by simp [every]
 |k+1,cs,i+1,h=>by
  simp [every,List.getElem?_cons_succ];rw [Fh sz j k (cs.drop sz) i (by omega)];simp;rw [show sz+(i*sz+j)=(i+1)*sz+j by rw [h?];omega]
theorem AO:∀(l:List AV) (kd:IntKind) (ns:List Int),AG l=some (kd,ns)->∀(i:Nat) (a:AV),l[i]? =some a->a= .int kd (ns.getD i 0)
 | [],kd,ns,h,i,a,hi=>by grind
 |x::r,kd,ns,h,i,a,hi=>by
  unfold AG at h;split at h
  . split at h
    . obtain⟨rfl,rfl⟩:=h;cases i with
      |zero=>simp at hi;subst hi;simp
      |succ i=>simp at hi
    . split at h
      . rename_i k' l hl;split at h
        . rename_i hk;subst hk;obtain⟨rfl,rfl⟩:=h;cases i with
          |zero=>simp at hi;subst hi;simp
          |succ i=>
           have :=AO _ _ _ hl i a hi;rw [this];simp [List.getD]
        . cases h
      . cases h
  . cases h
theorem vQ {sz k:Nat} {cs:List AV} {n:Int}(hn:n.toNat<k):∀(m:Nat) (vs:List AV),AH sz k cs n m=some vs->vs.length=m/\∀j,j<m->vs[j]? =some (cs.getD (n.toNat*sz+j) .dz)
 |0,vs,h=>by grind[AH,Option.some.injEq]
 |m+1,vs,h=>by
  simp only [AH] at h;split at h
  . rename_i us kd l h1 h2;simp only [Option.some.injEq] at h;obtain⟨g1,g2⟩:=vQ hn m us h1;refine⟨by grind,fun j hj=> ?_⟩;by_cases hjm:j<m
    . grind
    . have :j=m:=by omega
      grind[AO,Fh]
  grind
theorem Pz {t:TypeId}(hT:bO T P) {k:Nat} {ee:TE}(h:E9 T t=some (k,ee)):∃e i,P.underlying t=some (.array k e)/\T.find e=some ee/\P.info? e=some i/\i.size=ee.size:=by
 unfold E9 at h;split at h
 . rename_i te lz;obtain⟨hu,_⟩:=hT.ok t te lz;split at h
   . rename_i k' e hd;split at h
     . rename_i ee' qg;obtain⟨_,i,hi,hs,_⟩:=hT.ok e ee' qg;grind
     grind
   grind
 grind
theorem Ei(hT:bO T P) {t:TypeId} {cs:List AV} {n:Int} {kd:IntKind} {arr:Array Value} {vi:Value}(hx:ai w A β arr.toList cs)(hi:vi= .int kd n) {out:Out}
  (h:tO T t cs n=some out) (hc:∀p∈out.cond,p):Reads P A β w (Instr.index t (.agg arr) vi) out:=by
 unfold tO at h;split at h
 . rename_i k ee ha;cases hb:Nat.beq cs.length (k*ee.size) with
   |false=>grind
   |true=>
    rw [hb] at h;simp only [K!] at h;have hlen:=E! hb;obtain⟨e,i,hu,qg,hie,hs⟩:=Pz hT ha
    have gT:∀(h0:0<=n) (h1:n<(k:Int)),(Instr.index t (.agg arr) vi).run P w=(part e arr (n.toNat*ee.size)).run P w:=by
     simp_all[hi,Instr.index,asIntOf,run_underlying,sizeOf,typeInfo]
    split at h
    . rename_i vs hv;cases JZ:ee.desc.kQ with
      |true=>
       rw [JZ] at h;simp only [K!,A!] at h;subst h;obtain⟨h0,h1⟩:=eC hc;obtain⟨g1,g2⟩:=vQ (by omega) _ _ hv
       have hle:n.toNat*ee.size+ee.size<=cs.length:=by
        rw [hlen,<-Nat.succ_mul];exact F? _ (by omega)
       have hp:pick ee cs (n.toNat*ee.size)=some (.agg vs):=by
        unfold pick;rw [JZ,cond_true,show Nat.ble (n.toNat*ee.size+ee.size) cs.length=true from Nat.ble_eq_true_of_le hle,cond_true];congr 2
        refine List.ext_getElem? fun j=> ?_;grind
       obtain⟨v,k1,k2⟩:=sN hT qg hx hp;exact⟨⟨rfl,rfl,rfl⟩,v,by grind,k2⟩
      |false=>
       rw [JZ] at h;simp only [P!] at h;split at h
       . rename_i a;simp only [Option.some.injEq] at h;subst h;obtain⟨h0,h1⟩:=eC hc;obtain⟨g1,g2⟩:=vQ (by omega) _ _ hv;have cZ:ee.size=1:=by grind
         have hp:pick ee cs (n.toNat*ee.size)=some a:=by
          simp_all[pick,P!,d?,A!,Nat.add_zero,D!,List.getD]
         obtain⟨v,k1,k2⟩:=sN hT qg hx hp;exact⟨⟨rfl,rfl,rfl⟩,v,by grind,k2⟩
       grind
    grind
 grind
end
end Go.Vg

end
section
namespace Go.Vg
open Go
section
variable {P:Program} {C:Ctx} {A:Nat->Prop} {β:Nat->Value} {st:St} {a:Act} {w:World} {T:cA}
theorem sP(n:Int):∀ks,Fa n ks=true↔n∈ks
 | []=>by simp [Fa]
 |k::r=>by simp [Fa,sP n r]
theorem vR(n:Int):∀ks,tP n ks↔n∉ks
 | []=>by simp [tP]
 |k::r=>by simp [tP,vR n r]
theorem su(n:Int):∀(es:List MapEntry) (ks:List Int) (i:Nat),es.map (·.key)=ks.map (Value.int .i64)->n∉ks->Instr.findNow (.int .i64) (.int .i64 n) es i=some none
 | [],_,_,_,_=>rfl
 |e::es,[],_,h,_=>by grind
 |e::es,k::ks,i,h,hn=>by
  simp at h;have hk:n≠k:=fun q=>hn (by rw [q];exact R! ..)
  have hs:Instr.sameNow (.int .i64) (.int .i64 n) e.key=some false :=by
   rw [h.1];simp [Instr.sameNow,hk]
  simp [Instr.findNow,hs];exact su n es ks (i+1) h.2 (fun q=>hn (G! _ q))
theorem Dm(n:Int):∀(es:List MapEntry) (ks:List Int) (i j:Nat),es.map (·.key)=ks.map (Value.int .i64)->jx ks=true->ks[j]? =some n->
  ∃e,es[j]? =some e/\Instr.findNow (.int .i64) (.int .i64 n) es i=some (some (i+j,e.val))
 | [],[],_,j,_,_,hj=>by grind
 | [],_::_,_,_,h,_,_=>by grind
 |e::es,[],_,_,h,_,_=>by grind
 |e::es,k::ks,i,j,h,hd,hj=>by
  simp at h;simp [jx,B!,L?] at hd;cases j with
  |zero=>
   have hs:Instr.sameNow (.int .i64) (.int .i64 k) e.key=some true :=by
    grind[Instr.sameNow]
   exact⟨e,rfl,by grind[Instr.findNow]⟩
  |succ j=>
   have hk:n≠k:=by
    grind[List.mem_of_getElem?,sP]
   have hs:Instr.sameNow (.int .i64) (.int .i64 n) e.key=some false :=by
    grind[Instr.sameNow]
   obtain⟨e',h1,h2⟩:=Dm n es ks (i+1) j h.2 hd.2 hj;grind[Instr.findNow]
theorem Fi:∀(aK:List AV) (vs:List Value) (i:Nat) (x:AV) (v:Value),ai w A β vs aK->aK[i]? =some x->vs[i]? =some v->aa w A β v x
 | [],_,i,x,v,_,h,_=>by grind
 |a::aK,vs,i,x,v,h,hx,hv=>by
  obtain⟨u,cg,rfl,h1,h2⟩:=h;cases i with
  |zero=>
   simp at hx hv;rw [<-hx,<-hv];exact h1
  |succ i=>exact Fi aK cg i x v h2 (by simpa using hx) (by simpa using hv)
theorem J0(hT:bO T P) {t:TypeId} {ok:Bool} {ks:List Int} {cs:List AV} {n:Int} {JW:Nat} {vm:Value} {out:Out}(hm:aa w A β vm (.ia ks cs))
  (h:zq T JW t ok ks cs n=some out) (hc:∀p∈out.cond,p):Reads P A β w (Instr.lookup t vm (.int .i64 n) ok) out:=by
 simp only [aa] at hm;obtain⟨b,es,ck,rfl,hA,hb,hk,hv⟩:=hm;unfold zq at h;split at h
 . rename_i te lz;obtain⟨hu,_⟩:=hT.ok t te lz;split at h
   . rename_i kt et hd;rw [hd] at hu;cases hq:(dW T kt zp&&jx ks) with
     |false=>grind
     |true=>
     rw [hq] at h;simp only [K!] at h;simp only [B!] at hq
     have Nd:P.underlying kt=some (.int .i64):=by
      have h1:=hq.1;unfold dW at h1;split at h1
      . rename_i tk zy;obtain⟨hku,_⟩:=hT.ok kt tk zy;grind[zp]
      grind
     have hck:∀e,(Instr.checkKey e 10000 kt (.int .i64 n)).run P w= .ok () w:=fun e=>MapKept.run_checkKey Nd (by rfl) e 9999;split at h
     . rename_i k c Ej Su;simp only [Option.some.injEq] at h;subst h;have hn:n=k:=hc _ (List.mem_cons_self ..);subst hn;obtain⟨e,he,hf⟩:=Dm n es.toList ks 0 JW hk hq.2 Ej;have hrel:=Fi cs _ JW c e.val hv Su (by grind);refine⟨⟨rfl,rfl,rfl⟩,(if ok then .tuple #[e.val, .bool true] else e.val),?_,?_⟩
       . simp [Instr.lookup,run_underlying hu,MapKept.run_getObj_map hb,hck,MapKept.run_findKey Nd hf,Result.andThen]
       . cases ok
         . grind
         . simp only [K!,H?,aa];exact⟨_,rfl,by simp only [ai];exact⟨_,_,rfl,hrel,_,_,rfl,by rfl,rfl⟩⟩
     . split at h
       . rename_i ee qg;cases hz:Si ee.zero with
         |false=>grind
         |true=>
         rw [hz] at h;simp only [K!,A!] at h;subst h;have hn:n∉ks:=(vR n ks).1 (hc _ (R! ..));have hf:=su n es.toList ks 0 hk hn;obtain⟨_,i,hi,_,_,hzz⟩:=hT.ok et ee qg
         have hz':ee.zero= .nilFunc:=by
          grind[Si]
         have hzr:(zeroValue et).run P w= .ok .nilFunc w:=by
          simp_all[zeroValue,typeInfo,hi]
         refine⟨⟨rfl,rfl,rfl⟩,(if ok then .tuple #[.nilFunc, .bool false] else .nilFunc),?_,?_⟩
         . simp [Instr.lookup,run_underlying hu,MapKept.run_getObj_map hb,hck,MapKept.run_findKey Nd hf,hzr,Result.andThen]
         . cases ok
           . rfl
           . exact⟨_,rfl,by simp only [ai];exact⟨_,_,rfl,by simp [aa],_,_,rfl,by simp [aa],rfl⟩⟩
       grind
   grind
 grind
end
end Go.Vg

end
section
namespace Go.Vg
open Go
section
variable {P:Program} {C:Ctx} {A:Nat->Prop} {β:Nat->Value} {st:St} {a:Act} {w:World} {T:cA}
theorem abo {op:UnOp} {x:AV} {vx:Value}(hx:aa w A β vx x) {out:Out}(h:Sh op x=some out)(hc:∀p∈out.cond,p):Reads P A β w (Op.unary op vx) out:=by
 unfold Sh at h;split at h
 . split at h
   . simp at h;subst h;subst hx;exact⟨⟨rfl,rfl,rfl⟩,_,rfl,by rfl⟩
   grind
 . split at h
   . simp at h;subst h;subst hx;exact⟨⟨rfl,rfl,rfl⟩,_,rfl,by rfl⟩
   grind
 . split at h
   . simp at h;subst h;subst hx;exact⟨⟨rfl,rfl,rfl⟩,_,rfl,by rfl⟩
   grind
 . rename_i k n;obtain⟨rfl,hn⟩:=hx;split at h
   . obtain⟨hq,hr,_⟩:=nK (w:=w) (A:=A) (β:=β) h hc;exact⟨hq, .int k (k.wrap (0-n)),by rfl,hr⟩
   . cases hk:nC k with
     |none=>grind
     |some c=>
      simp [hk,A!] at h;subst h;have hs:k.signed=false :=by cases k<;>simp [nC] at hk<;>rfl
      have h0:0<=n:=by cases k<;>simp [nC] at hk<;>simpa [lo] using hn.1
      have Su:c-1=hi k:=by cases k<;>simp [nC] at hk<;>subst hk<;>rfl
      have hx:(c-1-n)=k.wrap ((BitVec.ofInt k.bits (hi k)^^^BitVec.ofInt k.bits n).toNat:Int):=by
       rw [BitVec.toNat_xor,pC (by omega) (f? _),pC h0 hn.2]
       have e:(hi k).toNat^^^n.toNat=(hi k).toNat-n.toNat:=by
        have e2:(hi k).toNat=2^lH k-1:=by cases k<;>simp [nC] at hk<;>rfl
        rw [e2];apply Nat.eq_of_testBit_eq;grind[Nat.lt_or_ge,Nat.testBit_lt_two_pow,Nat.lt_of_lt_of_le,Nat.pow_le_pow_right]
       have hr:lo k<=(((hi k).toNat-n.toNat:Nat):Int)/\(((hi k).toNat-n.toNat:Nat):Int)<=hi k:=by
        have :lo k=0:=by cases k<;>simp [nC] at hk<;>rfl
        omega
       grind[vP]
      have ans:lo k<=c-1-n/\c-1-n<=hi k:=by
       have :lo k=0:=by cases k<;>simp [nC] at hk<;>rfl
       omega
      refine⟨⟨rfl,rfl,rfl⟩, .int k (c-1-n),?_,by simp_all[aa,trivial]⟩;have PA:k.max=hi k:=by cases k<;>simp [nC] at hk<;>rfl
      simp_all[Op.unary,Op.intBits,B?,Z?,Sem.run_pure]
   grind
 grind
theorem AP(s:List UInt8)(x y:Nat)(hy:y<=s.length):(⟨s.toArray⟩:ByteArray).extract x y=⟨((s.take y).drop x).toArray⟩:=by
 apply ByteArray.ext;grind[Array.ext',ByteArray.data_extract,List.drop_take]
theorem run_sliceBound {k:IntKind} {n:Int} {y:Nat} {code:BoundsCode}(h0:0<=n)(h1:n<=(y:Int)):(Instr.sliceBound (.int k n) y code).run P w= .ok n.toNat w:=by
 simp_all[Instr.sliceBound,asIntOf]
def dY:Option Int->Nat
 |none=>0
 |some a=>a.toNat
def bA(len:Nat):Option Int->Nat
 |none=>len
 |some b=>b.toNat
def ot(w:World)(A:Nat->Prop)(β:Nat->Value):Option AV->Option Value->Prop
 |none,none=>True
 |some x,some v=>aa w A β v x
 |_,_=>False
theorem gj {x:Option AV} {n:Option Int} {v:Option Value}(h:oi x=some n)(hr:ot w A β x v):
  (n=none/\v=none)\/∃k m,n=some m/\v=some (.int k m):=by
 cases x with
 |none=>
  grind[oi,ot]
 |some x=>
  cases v with
  |none=>grind[ot]
  |some v=>
   cases x with
   |int k m=>
    grind[oi,Option.some.injEq,ot,aa]
   |_=>grind[oi]
theorem kT {s:Bool} {len cap:Nat} {lo hi:Option Int} {vl vh:Option Value}(hl:(lo=none/\vl=none)\/∃k m,lo=some m/\vl=some (.int k m))(hh:(hi=none/\vh=none)\/∃k m,hi=some m/\vh=some (.int k m))
  (hlen:len<=cap) (h0:∀m,hi=some m->0<=m/\m<=(len:Int)) (h1:∀m,lo=some m->0<=m/\m<=(bA len hi:Int)):
  (Instr.sliceBounds s len cap vl vh none).run P w= .ok (dY lo,bA len hi,cap) w:=by
 rcases hl with⟨rfl,rfl⟩|⟨k,m,rfl,rfl⟩<;>rcases hh with⟨rfl,rfl⟩|⟨k',m',rfl,rfl⟩
 . rfl
 . obtain⟨g0,g1⟩:=h0 m' rfl;simp [Instr.sliceBounds,dY,bA,run_sliceBound (P:=P) (w:=w) (k:=k') g0 (show m'<=(cap:Int) by omega)]
 . simp_all[bA,Instr.sliceBounds,dY,run_sliceBound]
 . obtain⟨g0,g1⟩:=h0 m' rfl;obtain⟨f0,f1⟩:=h1 m rfl;simp only [bA] at f1;simp [Instr.sliceBounds,dY,bA,run_sliceBound (P:=P) (w:=w) (k:=k') g0 (show m'<=(cap:Int) by omega),run_sliceBound (P:=P) (w:=w) (k:=k) f0 f1]
theorem tV {row:List Ty} {v:Value} {l:List (Row row)}(h:Rd w A (.slice row) v l):∃ad cap,v= .slice ad l.length cap/\l.length<=cap/\cap<=maxLen:=by
 grind[Rd]
theorem PB {row:List Ty} {ad:Option Addr} {len cap:Nat} {l:List (Row row)}(h:Rd w A (.slice row) (.slice ad len cap) l)(x y:Nat)(hx:x<=y)(hy:y<=l.length)(Cp:Option Addr)
  (had:x<cap->Cp=ad.map (·.add (x*row.length))):Rd w A (.slice row) (.slice Cp (y-x) (cap-x)) ((l.take y).drop x):=by
 obtain⟨a0,aGO,cs,h1,h2,h3,h4,h5⟩:=h;obtain⟨rfl,rfl,rfl⟩:=h1;have hs:=eM (w:=w) (A:=A) l cs y h4;have Nb:=eM (w:=w) (A:=A) (l.take y) _ x hs.1;have hlen:((l.take y).drop x).length=y-x:=by grind
 refine⟨Cp,cap-x,((cs.take (y*row.length)).drop (x*row.length)),by grind,by omega,by omega,Nb.2,fun dR=> ?_⟩;have dy:cs≠ []:=by grind
 grind[oq,iF,Addr.add_mid]
theorem Cq {t:TypeId}(hu:P.underlying t=some .string)(s:List UInt8) {vl vh:Option Value} {x y c:Nat}(hy:y<=s.length)(hb:(Instr.sliceBounds false s.length s.length vl vh none).run P w= .ok (x,y,c) w):
  (Instr.sliceAt t (.string ⟨s.toArray⟩) vl vh none).run P w= .ok (.string ⟨((s.take y).drop x).toArray⟩) w:=by
 simp_all[Instr.sliceAt,Instr.slice,run_underlying,sO,AP]
theorem pg {t e:TypeId} {i:TypeInfo}(hu:P.underlying t=some (.slice e))(hi:P.info? e=some i)(ad:Option Addr)(len cap:Nat) {vl vh:Option Value} {x y:Nat}(hb:(Instr.sliceBounds true len cap vl vh none).run P w= .ok (x,y,cap) w):
  (Instr.sliceAt t (.slice ad len cap) vl vh none).run P w= .ok (.slice (if cap=x then ad else ad.map (·.add (x*i.size))) (y-x) (cap-x)) w:=by
 simp_all[Instr.sliceAt,Instr.slice,run_underlying,sizeOf,typeInfo,hi]
theorem kA(hT:bO T P) {t:TypeId} {te:TE}(ht:T.find t=some te):P.underlying t=some te.desc:=(hT.ok t te ht).1
theorem Nf(hT:bO T P)(hB:aF C A β st a w) {t:TypeId} {x:AV} {lo hi mx:Option AV} {vx:Value} {vl vh vm:Option Value}(hx:aa w A β vx x)
  (hl:ot w A β lo vl)
  (hh:ot w A β hi vh)
  (hm:ot w A β mx vm) {out:Out}
  (h:pX T st.h t x lo hi mx=some out) (hc:∀p∈out.cond,p):Reads P A β w (Instr.sliceAt t vx vl vh vm) out:=by
 unfold pX at h;split at h
 . rename_i s zz gU Nc Sv vC
   have hvm:vm=none:=by
    grind[gj]
   subst hvm;have jA:=gj Nc hl;have hh':=gj Sv hh;simp only [aa] at hx;obtain⟨rfl,hs⟩:=hx;cases hd:dW T t pA with
   |false=>grind
   |true=>
    simp only [hd,K!] at h
    have hu:P.underlying t=some .string:=by
     unfold dW at hd;cases ht:T.find t with
     |none=>grind
     |some te=>
      simp only [ht] at hd;rw [(hT.ok t te ht).1];grind[pA]
    have fin:∀(r:List UInt8),(bA s.length gU<=s.length)->(∀m,gU=some m->0<=m/\m<=(s.length:Int))->(∀m,zz=some m->0<=m/\m<=(bA s.length gU:Int))->
      r=((s.take (bA s.length gU)).drop (dY zz))->∃v,(Instr.sliceAt t (.string ⟨s.toArray⟩) vl vh none).run P w= .ok v w/\aa w A β v (.str r):=by
     intro r h1 h2 h3 h4;have hb:=kT (P:=P) (w:=w) (s:=false) (cap:=s.length) jA hh' (Nat.le_refl _) h2 h3;refine⟨_,Cq hu s h1 hb,?_⟩;grind[aa]
    split at h
    . simp only [A!] at h;subst h;exact⟨⟨rfl,rfl,rfl⟩,fin s (by simp [bA]) (by simp) (by simp) (by simp [bA,dY])⟩
    . rename_i b;simp only [Option.some.injEq] at h;subst h;obtain⟨c0,c1⟩:=eC hc;exact⟨⟨rfl,rfl,rfl⟩,fin _ (by grind[bA]) (by grind) (by simp) (by rfl)⟩
    . rename_i x;simp only [Option.some.injEq] at h;subst h;obtain⟨c0,c1⟩:=eC hc;exact⟨⟨rfl,rfl,rfl⟩,fin _ (by simp [bA]) (by simp) (by grind[Option.some.injEq,bA]) (by simp [bA,dY])⟩
    . rename_i x b;simp only [Option.some.injEq] at h;subst h;obtain⟨c0,c1,c2⟩:=eC hc;exact⟨⟨rfl,rfl,rfl⟩,fin _ (by grind[bA]) (by grind) (by grind[Option.some.injEq,bA]) (by rfl)⟩
 . rename_i row l zz gU Nc Sv vC
   have hvm:vm=none:=by
    grind[gj]
   subst hvm;have jA:=gj Nc hl;have hh':=gj Sv hh;simp only [aa] at hx;cases hs:bE T t row.length with
   |false=>grind
   |true=>
    simp only [hs,K!] at h;obtain⟨e,ii,hu,iJ,cZ,iT⟩:=e8 hT hs;obtain⟨ad,cap,rfl,hle,AQ⟩:=tV hx
    have fin:∀(r:List (Row row)),(bA l.length gU<=l.length)->(dY zz<=bA l.length gU)->(∀m,gU=some m->0<=m/\m<=(l.length:Int))->(∀m,zz=some m->0<=m/\m<=(bA l.length gU:Int))->
      r=((l.take (bA l.length gU)).drop (dY zz))->∃v,(Instr.sliceAt t (.slice ad l.length cap) vl vh none).run P w= .ok v w/\aa w A β v (.sl row r):=by
     intro r h1 h1' h2 h3 h4;have hb:=kT (P:=P) (w:=w) (s:=true) (cap:=cap) jA hh' hle h2 h3;refine⟨_,pg hu iJ ad l.length cap hb,?_⟩;grind[aa,PB]
    split at h
    . simp only [A!] at h;subst h;exact⟨⟨rfl,rfl,rfl⟩,fin l (by simp [bA]) (by simp [dY]) (by simp) (by simp) (by simp [bA,dY])⟩
    . rename_i b;simp only [Option.some.injEq] at h;subst h;obtain⟨c0,c1⟩:=eC hc;exact⟨⟨rfl,rfl,rfl⟩,fin _ (by grind[bA]) (by simp [dY]) (by grind) (by simp) (by rfl)⟩
    . rename_i x;simp only [Option.some.injEq] at h;subst h;obtain⟨c0,c1⟩:=eC hc;exact⟨⟨rfl,rfl,rfl⟩,fin _ (by simp [bA]) (by grind[bA,dY]) (by simp) (by grind[Option.some.injEq,bA]) (by simp [bA,dY])⟩
    . rename_i x b;simp only [Option.some.injEq] at h;subst h;obtain⟨c0,c1,c2⟩:=eC hc;exact⟨⟨rfl,rfl,rfl⟩,fin _ (by grind[bA]) (by grind[bA,dY]) (by grind) (by simp only [Option.some.injEq,bA];rintro m rfl;omega) (by simp [bA,dY])⟩
 . rename_i row l b c Nc Sv vC
   have hvl:vl=none:=by
    rcases gj Nc hl with⟨_,h⟩|⟨k,m,h,_⟩
    . exact h
    . cases h
   subst hvl
   obtain⟨kb,rfl⟩:∃kb,vh=some (.int kb b):=by
    rcases gj Sv hh with⟨h,_⟩|⟨k,m,h,h2⟩
    . cases h
    . cases h;exact⟨k,h2⟩
   obtain⟨kc,rfl⟩:∃kc,vm=some (.int kc c):=by
    rcases gj vC hm with⟨h,_⟩|⟨k,m,h,h2⟩
    . cases h
    . cases h;exact⟨k,h2⟩
   simp only [aa] at hx;cases hs:bE T t row.length with
   |false=>simp [hs] at h
   |true=>
    simp only [hs,K!] at h;obtain⟨e,ii,hu,iJ,cZ,iT⟩:=e8 hT hs;obtain⟨ad,cap,rfl,hle,AQ⟩:=tV hx;simp only [A!] at h;subst h;obtain⟨c0,c1,c2⟩:=eC hc;subst c1
    have hb:(Instr.sliceBounds true l.length cap none (some (.int kb b)) (some (.int kc b))).run P w= .ok (0,b.toNat,b.toNat) w:=by
     simp [Instr.sliceBounds,run_sliceBound (P:=P) (w:=w) (k:=kc) (n:=b) (y:=cap) (by omega) (by omega),run_sliceBound (P:=P) (w:=w) (k:=kb) (n:=b) (y:=b.toNat) (by omega) (by omega)]
    have gT:(Instr.sliceAt t (.slice ad l.length cap) none (some (.int kb b)) (some (.int kc b))).run P w=
      .ok (.slice (if b.toNat=0 then ad else ad.map (·.add (0*ii.size))) (b.toNat-0) (b.toNat-0)) w:=by
     simp [Instr.sliceAt,Instr.slice,run_underlying hu,sizeOf,typeInfo,iJ,hb]
    have hR:=PB hx 0 b.toNat (by omega) (by omega) (if b.toNat=0 then ad else ad.map (·.add (0*ii.size))) (fun _=>by
     by_cases hz:b.toNat=0
     . rw [W! hz];cases ad<;>simp [Addr.add]
     . rw [T! hz];cases ad<;>simp [Addr.add])
    have hlen:((l.take b.toNat).drop 0).length=b.toNat:=by rw [List.drop_zero,X!];omega
    simp only [Rd] at hR;obtain⟨a0,aGO,cs,g1,g2,g3,g4,g5⟩:=hR;simp only [Value.slice.injEq] at g1;obtain⟨g6,g7,g8⟩:=g1;rw [List.drop_zero] at hlen g4;rw [g6,Nat.sub_zero] at gT;refine⟨⟨rfl,rfl,rfl⟩, .slice a0 b.toNat b.toNat,gT,?_⟩;simp only [aa,Rd];refine⟨⟨a0,b.toNat,cs,?_,by omega,by omega,g4,g5⟩,a0,?_⟩<;>rw [hlen]
 . rename_i k zz gU Nc Sv vC
   have hvm:vm=none:=by
    rcases gj vC hm with⟨_,h⟩|⟨k,m,h,_⟩
    . exact h
    . cases h
   subst hvm;have jA:=gj Nc hl;have hh':=gj Sv hh;split at h
   . rename_i e' row l fr hk;cases hs:bE T t row.length with
     |false=>simp [hs] at h
     |true=>
      simp only [hs,K!] at h;obtain⟨e,ii,hu,iJ,cZ,iT⟩:=e8 hT hs;simp only [aa] at hx;obtain⟨rfl,_⟩:=hx
      have fin:(bA l.length gU<=l.length)->(dY zz<=bA l.length gU)->(∀m,gU=some m->0<=m/\m<=(l.length:Int))->(∀m,zz=some m->0<=m/\m<=(bA l.length gU:Int))->
        (β k= .slice none 0 0/\l= []/\(Instr.sliceAt t (β k) vl vh none).run P w= .ok (.slice none 0 0) w)\/∃b cap Cp,β k= .slice (some ⟨b,0,none⟩) l.length cap/\(l.length<=cap/\cap<=maxLen)/\
          (Instr.sliceAt t (β k) vl vh none).run P w= .ok (.slice Cp (bA l.length gU-dY zz) (cap-dY zz)) w/\(dY zz<cap->Cp=some ⟨b,dY zz*row.length,none⟩)/\(dY zz=0->Cp=some ⟨b,0,none⟩):=by
       intro h1 h1' h2 h3;rcases e9 hB hk with⟨g1,g2⟩|⟨b,cap,cur,g1,_,g3,g4,_⟩
       . subst g2;have hb:=kT (P:=P) (w:=w) (s:=true) (cap:=0) jA hh' (N! _) h2 h3;have hz:bA 0 gU=0:=by simpa using h1
         have hz2:dY zz=0:=by simp only [x?] at h1';omega
         refine .inl ⟨g1,rfl,?_⟩;rw [g1,pg hu iJ none 0 0 hb,hz,hz2];simp
       . have hb:=kT (P:=P) (w:=w) (s:=true) (cap:=cap) jA hh' g3 h2 h3;refine .inr ⟨b,cap,_,g1,⟨g3,g4⟩,by rw [g1];exact pg hu iJ (some ⟨b,0,none⟩) l.length cap hb,fun fP=> ?_,fun hz=> ?_⟩
         . rw [T! (by omega),cZ];simp [Addr.add_mid]
         . split
           . rfl
           . rw [hz];simp [Addr.add]
      split at h
      . simp only [A!] at h;subst h;rcases fin (by simp [bA]) (by simp [dY]) (by simp) (by simp) with⟨g1,g2,g3⟩|⟨b,cap,Cp,g1,g2,g3,_,g5⟩
        . exact⟨⟨rfl,rfl,rfl⟩,_,g3,by simp only [aa];exact⟨g1.symm,rfl⟩⟩
        . refine⟨⟨rfl,rfl,rfl⟩,_,g3,?_⟩;simp only [aa];rw [g5 rfl,g1];simp [bA,dY,Value.oneCell']
      . rename_i b;simp only [A!] at h;subst h;obtain⟨c0,c1⟩:=eC hc;rcases fin (by simp only [bA];omega) (by simp [dY]) (by simp only [A!];rintro m rfl;exact⟨c0,c1⟩) (by simp) with⟨g1,g2,g3⟩|⟨bb,cap,Cp,g1,g2,g3,_,g5⟩
        . refine⟨⟨rfl,rfl,rfl⟩,_,g3,?_⟩;simp only [aa];refine .inl ⟨g1,trivial,?_⟩;subst g2;simp at c1;omega
        . refine⟨⟨rfl,rfl,rfl⟩,_,g3,?_⟩;simp only [aa];rw [g5 rfl];exact .inr ⟨bb,_,cap,g1,by simp [bA,dY],by omega⟩
      . rename_i x;simp only [A!] at h;subst h;obtain⟨c0,c1⟩:=eC hc;rcases fin (by simp [bA]) (by simp only [bA,dY];omega) (by simp) (by simp only [A!,bA];rintro m rfl;exact⟨c0,c1⟩) with⟨g1,g2,g3⟩|⟨bb,cap,Cp,g1,g2,g3,g4,_⟩
        . refine⟨⟨rfl,rfl,rfl⟩,_,g3,?_⟩;simp only [aa];subst g2;exact .inl ⟨by simp,none,0,rfl,by simp⟩
        . refine⟨⟨rfl,rfl,rfl⟩,_,g3,?_⟩;simp only [aa,bA,dY] at g4 |-;by_cases hz:l.length-x.toNat=0
          . exact .inl ⟨hz,Cp,_,by rw [hz],by omega⟩
          . exact .inr ⟨bb,_,cap,cap-x.toNat,g1,by rw [g4 (by omega)],by omega,by omega,by omega⟩
      . rename_i x b;simp only [A!] at h;subst h;obtain⟨c0,c1,c2⟩:=eC hc;rcases fin (by simp only [bA];omega) (by simp only [bA,dY];omega) (by simp only [A!];rintro m rfl;exact⟨by omega,c2⟩) (by simp only [A!,bA];rintro m rfl;omega) with⟨g1,g2,g3⟩|⟨bb,cap,Cp,g1,g2,g3,g4,_⟩
        . refine⟨⟨rfl,rfl,rfl⟩,_,g3,?_⟩;simp only [aa];subst g2;exact .inl ⟨by simp at c2;omega,none,0,rfl,by simp⟩
        . refine⟨⟨rfl,rfl,rfl⟩,_,g3,?_⟩;simp only [aa,bA,dY] at g4 |-;by_cases hz:b.toNat-x.toNat=0
          . exact .inl ⟨hz,Cp,_,by rw [hz],by omega⟩
          . exact .inr ⟨bb,_,cap,cap-x.toNat,g1,by rw [g4 (by omega)],by omega,by omega,by omega⟩
   . cases h
 grind
end
end Go.Vg

end
section
namespace Go.Vg
open Go
section
variable {P:Program} {C:Ctx} {A:Nat->Prop} {β:Nat->Value} {st:St} {a:Act} {w:World} {T:cA}
theorem Ng:∀(t:Ty) (v:Value) (x:D t),Rd w A t v x->v.oneCell'=true
 | .int _,v,x,h=>by rw [h.1];rfl
 | .bool,v,x,h=>by rw [h];rfl
 | .str,v,x,h=>by rw [h.1];rfl
 | .slice _,v,x,h=>by obtain⟨_,_,_,h1,_⟩:=h;rw [h1];rfl
theorem agh:∀(ts:List Ty) (vs:List Value) (x:Row ts),bC w A ts vs x->∀v∈vs,v.oneCell'=true
 | [],vs,_,h=>by grind[bC]
 |t::ts,vs,x,h=>by
  obtain⟨v,cg,rfl,h1,h2⟩:=h;intro u hu;rcases L!.1 hu with rfl|hu
  . exact Ng t _ _ h1
  . exact agh ts cg _ h2 u hu
theorem vT {row:List Ty}:∀(l:List (Row row)) (cs:List Value),E2 (bC w A row) cs l->∀v∈cs,v.oneCell'=true
 | [],cs,h=>by grind[E2]
 |x::l,cs,⟨c1,c2,hc,h1,h2⟩=>by
  subst hc;intro u hu;rcases F!.1 hu with hu|hu
  . exact agh row c1 x h1 u hu
  . exact vT l c2 h2 u hu
theorem iU {r r':List Ty} {l:List (Row r)} {l':List (Row r')}(h:fu r r' l=some l'):∃e:r=r',e▸l=l':=by
 grind[fu,Option.some.injEq,Ty.ku]
structure Src (P:Program) (w:World) (A:Nat->Prop) (row:List Ty) (m:List (Row row)) (v:Value) (cs:List Value):Prop where
 rd:E2 (bC w A row) cs m
 len:(Builtin.lenOf v).run P w= .ok m.length w
 first :∀w':World,w'.heap=w.heap->∀n,n<=m.length->(Builtin.firstCells row.length n v).run P w'= .ok (cs.take (n*row.length)).toArray w'
 max:m.length<=maxLen
theorem Fj {w w':World}(h:w'.heap=w.heap)(p:Addr):w'.cell? p=w.cell? p:=by grind[World.cell?]
theorem adb {row:List Ty} {m:List (Row row)} {cs:List Value} {ad:Option Addr} {cap:Nat}(pE:E2 (bC w A row) cs m)(dy:cs≠ []->∃b o,ad=some ⟨b,o,none⟩/\w.rangeAt b o cs)(PA:m.length<=maxLen):
  Src P w A row m (.slice ad m.length cap) cs:=by
 refine⟨pE,by rfl,fun w' hw n hn=> ?_,PA⟩;have hlen:=fp m cs pE;by_cases h0:cs= []
 . subst h0
   have hz:n*row.length=0:=by
    grind[Nat.eq_zero_or_pos,Nat.mul_eq_zero]
   cases ad with
   |none=>simp [Builtin.firstCells]
   |some p=>simp [Builtin.firstCells,hz,loadCells,loadCellsFrom]
 . obtain⟨b,o,rfl,hr⟩:=dy h0
   have fP:(cs.take (n*row.length)).length=n*row.length:=by
    simp_all
   have :=run_loadCells_list (P:=P) w' ⟨b,o,none⟩ (cs.take (n*row.length)) (fun j v hv=>by
    rw [Addr.add_mid,Fj hw];exact iF hr j v hv)
   grind[Builtin.firstCells]
theorem Fk {row:List Ty}:Src P w A row ([]:List (Row row)) (.slice none 0 0) []:=
 adb (m:=([]:List (Row row))) (by rfl) (fun h=>absurd rfl h) (by simp)
theorem Nh {row:List Ty} {l:List (Row row)} {v:Value}(h:Rd w A (.slice row) v l):∃cs,Src P w A row l v cs:=by
 obtain⟨ad,cap,cs,rfl,h2,h3,h4,h5⟩:=h;exact⟨cs,adb h4 (fun dR=>let⟨b,o,h1,_,h2⟩:=h5 dR;⟨b,o,h1,h2⟩) (by omega)⟩
theorem Fl(s:List UInt8):E2 (bC w A [.int .u8]) (s.map fun b=>Value.int .u8 (b.toNat:Int)) s:=by
 induction s with
 |nil=>rfl
 |cons b s ih=>
  refine⟨[.int .u8 (b.toNat:Int)],s.map fun b=>Value.int .u8 (b.toNat:Int),rfl,?_,ih⟩;refine⟨_,[],rfl,⟨rfl,?_,?_⟩,rfl⟩
  . simp [lo,Row.hd,DI.toInt]
  . have :=b.toNat_lt;grind[hi,Row.hd,DI.toInt]
theorem ady(s:List UInt8)(hs:s.length<=maxLen):Src P w A [.int .u8] s (.string ⟨s.toArray⟩) (s.map fun b=>Value.int .u8 (b.toNat:Int)):=by
 refine⟨Fl s,by rfl,fun w' hw n hn=> ?_,hs⟩;simp_all[Builtin.firstCells,S!,Nat.mul_one,Sem.run_pure,AP,Array.ext',List.map_take]
theorem ma {k e:Nat} {row:List Ty} {l:List (Row row)} {fr:Bool}(hB:aF C A β st a w)(h:st.h k=some (.row e row l fr)):
  (β k= .slice none 0 0/\l= [])\/∃b cap cs,β k= .slice (some ⟨b,0,none⟩) l.length cap/\l.length<=cap/\cap<=maxLen/\E2 (bC w A row) cs l/\w.rangeAt b 0 cs:=by
 rcases e9 hB h with h|⟨b,cap,cur,h1,h2,h3,h4,h5,h6,_⟩
 . grind
 . refine .inr ⟨b,cap,_,h1,h3,h4,h6,fun j v hj=> ?_⟩;grind[World.cell?]
theorem EG(hB:aF C A β st a w) {x:AV} {v:Value}(hx:aa w A β v x) {row:List Ty} {m:List (Row row)}(h:lv st.h row x=some m):∃cs,Src P w A row m v cs:=by
 unfold lv at h;split at h
 . rename_i s;obtain⟨e,h⟩:=iU h;subst e;simp only at h;subst h;simp only [aa] at hx;obtain⟨rfl,hs⟩:=hx;exact⟨_,ady s hs⟩
 . simp only [A!] at h;subst h;simp only [aa] at hx;subst hx;exact⟨[],Fk⟩
 . rename_i h1 h2
   have key:∀r (l:List (Row r)),(gu st.h x).1= .sl r l->fu r row l=some m->∃cs,Src P w A row m v cs:=by
    intro r l hp hc;obtain⟨e,hc⟩:=iU hc;subst e;simp only at hc;subst hc;unfold gu at hp;split at hp
    . rename_i k;simp only [aa] at hx;split at hp
      . rename_i e' jn l' fr hk;simp only [AV.sl.injEq] at hp;obtain⟨rfl,hp⟩:=hp;simp only [heq_eq_eq] at hp;subst hp;rcases ma hB hk with⟨g1,g2⟩|⟨b,cap,cs,g1,g2,g3,g4,g5⟩
        . subst g2;rw [hx.1,g1];exact⟨[],Fk⟩
        . rw [hx.1,g1];exact⟨cs,adb g4 (fun _=>⟨b,0,rfl,g5⟩) (by omega)⟩
      grind
    . rename_i k n;simp only [aa] at hx;split at hp
      . rename_i e' jn l' fr hk;simp only [AV.sl.injEq] at hp;obtain⟨rfl,hp⟩:=hp;simp only [heq_eq_eq] at hp;subst hp;rcases ma hB hk with⟨g1,g2⟩|⟨b,cap,cs,g1,g2,g3,g4,g5⟩
        . subst g2;rcases hx with⟨_,hv,hn⟩|⟨b,m,cap,hv,_⟩
          . subst hn;rw [hv];exact⟨[],by grind[Fk]⟩
          grind
        . rcases hx with⟨hv,_,_⟩|⟨b',m,iS,hv,zv,hle⟩
          . grind
          . rw [g1] at hv;obtain⟨rfl,rfl,rfl⟩:=hv;have hl:(l'.take n).length=n:=by grind
            rw [zv];have :=adb (P:=P) (ad:=some ⟨b,0,none⟩) (cap:=cap) (eM l' cs n g4).1 (fun _=>⟨b,0,rfl,iF g5⟩) (by omega);grind
      grind
    . rename_i k sz off n;simp only [aa] at hx;split at hp
      . rename_i e' jn l' fr hk;cases cZ:Nat.beq sz jn.length with
        |false=>grind
        |true=>
         have cZ:=E! cZ;subst cZ;simp only [bZ,K!,AV.sl.injEq] at hp;obtain⟨rfl,hp⟩:=hp;simp only [heq_eq_eq] at hp;subst hp;rcases hx with⟨hn,ad,cap,hv,_⟩|⟨b',m,iS,vO,hv,zv,hle,aGK,aJB⟩
         . subst hn;rw [hv];have :=adb (P:=P) (w:=w) (A:=A) (row:=jn) (m:= []) (ad:=ad) (cap:=cap) (cs:= []) (by rfl) (fun h=>absurd rfl h) (by simp);grind
         . rcases ma hB hk with⟨g1,g2⟩|⟨b,cap,cs,g1,g2,g3,g4,g5⟩
           . grind
           . rw [g1] at hv;simp only [Value.slice.injEq,Option.some.injEq,Addr.mk.injEq,and_true] at hv;obtain⟨rfl,rfl,rfl⟩:=hv;have hl:((l'.drop off).take n).length=n:=by grind
             rw [zv];have :=adb (P:=P) (ad:=some ⟨b,off*jn.length,none⟩) (cap:=vO) (eM _ _ n (eM l' cs off g4).2).1 (fun _=>⟨b,_,rfl,by have :=iF (n:=n*jn.length) (oq (n:=off*jn.length) g5);grind⟩) (by omega);grind
      grind
    simp_all[aa,Nh]
   split at h
   . grind
   . rename_i r l hp
     have AR:x= .full r l:=by
      unfold gu at hp;grind
     grind[aa,iU,Nh]
   grind
end
end Go.Vg

end
section
namespace Go.Vg
open Go
section
variable {P:Program} {C:Ctx} {A:Nat->Prop} {β:Nat->Value} {st:St} {a:Act} {w:World} {T:cA}
structure UO (P:Program) (t t' e:TypeId) (size bytes:Nat) (z:Value):Prop where
 under:P.underlying t=some (.slice e)
 aJp:∃d,P.underlying t'=some d/\(d= .string\/∃e',d= .slice e')
 info:∃i,P.info? e=some i/\i.size=size/\i.bytes=bytes/\i.zero=some z
 adz:z.cells.size=size
 pos:0<size
theorem mT {t t' ty e:TypeId} {size bytes:Nat} {z:Value}(hE:UO P t t' e size bytes z) {base:Option Addr} {n cap:Nat} {axJ:List Value} {x:Value} {m:Nat} {news:List Value}
  (hold:∀w':World,w'.heap=w.heap->(Builtin.firstCells size n (.slice base n cap)).run P w'= .ok axJ.toArray w')
  (hlen:(Builtin.lenOf x).run P w= .ok m w) (ir:∀w':World,w'.heap=w.heap->(Builtin.firstCells size m x).run P w'= .ok news.toArray w')
  (hg:cap<n+m) (PC:n+m<=maxLen) (xI:(n+m)*bytes<=140737488355328):
  (Builtin.append_ #[t,t'] ty #[.slice base n cap,x]).run P w=
    .ok (.slice (some ⟨w.heap.size,0,none⟩) (n+m) (grownCap w (n+m) cap e))
      (w.drew.alloc (.cells (axJ.toArray++(news.toArray++Builtin.zeroCells z.cells (grownCap w (n+m) cap e-(n+m)))) e)):=by
 obtain⟨hu,⟨d',Fm,rl⟩,⟨i,hi,hs,hb,hz⟩,J1,iT⟩:=hE;subst hs;subst hb;have hn:¬(n+m<=cap):=by omega
 have axK:¬(9223372036854775807<((n:Int)+(m:Int))):=by unfold maxLen at PC;omega
 have h48:=growslice_fits hg xI;have axL:¬(281474976710656<Builtin.nextslicecap (n+m) cap*i.bytes):=by omega
 have hfo:=hold w.drew rfl;have hf:=ir w.drew rfl;rcases rl with rfl|⟨e',rfl⟩
 . simp [Builtin.append_,run_underlying hu,run_underlying Fm,sizeOf,typeInfo,zeroValue,hi,hz,hlen,hn,axK,axL,Question.forced,hf,hfo,newRow,grownCap]
 . simp [Builtin.append_,run_underlying hu,run_underlying Fm,sizeOf,typeInfo,zeroValue,hi,hz,hlen,hn,axK,axL,Question.forced,hf,hfo,newRow,grownCap]
theorem AS {t t' ty e:TypeId} {size bytes:Nat} {z:Value}(hE:UO P t t' e size bytes z) {g n cap:Nat} {cur:Array Value}(hg:w.heap[g]? =some (.cells cur e (0,0))) {x:Value} {m:Nat} {news:List Value}
  (hlen:(Builtin.lenOf x).run P w= .ok m w) (ir:∀w':World,w'.heap=w.heap->(Builtin.firstCells size m x).run P w'= .ok news.toArray w')
  (hl:news.length=m*size) (h1:∀u∈news,u.oneCell'=true) (zA:n+m<=cap) (dy:cur.size=cap*size):
  (Builtin.append_ #[t,t'] ty #[.slice (some ⟨g,0,none⟩) n cap,x]).run P w=
    .ok (.slice (some ⟨g,0,none⟩) (n+m) cap) (w.setRow g (cur.toList.take (n*size)++news++cur.toList.drop (n*size+news.length)).toArray):=by
 obtain⟨hu,⟨d',Fm,rl⟩,⟨i,hi,hs,hb,hz⟩,J1,iT⟩:=hE;subst hs;subst hb;have rC:n*i.size+news.length<=cur.size:=by rw [hl,dy,<-h?];exact F? _ zA
 have lI:=run_storeCells_at P g (n*i.size) e news 0 cur w hg (by simpa using rC) h1;simp only [Nat.add_zero] at lI;have hf:=ir w rfl;rcases rl with rfl|⟨e',rfl⟩
 . simp [Builtin.append_,run_underlying hu,run_underlying Fm,sizeOf,typeInfo,hi,hlen,zA,hf,Addr.add_lit,lI]
 . simp [Builtin.append_,run_underlying hu,run_underlying Fm,sizeOf,typeInfo,hi,hlen,zA,hf,Addr.add_lit,lI]
theorem nM {t t' ty e:TypeId} {size bytes:Nat} {z:Value}(hE:UO P t t' e size bytes z) {v:Value} {n:Nat} {xs:List Value}(gN:w.ownsRow 0 e size v n xs) {x:Value} {m:Nat} {news:List Value}
  (hlen:(Builtin.lenOf x).run P w= .ok m w) (ir:∀w':World,w'.heap=w.heap->(Builtin.firstCells size m x).run P w'= .ok news.toArray w')
  (hl:news.length=m*size) (h1:∀u∈news,u.oneCell'=true) (PC:n+m<=maxLen) (xI:(n+m)*bytes<=140737488355328):
  ∃v' w',(Builtin.append_ #[t,t'] ty #[v,x]).run P w= .ok v' w'/\w'.ownsRow 0 e size v' (n+m) (xs++news)/\w.grownBy w' v.ownBlock/\∀b,aA v'=some b->aA v=some b\/w.heap.size<=b:=by
 have Ni:(xs++news).length=(n+m)*size:=by rw [C!,gN.1,hl,h?]
 have grown:∀(lx:Nat) (row:Option Nat),
   (w.drew.alloc (.cells (xs.toArray++(news.toArray++Builtin.zeroCells z.cells (grownCap w (n+m) lx e-(n+m)))) e)).ownsRow 0 e size
     (.slice (some ⟨w.heap.size,0,none⟩) (n+m) (grownCap w (n+m) lx e)) (n+m) (xs++news)/\
   w.grownBy (w.drew.alloc (.cells (xs.toArray++(news.toArray++Builtin.zeroCells z.cells (grownCap w (n+m) lx e-(n+m)))) e)) row:=by
  intro lx row;have Ek:=grownCap_ge w (n+m) lx e;have Cr:grownCap w (n+m) lx e<=maxLen:=grownCap_le_maxLen w (n+m) lx e PC;refine⟨⟨Ni, .inr ⟨w.heap.size,_,_,rfl,by omega,heap_alloc_new w.drew _,Ek,Cr,?_,?_⟩⟩,⟨rfl,rfl,rfl,by simp,fun k hk _=>heap_alloc_old w.drew _ k hk⟩⟩
  . simp only [Array.size_append,List.size_toArray,size_zeroCells,hE.adz,gN.1,hl,<-h?];congr 1
    omega
  . simp only [Array.toList_append];rw [<-U!,<-Ni];exact List.take_left
 rcases gN.2 with⟨rfl,rfl⟩|⟨g,cap,cur,rfl,hbg,hg,hnc,Cr,dy,ay2⟩
 . have hx:xs= []:=Y! (by simpa using gN.1);subst hx;by_cases hm:m=0
   . subst hm;have hn:news= []:=Y! (by simpa using hl);subst hn;refine⟨.slice none 0 0,w,?_,by simpa using World.ownsRow_nil w 0 e size,⟨rfl,rfl,rfl,N! _,fun _ _ _=>rfl⟩,by simp [aA]⟩;obtain⟨hu,⟨d',Fm,rl⟩,⟨i,hi,hs,hb,hz⟩,J1,iT⟩:=hE;subst hs;have hf:=ir w rfl;rcases rl with rfl|⟨e',rfl⟩
     . simp [Builtin.append_,run_underlying hu,run_underlying Fm,sizeOf,typeInfo,hi,hlen,hf]
     . simp [Builtin.append_,run_underlying hu,run_underlying Fm,sizeOf,typeInfo,hi,hlen,hf]
   . have hold:∀w':World,w'.heap=w.heap->(Builtin.firstCells size 0 (.slice none 0 0)).run P w'= .ok ([]:List Value).toArray w':=fun w' _=>by simp [Builtin.firstCells]
     have hr:=mT (ty:=ty) hE hold hlen ir (by omega) PC xI;have hgr:=grown 0 (Value.ownBlock (.slice none 0 0));exact⟨_,_,hr,hgr.1,hgr.2,fun b hb=> .inr (by simp only [aA,A!] at hb;omega)⟩
 . by_cases zA:n+m<=cap
   . have rC:n*size+news.length<=cur.size:=by rw [hl,dy,<-h?];exact F? _ zA
     have hr:=AS (ty:=ty) hE hg hlen ir hl h1 zA dy;refine⟨_,_,hr,⟨Ni, .inr ⟨g,cap,_,rfl,hbg,setRow_heap w g cur _ e _ hg,zA,Cr,?_,?_⟩⟩,⟨rfl,rfl,rfl,by simp,fun k _ hk=>setRow_other w g k _ (fun e=>hk (by simp [Value.ownBlock,e]))⟩,fun b hb=> .inl hb⟩
     . simp only [List.size_toArray,C!,X!,V!,Array.length_toList];omega
     . rw [ay2,<-Ni];exact List.take_left
   . have holds:=gN.cells (g:=g) rfl
     have hold:∀w':World,w'.heap=w.heap->(Builtin.firstCells size n (.slice (some ⟨g,0,none⟩) n cap)).run P w'= .ok xs.toArray w':=fun w' hw'=>by
      have :=run_loadCells_list (P:=P) w' ⟨g,0,none⟩ xs (fun j v hv=>by rw [Fj hw'];exact holds j v hv);rw [gN.1] at this;simpa [Builtin.firstCells] using this
     have hr:=mT (ty:=ty) hE hold hlen ir (by omega) PC xI;have hgr:=grown cap (Value.ownBlock (.slice (some ⟨g,0,none⟩) n cap));exact⟨_,_,hr,hgr.1,hgr.2,fun b hb=> .inr (by simp only [aA,A!] at hb;omega)⟩
theorem aF.newRow(hB:aF C A β st a w) {dst:Option Nat}(hd:∀t,dst=some t->t<st.n) {d e:Nat} {row:List Ty} {l:List (Row row)} {cond:List Prop} {del:List Nat} {v':Value} {w':World} {rw :Option Nat} {xs:List Value}
  (gB:st.h d=none/\pB d=false) (hg:w.grownBy w' rw) (j7:∀b,rw=some b->∃k,aI del k=true/\(st.h k).isSome/\aA (β k)=some b) (iV:∀b,rw=some b->¬A b)
  (gN:w'.ownsRow 0 e row.length v' l.length xs) (pE:E2 (bC w A row) xs l) (hblk:∀b,aA v'=some b->rw=some b\/w.heap.size<=b):
  aF C A (b5 β d v') (st.put dst {cond:=cond,res:= .own d,del:=del,new:= [(d, .row e row l false)]}) (a.put dst v') w':=by
 have hK:dg w w' A A:=fun b hb=>⟨hb,hg.block b (hB.bound b hb) (fun h=>iV b h.symm hb)⟩
 have hf:∀k b,aw [(d,AB.row e row l false)] k=some b->k=d/\b= .row e row l false :=by
  intro k b h;simp only [aw] at h;by_cases hk:k=d
  . subst hk;simp only [bZ,K!,A!] at h;exact⟨rfl,h.symm⟩
  . simp [bc hk] at h
 refine hB.step (out:= {cond:=cond,res:= .own d,del:=del,new:= [(d, .row e row l false)]}) hd ?_ (by simp [aw]) ?_ hK hg.os hg.tape hg.output hg.size ?_ (fun b hb=>Y? (hB.bound b hb) hg.size) (fun b hb=> .inl hb) (by simp [aw]) ?_ ?_ ?_ ?_
 . intro k b h;obtain⟨rfl,_⟩:=hf k b h;exact gB
 . intro k h;have :k≠d:=by rintro rfl;simp [aw] at h
   simp [b5,this]
 . intro b hb ht;refine hg.block b hb (fun h=> ?_);obtain⟨k,h1,h2,h3⟩:=j7 b h.symm;exact ht k ⟨h2, .inr h1⟩ h3
 . intro k ab h;obtain⟨rfl,rfl⟩:=hf k ab h;refine⟨xs,by simpa [b5] using gN,bX (fun c x hx=>bY hK row c x hx) l xs pE,fun b hb=> ?_⟩;simp only [b5,H?] at hb;simp only [B?,Z?];rcases hblk b hb with h|h
   . exact iV b h
   . intro hA;exact absurd (hB.bound b hA) (by omega)
 . intro k b ab h hb;obtain⟨rfl,_⟩:=hf k ab h;simp only [b5,H?] at hb;rcases hblk b hb with h|h
   . exact .inr (let⟨k,h1,h2,h3⟩:=j7 b h;⟨k,h1,h2,h3⟩)
   . exact .inl h
 . intro k k' b h h' _ _;obtain⟨x,hx⟩:=O!.1 h;obtain⟨y,hy⟩:=O!.1 h';rw [(hf k x hx).1,(hf k' y hy).1]
 . simp only [aa,b5,H?,true_and]
   obtain⟨ad,l',c,rfl⟩:∃ad l c,v'= .slice ad l c:=by
    rcases gN.2 with⟨rfl,_⟩|⟨g,cap,cur,rfl,_⟩
    . exact⟨_,_,_,rfl⟩
    . exact⟨_,_,_,rfl⟩
   rfl
end
end Go.Vg

end
section
namespace Go.Vg
open Go
section
variable {P:Program} {C:Ctx} {A:Nat->Prop} {β:Nat->Value} {st:St} {a:Act} {w:World} {T:cA}
theorem AT(hT:bO T P) {t e:TypeId} {te:TE}(h1:xG T t=some e)(h2:rq T t=some te):P.underlying t=some (.slice e)/\T.find e=some te/\∃i,P.info? e=some i/\i.size=te.size/\i.bytes=te.bytes/\i.zero=some te.zero:=by
 unfold xG at h1;unfold rq at h2;cases ht:T.find t with
 |none=>grind
 |some tt=>
  simp [ht] at h1 h2;cases hd:tt.desc with
  |slice e'=>
   simp [hd,Option.some.injEq] at h1 h2;subst h1;exact⟨by grind[kA],h2,(hT.ok _ _ h2).2⟩
  |_=>grind
theorem vU(z:Value):(ofConst z).cells.length=z.cells.size:=by
 unfold ofConst;split
 . simp [AV.cells,Value.cells]
 . rename_i h
   have h1:(tM z).cells.length=1:=by
    unfold tM;split
    . split<;>rfl
    . split<;>rfl
    . rename_i s;cases Nat.ble s.data.toList.length 1000000<;>rfl
    all_goals rfl
   rw [h1];cases z<;>first|rfl|grind
theorem tW {n k x:Nat}(h:n<=x/k):n*k<=x:=p? (F? _ h) (Nat.div_mul_le_self x k)
theorem qh(hT:bO T P) {t:TypeId} {f:TypeDesc->Bool}(h:dW T t f=true):∃d,P.underlying t=some d/\f d=true :=by
 grind[dW,kA]
theorem Sw {d:TypeDesc}(h:EE d=true):d= .string\/∃e,d= .slice e:=by
 cases d<;>simp_all [EE]
theorem Fo(hB:aF C A β st a w) {k e:Nat} {row:List Ty} {l:List (Row row)}(h:st.h k=some (.row e row l false)):
  ∃xs,w.ownsRow 0 e row.length (β k) l.length xs/\E2 (bC w A row) xs l/\∀b,aA (β k)=some b->¬A b:=by
 obtain⟨xs,h1,h2,h3⟩:=hB.blocks k _ h;grind
theorem AU {v:Value}(h:(∃ad l c,v= .slice ad l c)):v.ownBlock=aA v:=by
 obtain⟨ad,l,c,rfl⟩:=h;cases ad<;>rfl
theorem qi {w:World} {e size n:Nat} {v:Value} {xs:List Value}(h:w.ownsRow 0 e size v n xs):∃ad l c,v= .slice ad l c:=by
 rcases h.2 with⟨rfl,_⟩|⟨g,cap,cur,rfl,_⟩
 . grind
 grind
theorem J2(hT:bO T P)(hB:aF C A β st a w) {dst:Option Nat}(hd:∀t,dst=some t->t<st.n) {d:Nat}(gB:st.h d=none/\pB d=false) {t t' ty:TypeId} {s x:AV} {vs vx:Value}(hs:aa w A β vs s)(hx:aa w A β vx x) {out:Out}
  (h:nH T st.h d t t' s x=some out) (hc:∀p∈out.cond,p):∃v' w',(Builtin.append_ #[t,t'] ty #[vs,vx]).run P w= .ok v' w'/\Rel C (st.put dst out) (a.put dst v') w':=by
 unfold nH at h;split at h
 . rename_i e te he lz;split at h
   . rename_i row j7;obtain⟨hu,Nj,i,hi,py,PD,Sx⟩:=AT hT he lz;cases hq:(Nat.beq row.length te.size&&Nat.blt 0 te.size&&Nat.beq (ofConst te.zero).cells.length te.size&&dW T t' EE) with
     |false=>grind
     |true=>
      simp only [hq,cond_true] at h;simp only [Bool.and_eq_true] at hq;obtain⟨⟨⟨q1,q2⟩,q3⟩,q4⟩:=hq;have q1:=Nat.eq_of_beq_eq_true q1;have q2:=Nat.le_of_ble_eq_true q2;have q3:=Nat.eq_of_beq_eq_true q3;obtain⟨d',Fm,rl⟩:=qh hT q4;have hE:UO P t t' e row.length te.bytes te.zero:=⟨hu,⟨d',Fm,Sw rl⟩,⟨i,hi,by omega,PD,Sx⟩,by grind[vU],by omega⟩;split at h
      . rename_i m hm;obtain⟨cs,fR⟩:=EG (P:=P) hB hx hm;have hlen:=fp m cs fR.rd;have iI:=vT m cs fR.rd
        have ir:∀w':World,w'.heap=w.heap->(Builtin.firstCells row.length m.length vx).run P w'= .ok cs.toArray w':=fun w' hw'=>by
         have :=fR.first w' hw' m.length (Nat.le_refl _);grind
        split at h
        . 
         simp only [Option.some.injEq] at h;subst h;have nN:=eC hc;simp only [aa] at hs;subst hs;have gN:=World.ownsRow_nil w 0 e row.length;obtain⟨v',w',g1,g2,g3,g4⟩:=nM (ty:=ty) hE gN fR.len ir hlen iI (by have :=Nat.le_trans nN (Nat.div_le_self _ _);grind[maxLen]) (by simp_all[tW]);refine⟨v',w',g1,Rel.ly (hB.newRow hd gB (rw :=none) (by grind[Value.ownBlock]) (by simp) (by simp) (by grind) fR.rd (fun b hb=> ?_))⟩;grind[aA]
        . rename_i k;split at h
          . rename_i e' jn l hk;cases qg:Nat.beq e' e with
            |false=>grind
            |true=>
             have qg:=E! qg;subst qg;simp only [bZ,K!] at h;split at h
             . rename_i l' jA;simp only [Option.some.injEq] at h;subst h;have nN:=eC hc;obtain⟨er,jA⟩:=iU jA;subst er;simp only at jA;subst jA;simp only [aa] at hs;obtain⟨rfl,_⟩:=hs;obtain⟨xs,o1,o2,o3⟩:=Fo hB hk;obtain⟨v',w',g1,g2,g3,g4⟩:=nM (ty:=ty) hE o1 fR.len ir hlen iI (by have :=Nat.le_trans nN (Nat.div_le_self _ _);unfold maxLen;omega) (tW nN);rw [AU (qi o1)] at g3;refine⟨v',w',g1,Rel.ly (hB.newRow hd gB (rw :=aA (β k)) g3 (fun b hb=>⟨k,by simp [aI],by simp [hk],hb⟩) o3 (by simpa using g2) (iq l m xs cs o2 fR.rd) (fun b hb=>g4 b hb))⟩
             grind
          grind
        . rename_i k n;split at h
          . rename_i e' jn l hk;cases qg:Nat.beq e' e with
            |false=>simp [qg] at h
            |true=>
             have qg:=E! qg;subst qg;simp only [bZ,K!] at h;split at h
             . rename_i l' jA;simp only [A!] at h;subst h;have nN:=eC hc;obtain⟨er,jA⟩:=iU jA;subst er;simp only at jA;subst jA;obtain⟨xs,o1,o2,o3⟩:=Fo hB hk;have tX:=eM l xs n o2;simp only [aa] at hs
               have gN:w.ownsRow 0 e' jn.length vs n (xs.take (n*jn.length))/\n<=l.length/\aA vs=aA (β k):=by
                rcases hs with⟨h1,h2,h3⟩|⟨b,mm,cap,h1,h2,h3⟩
                . subst h3;subst h2;rw [h1];exact⟨by simpa using World.ownsRow_nil w 0 e' jn.length,by omega,rfl⟩
                . rcases o1.2 with⟨g1,_⟩|⟨g,iS,cur,g1,g2,g3,g4,g5,g6,g7⟩
                  . rw [h1] at g1;cases g1
                  . rw [h1] at g1;simp only [Value.slice.injEq,A!,Addr.mk.injEq,and_true] at g1;obtain⟨rfl,rfl,rfl⟩:=g1;refine⟨⟨?_, .inr ⟨b,cap,cur,h2,by omega,g3,by omega,g5,g6,?_⟩⟩,h3,by rw [h1,h2];rfl⟩
                    . rw [X!,o1.1];exact y? (F? _ h3)
                    . rw [<-g7,List.take_take,y? (F? _ h3)]
               obtain⟨gN,hnl,hbv⟩:=gN;obtain⟨v',w',g1,g2,g3,g4⟩:=nM (ty:=ty) hE gN fR.len ir hlen iI (by have :=Nat.le_trans nN (Nat.div_le_self _ _);unfold maxLen;omega) (tW nN);rw [AU (qi gN),hbv] at g3;refine⟨v',w',g1,Rel.ly (hB.newRow hd gB (rw :=aA (β k)) g3 (fun b hb=>⟨k,by simp [aI],by simp [hk],hb⟩) o3 ?_ (iq _ m _ cs tX.1 fR.rd) (fun b hb=>by rw [<-hbv];exact g4 b hb))⟩;have :(l.take n++m).length=n+m.length:=by simp;omega
               rw [this];exact g2
             . cases h
          . cases h
        . rename_i r l;split at h
          . rename_i l' jA;simp only [A!] at h;subst h;have hc0:=eC hc;have nN:=axI hc;obtain⟨er,jA⟩:=iU jA;subst er;simp only at jA;subst jA;simp only [aa] at hs;obtain⟨pE,ad,rfl⟩:=hs;obtain⟨Sy,Sz⟩:=Nh (P:=P) pE;have SA:=fp l Sy Sz.rd
            have hold:∀w':World,w'.heap=w.heap->(Builtin.firstCells r.length l.length (.slice ad l.length l.length)).run P w'= .ok Sy.toArray w':=fun w' hw'=>by
             have :=Sz.first w' hw' l.length (N! _);rwa [<-SA,List.take_length] at this
            have PC:l.length+m.length<=maxLen:=by have :=Nat.le_trans nN (Nat.div_le_self _ _);unfold maxLen;omega
            have hr:=mT (ty:=ty) hE hold fR.len ir (by omega) PC (tW nN);refine⟨_,_,hr,Rel.ly (hB.newRow hd gB (rw :=none) (xs:=Sy++cs) ⟨rfl,rfl,rfl,by simp,fun k hk _=>heap_alloc_old w.drew _ k hk⟩ (by simp) (by simp) ?_ (iq l m Sy cs Sz.rd fR.rd) (fun b hb=> .inr (by simp only [aA,A!] at hb;omega)))⟩;have Ek:=grownCap_ge w (l.length+m.length) l.length e;have Cr:=grownCap_le_maxLen w (l.length+m.length) l.length e PC;have hll:(Sy++cs).length=(l.length+m.length)*r.length:=by rw [C!,SA,hlen,h?]
            rw [C!];refine⟨hll, .inr ⟨w.heap.size,_,_,rfl,by omega,heap_alloc_new w.drew _,Ek,Cr,?_,?_⟩⟩
            . simp only [Array.size_append,List.size_toArray,size_zeroCells,hE.adz,SA,hlen,<-h?];congr 1
              omega
            . simp only [Array.toList_append];rw [<-U!,<-hll];exact List.take_left
          . cases h
        grind
      grind
   grind
 grind
end
end Go.Vg

end
section
namespace Go.Vg
open Go
section
variable {P:Program} {C:Ctx} {A:Nat->Prop} {β:Nat->Value} {st:St} {a:Act} {w:World} {T:cA}
theorem one_cell {v:Value}:∀(x:AV),x.one=true->aa w A β v x->v.oneCell'=true
 | .dz,h,_=>by grind[AV.one]
 | .undef,h,_=>by grind[AV.one]
 | .agg _,h,_=>by grind[AV.one]
 | .b4 _,h,_=>by grind[AV.one]
 | .int _ _,_,h=>by rw [h.1];rfl
 | .bool _,_,h=>by rw [h];rfl
 | .tt,_,h=>by rw [h];rfl
 | .ff,_,h=>by rw [h];rfl
 | .str _,_,h=>by rw [h.1];rfl
 | .nil,_,h=>by rw [h];rfl
 | .jM,_,h=>by rw [h];rfl
 | .pw _ _,_,h=>by obtain⟨b,h,_⟩:=h;rw [h];rfl
 | .kq,_,h=>by rw [h];rfl
 | .sl _ _,_,h=>by grind[aa,Ng]
 | .full _ _,_,h=>by grind[aa,Ng]
 | .gR _ _ _,_,h=>by obtain⟨b,o,cs,h,_⟩:=h;rw [h];rfl
 | .qd _ _,_,h=>by obtain⟨b,o,cs,h,_⟩:=h;rw [h];rfl
 | .own _,_,h=>by grind[aa]
 | .pre _ _,_,h=>by
   rcases h with⟨_,h,_⟩|⟨b,m,cap,_,h,_⟩<;>rw [h]<;>rfl
 | .view _ _ _ _,_,h=>by
   rcases h with⟨_,ad,c,h,_⟩|⟨b,m,cap,iS,_,h,_⟩<;>rw [h]<;>rfl
 | .ref _ _,_,h=>by obtain⟨b,_,h⟩:=h;rw [h];rfl
 | .elem _ _ _ _,_,h=>by obtain⟨b,m,cap,_,h⟩:=h;rw [h];rfl
 | .fn _ _ _,_,h=>by obtain⟨_,_,h,_⟩:=h;rw [h];rfl
 | .ia _ _,_,h=>by obtain⟨_,_,_,h,_⟩:=h;rw [h];rfl
theorem cells_one {v:Value}(h:v.oneCell'=true):v.cells= #[v]:=by
 cases v<;>simp_all [Value.oneCell',Value.cells]
theorem PE:∀(xs:List AV) (vs:List Value),xs.all AV.one=true->ai w A β vs xs->∀v∈vs,v.oneCell'=true
 | [],vs,_,h=>by grind[ai]
 |x::xs,vs,ho,h=>by
  obtain⟨v,cg,rfl,h1,h2⟩:=h;simp only [List.all_cons,B!] at ho;intro u hu;rcases L!.1 hu with rfl|hu
  . exact one_cell x ho.1 h1
  . exact PE xs cg ho.2 h2 u hu
theorem tY {x:AV} {v:Value}(ho:x.cells.all AV.one=true)(h:aa w A β v x):ai w A β v.cells.toList x.cells/\(∀u∈v.cells.toList,u.oneCell'=true)/\v.cells.size=x.cells.length:=by
 by_cases hx:∃cs,x= .agg cs
 . obtain⟨cs,rfl⟩:=hx;obtain⟨arr,rfl,h⟩:=h;have :=dA cs _ h;grind[PE,Value.cells,AV.cells]
 . have hc:x.cells= [x]:=by cases x<;>first|rfl|grind
   rw [hc] at ho |-;have ho':x.one=true :=by grind
   have h1:=one_cell x ho' h;rw [cells_one h1];refine⟨by grind[ai],by grind,rfl⟩
theorem eD:∀(xs ys:List AV) (us vs:List Value),ai w A β us xs->ai w A β vs ys->ai w A β (us++vs) (xs++ys)
 | [],ys,us,vs,h,h'=>by grind[ai]
 |x::xs,ys,us,vs,h,h'=>by
  obtain⟨v,zu,rfl,h1,h2⟩:=h;exact⟨v,zu++vs,rfl,h1,eD xs ys zu vs h2 h'⟩
theorem vV {cs vs:List AV} {arr us:List Value} {off:Nat}(h:ai w A β arr cs)(hv:ai w A β us vs):ai w A β (arr.take off++us++arr.drop (off+us.length)) (Aw cs off vs):=by
 have hl:=dA vs us hv;rw [hl];exact eD _ _ _ _ (eD _ _ _ _ (gM cs arr off h).1 hv) (gM cs arr _ h).2
theorem qj(hT:bO T P) {t n:Nat}(h:abH T t n=true):∃i,P.info? t=some i/\i.size=n:=by
 unfold abH at h;cases ht:T.find t with
 |none=>grind
 |some te=>
  obtain⟨_,i,hi,hs,_⟩:=hT.ok t te ht;simp_all
theorem mU {t:TypeId} {i:TypeInfo}(hi:P.info? t=some i) {v:Value}(hs:v.cells.size=i.size)(h1:∀u∈v.cells.toList,u.oneCell'=true) {b off:Nat} {arr:Array Value} {e:TypeId}(hg:w.heap[b]? =some (.cells arr e (0,0)))
  (rC:off+v.cells.size<=arr.size):(Instr.storeAt t (.pointer (some ⟨b,off,none⟩)) v).run P w= .ok () (w.setRow b (arr.toList.take off++v.cells.toList++arr.toList.drop (off+v.cells.toList.length)).toArray):=by
 have :=run_storeCells_at P b off e v.cells.toList 0 arr w hg (by omega) h1;simp_all[Nat.add_zero,Instr.storeAt,Instr.sureAddr,storeVar,sizeOf,typeInfo,hi]
theorem J3(b:Nat)(cs:Array Value):(w.setRow b cs).os=w.os/\(w.setRow b cs).tape=w.tape/\(w.setRow b cs).output=w.output/\(w.setRow b cs).heap.size=w.heap.size:=⟨rfl,rfl,rfl,by simp⟩
theorem aF.write(hB:aF C A β st a w) {dst:Option Nat}(hd:∀t,dst=some t->t<st.n) {out:Out} {k b:Nat} {ab:AB} {fz:List Nat} {new:Array Value} {e:Nat} {lx:Array Value} {v:Value}
  (fQ:(st.h k).isSome) (hb:aA (β k)=some b) (iV:¬A b) (hg:w.heap[b]? =some (.cells lx e (0,0)))
  (rz:out.new= []/\out.del= []/\out.ib=(k,ab)::cJ st.h fz) (zB:∀j∈fz,j≠k/\∃e row l fr,st.h j=some (.row e row l fr))
  (gv:∀A',(∀b',A b'->A' b')->(∀b',A' b'->A b'\/∃j∈fz,aA (β j)=some b')->(∀j∈fz,∀b',aA (β j)=some b'->A' b')->BR (w.setRow b new) A' β k ab)
  (sL:aa (w.setRow b new) A β v out.res) (aGP:out.raw= []:=by rfl):Rel C (st.put dst out) (a.put dst v) (w.setRow b new):=by
 obtain⟨o1,o2,o3⟩:=rz;let A':Nat->Prop :=fun b'=>A b'\/∃j∈fz,aA (β j)=some b'
 have fP:∀j b',(st.h j).isSome->aA (β j)=some b'->b'<w.heap.size:=by
  intro j b' hj bS;obtain⟨ab,gv⟩:=O!.1 hj;have gw:=hB.blocks j ab gv;cases ab with
  |arr row l=>
   obtain⟨b'',arr,e,h1,h2,_⟩:=gw;rw [h1] at bS;simp only [aA,A!] at bS;subst bS;exact(G?.1 h2).1
  |cells cs=>
   obtain⟨b'',arr,e,h1,h2,_⟩:=gw;grind[aA,Option.some.injEq,Array.getElem?_eq_some_iff]
  |row e row l fr=>
   obtain⟨xs,h1,_⟩:=gw;rcases h1.2 with⟨hn,_⟩|⟨g,cap,cur,hv,_,hg,_⟩
   . rw [hn] at bS;simp [aA] at bS
   grind[aA,Option.some.injEq,Array.getElem?_eq_some_iff]
  |gS e j row l i=>
   obtain⟨xs,v0,h1,_⟩:=gw;rcases h1.2 with⟨hn,_⟩|⟨g,cap,cur,hv,_,hg,_⟩
   . grind[aA]
   grind[aA,Option.some.injEq,Array.getElem?_eq_some_iff]
  |views e j n m sz=>
   obtain⟨xs,h1,_⟩:=gw;rcases h1.2 with⟨hn,_⟩|⟨g,cap,cur,hv,_,hg,_⟩
   . grind[aA]
   grind[aA,Option.some.injEq,Array.getElem?_eq_some_iff]
 have ou:∀b',b'≠b->(w.setRow b new).heap[b']? =w.heap[b']? :=fun b' h=>setRow_other w b b' new (fun h'=>h h');have hK0:dg w (w.setRow b new) A A:=fun b' h=>⟨h,ou b' (fun h'=>iV (h'▸h))⟩;have hK:dg w (w.setRow b new) A A':=fun b' h=>⟨.inl h,ou b' (fun h'=>iV (h'▸h))⟩;have SB:dg (w.setRow b new) (w.setRow b new) A A':=fun b' h=>⟨.inl h,rfl⟩
 have hfr:∀(fz:List Nat) j x,aw (cJ st.h fz) j=some x->j∈fz/\∃e row l fr,st.h j=some (.row e row l fr)/\x= .row e row l true :=by
  intro fz;induction fz with
  |nil=>grind[cJ,aw]
  |cons i fz ih=>
   intro j x h;simp only [cJ] at h;split at h
   . rename_i e row l fr hi;simp only [aw] at h;by_cases Cs:j=i
     . grind
     simp_all[bc,P!]
   grind
 have aGQ:∀(fz:List Nat) j,j∈fz->(∃e row l fr,st.h j=some (.row e row l fr))->(aw (cJ st.h fz) j).isSome:=by
  intro fz;induction fz with
  |nil=>grind
  |cons i fz ih=>
   intro j h hr;simp only [cJ];by_cases Cs:j=i
   . subst Cs;obtain⟨e,row,l,fr,hr⟩:=hr;simp [hr,aw]
   . have :=ih j ((L!.1 h).resolve_left Cs) hr;split
     . simp only [aw,bc Cs,P!];exact this
     . exact this
 have AM:∀j x,aw out.ib j=some x->(j=k/\x=ab)\/(j≠k/\j∈fz/\∃e row l fr,st.h j=some (.row e row l fr)/\x= .row e row l true):=by
  intro j x h;rw [o3] at h;simp only [aw] at h;by_cases AW:j=k
  . subst AW;simp only [bZ,K!,A!] at h;exact .inl ⟨rfl,h.symm⟩
  . simp only [bc AW,P!] at h;obtain⟨h1,h2⟩:=hfr fz j x h;exact .inr ⟨AW,h1,h2⟩
 have zy:lG st out k:=⟨fQ, .inl (by rw [o3];simp [aw])⟩;refine⟨A',β,hB.step hd (by rw [o1];simp [aw]) ?_ (fun _ _=>rfl) hK rfl rfl rfl (by simp) ?_ ?_ ?_ ?_ (by rw [o1];simp [aw]) (by rw [o1];simp [aw]) (by rw [o1];simp [aw]) (jo SB _ _ sL) aGP⟩
 . intro j x h;rcases AM j x h with⟨rfl,_⟩|⟨_,_,e,row,l,fr,h,_⟩
   . exact fQ
   . simp [h]
 . intro b' _ ht;exact ou b' (fun h=>ht k zy (h▸hb))
 . intro b' h;rw [(J3 b new).2.2.2];rcases h with h|⟨j,hj,SC⟩
   . exact hB.bound b' h
   . obtain⟨_,e,row,l,fr,hr⟩:=zB j hj;exact fP j b' (by simp [hr]) SC
 . intro b' h;rcases h with h|⟨j,hj,SC⟩
   . exact .inl h
   . obtain⟨AW,hr⟩:=zB j hj;refine .inr (.inr ⟨j,⟨by obtain⟨e,row,l,fr,hr⟩:=hr;simp [hr], .inl ?_⟩,SC⟩);rw [o3];simp only [aw,bc AW,P!];exact aGQ fz j hj hr
 . intro j x h _;rw [o1];simp only [c6];rcases AM j x h with⟨rfl,rfl⟩|⟨AW,hj,e',row,l,fr,hr,rfl⟩
   . exact gv A' (fun _ h=> .inl h) (fun _ h=>h) (fun j hj b' h=> .inr ⟨j,hj,h⟩)
   . obtain⟨xs,h1,h2,h3⟩:=hB.blocks j _ hr;have vW:∀b',aA (β j)=some b'->b'≠b:=fun b' h h'=>AW (hB.apart j k b (by simp [hr]) fQ (h'▸h) hb);refine⟨xs,gJ h1 (fun b' h=>ou b' (vW b' h)),bX (fun c x hx=>bY hK row c x hx) l xs h2,fun b' h=> ?_⟩;simp only [H?];exact .inr ⟨j,hj,h⟩
theorem Ct(hT:bO T P)(hB:aF C A β st a w) {dst:Option Nat}(hd:∀t,dst=some t->t<st.n) {t:TypeId} {k off:Nat} {x:AV} {vp vx:Value}(hp:aa w A β vp (.ref k off))(hx:aa w A β vx x) {out:Out}
  (h:iP T st.h t (.ref k off) x=some out):∃w',(Instr.storeAt t vp vx).run P w= .ok () w'/\Rel C (st.put dst out) (a.put dst undef) w':=by
 simp [iP] at h;split at h
 . rename_i cs hk;cases hq:(x.cells.all AV.one&&abH T t x.cells.length&&Nat.ble (off+x.cells.length) cs.length) with
   |false=>grind
   |true=>
    simp [hq,K!,A!] at h;subst h;simp only [B!] at hq;obtain⟨⟨q1,q2⟩,q3⟩:=hq;have q3:=M! q3;obtain⟨i,hi,cZ⟩:=qj hT q2;obtain⟨c1,c2,c3⟩:=tY q1 hx;obtain⟨b,cB,rfl⟩:=hp;obtain⟨b',arr,e,h1,h2,h3,h4,h5⟩:=hB.blocks k _ hk;rw [cB] at h1;simp at h1;subst h1;have hlen:=dA cs _ h4;have hb:aA (β k)=some b:=by rw [cB];rfl
    refine⟨_,mU hi (by omega) c2 h2 (by grind),?_⟩;refine hB.write hd (k:=k) (fz:= []) (ab:= .cells (Aw cs off x.cells)) (by grind) hb h3 h2 ⟨rfl,rfl,rfl⟩ (by simp) ?_ (by rfl);intro A' hA1 Fp hA3;have hK:dg w (w.setRow b (arr.toList.take off++vx.cells.toList++arr.toList.drop (off+vx.cells.toList.length)).toArray) A A':=fun b' h=>⟨hA1 b' h,setRow_other w b b' _ (fun h'=>h3 (h'▸h))⟩;refine⟨b,_,e,cB,setRow_heap w b arr _ e _ h2,fun h=> ?_,e7 hK _ _ (vV h4 c1),?_⟩
    . grind
    grind
 grind
end
end Go.Vg

end
section
namespace Go.Vg
open Go
section
variable {P:Program} {C:Ctx} {A A':Nat->Prop} {β:Nat->Value} {st:St} {a:Act} {w:World} {T:cA}
theorem KA {k:IntKind} {n:Int}(h:lo k<=n/\n<=hi k):DI.toInt k (DI.ofInt k n)=n:=by
 cases k<;>try rfl
 simp [lo,hi] at h;simp only [DI.toInt,DI.ofInt,UInt8.toNat_ofNat'];omega
theorem Fq:∀(t:Ty) (x:AV) (v:Value) (d:D t),aa w A β v x->Pt t x=some d->Rd w A t v d:=by
 intro t x v d h hd;unfold Pt at hd;split at hd
 . rename_i k k' n;split at hd
   . rename_i hk;subst hk;simp only [A!] at hd;subst hd;simp only [aa] at h;simp only [Rd,KA h.2];exact h
   . cases hd
 . simp only [A!] at hd;subst hd;simpa only [Rd,aa] using h
 . simp only [A!] at hd;subst hd;simpa only [Rd,aa] using h
 . simp only [A!] at hd;subst hd;simpa only [Rd,aa] using h
 . simp only [A!] at hd;subst hd;simpa only [Rd,aa] using h
 . obtain⟨e,hd⟩:=iU hd;subst e;simp only at hd;subst hd;simpa only [aa] using h
 . obtain⟨e,hd⟩:=iU hd;subst e;simp only at hd;subst hd;simp only [aa] at h;exact h.1
 . simp only [A!] at hd;subst hd;simp only [aa] at h;simp only [Rd];exact⟨none,0,[],by simpa using h,by simp,by simp,by simp [E2],by simp⟩
 . cases hd
theorem qk {t:Ty}:∀(ts:List Ty) (x:D t) (y:Row ts),Row.hd (Row.mk x y:Row (t::ts))=x
 | [],_,_=>rfl
 |_::_,_,_=>rfl
theorem vX {t:Ty}:∀(ts:List Ty) (x:D t) (y:Row ts),Row.tl (Row.mk x y:Row (t::ts))=y
 | [],_,_=>rfl
 |_::_,_,_=>rfl
theorem ql:∀(ts:List Ty) (xs:List AV) (vs:List Value) (r:Row ts),ai w A β vs xs->lu ts xs=some r->bC w A ts vs r
 | [],[],vs,r,h,_=>by simpa only [ai,bC] using h
 |t::ts,x::xs,vs,r,h,hr=>by
  simp only [ai] at h;obtain⟨v,cg,rfl,h1,h2⟩:=h;simp only [lu] at hr;split at hr
  . rename_i d y hd hy;simp only [A!] at hr;subst hr;simp only [bC];exact⟨v,cg,rfl,by rw [qk];exact Fq t x v d h1 hd,by rw [vX];exact ql ts xs cg y h2 hy⟩
  . cases hr
 | [],_::_,_,_,_,hr=>by simp [lu] at hr
 |_::_,[],_,_,_,hr=>by simp [lu] at hr
theorem Dn:∀(ts:List Ty) (r:Row ts) (j:Nat) (x:AV) (cs:List Value) (v:Value) (r':Row ts),bC w A ts cs r->aa w A β v x->setRow ts r j x=some r'->bC w A ts (cs.set j v) r'/\j<cs.length
 | [],_,_,_,_,_,_,_,_,hr=>by simp [setRow] at hr
 |t::ts,r,0,x,cs,v,r',h,hx,hr=>by
  simp only [bC] at h;obtain⟨u,fD,rfl,h1,h2⟩:=h;simp only [setRow] at hr;split at hr
  . rename_i d hd;simp only [A!] at hr;subst hr;simp only [bC,List.set_cons_zero];exact⟨⟨v,fD,rfl,by rw [qk];exact Fq t x v d hx hd,by rw [vX];exact h2⟩,by simp⟩
  . cases hr
 |t::ts,r,j+1,x,cs,v,r',h,hx,hr=>by
  simp only [bC] at h;obtain⟨u,fD,rfl,h1,h2⟩:=h;simp only [setRow] at hr;split at hr
  . rename_i y hy;simp only [A!] at hr;subst hr;obtain⟨g1,g2⟩:=Dn ts _ j x fD v y h2 hx hy;simp only [bC,List.set_cons_succ];exact⟨⟨u,_,rfl,by rw [qk];exact h1,by rw [vX];exact g1⟩,by simp [g2]⟩
  . cases hr
theorem PF(cs:List Value)(j:Nat)(v:Value)(us:List Value)(h:j<cs.length):(cs.set j v).take (j+1)++us++(cs.set j v).drop (j+1+us.length)=cs.take j++(v::us)++cs.drop (j+(v::us).length):=by
 have e1:(cs.set j v).take (j+1)=cs.take j++ [v]:=by
  rw [List.take_succ_eq_append_getElem (by simpa using h)];simp [List.take_set_of_le]
 have e2:(cs.set j v).drop (j+1+us.length)=cs.drop (j+(us.length+1)):=by
  rw [List.drop_set_of_lt (by omega)];congr 1;omega
 rw [e1,e2];simp
theorem tZ(ts:List Ty):∀(xs:List AV) (r:Row ts) (j:Nat) (cs us:List Value) (r':Row ts),bC w A ts cs r->ai w A β us xs->oF ts r j xs=some r'->bC w A ts (cs.take j++us++cs.drop (j+us.length)) r'/\(us≠ []->j+us.length<=cs.length)
 | [],r,j,cs,us,r',h,hx,hr=>by
   simp only [ai] at hx;subst hx;simp only [oF,A!] at hr;subst hr;simpa using h
 |x::xs,r,j,cs,us,r',h,hx,hr=>by
  simp only [ai] at hx;obtain⟨v,zu,rfl,h1,h2⟩:=hx;simp only [oF] at hr;split at hr
  . rename_i y hy;obtain⟨g1,g2⟩:=Dn ts r j x cs v y h h1 hy;obtain⟨f1,f2⟩:=tZ ts xs y (j+1) (cs.set j v) zu r' g1 h2 hr;rw [PF cs j v zu g2] at f1;refine⟨f1,fun _=> ?_⟩;by_cases hu:zu= []
    . subst hu;simp;omega
    . have :=f2 hu;simp at this |-;omega
  . cases hr
theorem pZ(hB:aF C A β st a w) {x:AV} {v:Value}(h:aa w A β v x)(hA:∀b,A b->A' b)(mc:∀k∈(gu st.h x).2,∀b,aA (β k)=some b->A' b):
  aa w A' β v (gu st.h x).1/\∀k∈(gu st.h x).2,∃e row l fr,st.h k=some (.row e row l fr):=by
 have hK:dg w w A A':=fun b hb=>⟨hA b hb,rfl⟩;unfold gu at mc |-;split at mc
 . rename_i k;simp only [aa] at h;split at mc
   . rename_i e row l fr hk;refine⟨?_,fun j hj=>by simp at hj;subst hj;exact⟨e,row,l,fr,hk⟩⟩;simp only [aa,Rd];rcases ma hB hk with⟨g1,g2⟩|⟨b,cap,cs,g1,g2,g3,g4,g5⟩
     . subst g2;rw [h.1,g1];exact⟨none,0,[],rfl,by simp,by simp,by simp [E2],by simp⟩
     . rw [h.1,g1];exact⟨_,cap,cs,rfl,g2,g3,bX (fun c x hx=>bY hK row c x hx) l cs g4,fun _=>⟨b,0,rfl,mc k (by simp) b (by rw [g1];rfl),g5⟩⟩
   . exact⟨by simp [aa],by simp⟩
 . rename_i k n;simp only [aa] at h;split at mc
   . rename_i e row l fr hk;refine⟨?_,fun j hj=>by simp at hj;subst hj;exact⟨e,row,l,fr,hk⟩⟩;simp only [aa,Rd];rcases h with⟨h1,h2,h3⟩|⟨b',m,iS,h1,h2,h3⟩
     . subst h3;rw [h2];exact⟨none,0,[],by simp,by simp,by simp,by simp [E2],by simp⟩
     . rcases ma hB hk with⟨g1,g2⟩|⟨b,cap,cs,g1,g2,g3,g4,g5⟩
       . rw [g1] at h1;cases h1
       . rw [g1] at h1;simp only [Value.slice.injEq,A!,Addr.mk.injEq,and_true] at h1;obtain⟨rfl,rfl,rfl⟩:=h1;have hl:(l.take n).length=n:=by simp;omega
         refine⟨_,cap,cs.take (n*row.length),by rw [h2,hl],by rw [hl];omega,g3,bX (fun c x hx=>bY hK row c x hx) _ _ (eM l cs n g4).1,fun _=>⟨b,0,rfl,mc k (by simp) b (by rw [g1];rfl),iF g5⟩⟩
   . exact⟨by simp [aa],by simp⟩
 . rename_i k sz off n;simp only [aa] at h;split at mc
   . rename_i e row l fr hk;cases cZ:Nat.beq sz row.length with
     |false=>exact⟨by simp [aa],by simp⟩
     |true=>
      simp only [cZ,K!] at mc |-;have cZ:=E! cZ;subst cZ;refine⟨?_,fun j hj=>by simp at hj;subst hj;exact⟨e,row,l,fr,hk⟩⟩;simp only [aa,Rd];rcases h with⟨hn,ad,cap,h2,Cr⟩|⟨b',m,iS,vO,h1,h2,h3,h4,h5⟩
      . subst hn;rw [h2];exact⟨ad,cap,[],by simp,by simp,Cr,by simp [E2],by simp⟩
      . rcases ma hB hk with⟨g1,g2⟩|⟨b,cap,cs,g1,g2,g3,g4,g5⟩
        . rw [g1] at h1;cases h1
        . rw [g1] at h1;simp only [Value.slice.injEq,A!,Addr.mk.injEq,and_true] at h1;obtain⟨rfl,rfl,rfl⟩:=h1;have hl:((l.drop off).take n).length=n:=by simp;omega
          refine⟨_,vO,(cs.drop (off*row.length)).take (n*row.length),by rw [h2,hl],by rw [hl];omega,by omega,bX (fun c x hx=>bY hK row c x hx) _ _ (eM _ _ n (eM l cs off g4).2).1,fun _=>⟨b,_,rfl,mc k (by simp) b (by rw [g1];rfl),?_⟩⟩;have :=iF (n:=n*row.length) (oq (n:=off*row.length) g5);simpa using this
   . exact⟨by simp [aa],by simp⟩
 . exact⟨jo hK _ _ h,by simp⟩
end
end Go.Vg

end
section
namespace Go.Vg
open Go
section
variable {P:Program} {C:Ctx} {A A':Nat->Prop} {β:Nat->Value} {st:St} {a:Act} {w:World} {T:cA}
theorem KB(hB:aF C A β st a w)(hA:∀b,A b->A' b):∀(xs:List AV) (vs:List Value),ai w A β vs xs->(∀k∈(mN st.h xs).2,∀b,aA (β k)=some b->A' b)->
  ai w A' β vs (mN st.h xs).1/\∀k∈(mN st.h xs).2,∃e row l fr,st.h k=some (.row e row l fr)
 | [],vs,h,_=>by grind[ai,mN]
 |x::xs,vs,h,mc=>by
  obtain⟨v,cg,rfl,h1,h2⟩:=h;simp only [mN] at mc |-;obtain⟨p1,p2⟩:=pZ hB h1 hA (fun k hk=>mc k (by simp [hk]));obtain⟨q1,q2⟩:=KB hB hA xs cg h2 (fun k hk=>mc k (by simp [hk]));refine⟨by exact⟨v,cg,rfl,p1,q1⟩,fun k hk=> ?_⟩;rcases F!.1 hk with hk|hk
  . exact p2 k hk
  . exact q2 k hk
theorem vY(hB:aF C A β st a w)(hA:∀b,A b->A' b)(x:AV)(v:Value)(h:aa w A β v x)(mc:∀k∈(ny st.h x).2,∀b,aA (β k)=some b->A' b):
  aa w A' β v (ny st.h x).1/\∀k∈(ny st.h x).2,∃e row l fr,st.h k=some (.row e row l fr):=by
 unfold ny at mc |-;split at mc
 . grind[KB,aa]
 grind[pZ]
theorem Cu(hB:aF C A β st a w)(hA:∀b,A b->A' b):∀(xs:List AV) (vs:List Value),ai w A β vs xs->(∀k∈(kv st.h xs).2,∀b,aA (β k)=some b->A' b)->
  ai w A' β vs (kv st.h xs).1/\∀k∈(kv st.h xs).2,∃e row l fr,st.h k=some (.row e row l fr)
 | [],vs,h,_=>by grind[ai,kv]
 |x::xs,vs,h,mc=>by
  obtain⟨v,cg,rfl,h1,h2⟩:=h;simp only [kv] at mc |-;obtain⟨p1,p2⟩:=vY hB hA x v h1 (fun k hk=>mc k (by simp [hk]));obtain⟨q1,q2⟩:=Cu hB hA xs cg h2 (fun k hk=>mc k (by simp [hk]));refine⟨by exact⟨v,cg,rfl,p1,q1⟩,fun k hk=> ?_⟩;rcases F!.1 hk with hk|hk
  . exact p2 k hk
  . exact q2 k hk
theorem AX {h:bg}:∀(xs:List AV),(mN h xs).1.length=xs.length
 | []=>rfl
 |x::xs=>by simp [mN,AX xs]
theorem rD {h:bg}(x:AV):(ny h x).1.cells.length=x.cells.length:=by
 unfold ny;split
 . simp [AV.cells,AX]
 . rename_i hna;have hz:x.cells.length=1:=by cases x<;>first|rfl|grind
   rw [hz];unfold gu;split
   . split<;>rfl
   . split<;>rfl
   . split
     . rename_i sz _ _ _ _ rr _ _ _;cases Nat.beq sz rr.length<;>rfl
     . rfl
   omega
theorem Fu {x:AV} {v:Value}(h:aa w A β v x) {row:List Ty} {r r':Row row} {cs:List Value} {j:Nat}(hr:bC w A row cs r)(hs:oF row r j x.cells=some r'):
  ai w A β v.cells.toList x.cells/\bC w A row (cs.take j++v.cells.toList++cs.drop (j+v.cells.toList.length)) r'/\(∀u∈v.cells.toList,u.oneCell'=true)/\(v.cells.toList≠ []->j+v.cells.toList.length<=cs.length)/\v.cells.size=x.cells.length:=by
 have key:∀us,ai w A β us x.cells->bC w A row (cs.take j++us++cs.drop (j+us.length)) r'/\(∀u∈us,u.oneCell'=true)/\(us≠ []->j+us.length<=cs.length):=by
  grind[tZ,agh]
 by_cases hx:∃cs,x= .agg cs
 . obtain⟨xs,rfl⟩:=hx;simp [aa] at h;grind[Value.cells,AV.cells,dA]
 . have hc:x.cells= [x]:=by cases x<;>first|rfl|exact absurd ⟨_,rfl⟩ hx
   have ph:ai w A β [v] x.cells:=by rw [hc];exact⟨v,[],rfl,h,rfl⟩
   obtain⟨k1,k2,k3⟩:=key [v] ph;have h1:=k2 v (by simp);rw [cells_one h1];exact⟨ph,k1,k2,k3,by rw [hc];rfl⟩
theorem Fv {row:List Ty} {l:List (Row row)} {i j:Nat} {cur:Array Value} {us:List Value} {y:Row row}(hi:i<l.length)(hL:E2 (bC w A row) (cur.toList.take (l.length*row.length)) l)
  (hy:∀c,bC w A row c l[i]->bC w A row (c.take j++us++c.drop (j+us.length)) y/\(us≠ []->j+us.length<=c.length)) (dy:l.length*row.length<=cur.size):
  let new:=(cur.toList.take (i*row.length+j)++us++cur.toList.drop (i*row.length+j+us.length)).toArray
  new.size=cur.size/\E2 (bC w A row) (new.toList.take (l.length*row.length)) (l.set i y)/\i*row.length+j+us.length<=cur.size\/us= []:=by
 intro new;by_cases ph:us= []
 . exact .inr ph
 left;obtain⟨c1,c,c2,e1,e2,e3,e4,e5⟩:=qf l _ i hi hL;obtain⟨f1,f2⟩:=hy c e3;have f2:=f2 ph;have hc:=gK row c _ e3
 have fP:i*row.length+row.length<=l.length*row.length:=by
  have :(i+1)*row.length<=l.length*row.length:=F? _ hi;rwa [h?,Nat.one_mul] at this
 have rC:i*row.length+j+us.length<=cur.size:=by omega
 refine⟨by simp [new];omega,?_,rC⟩;have EH:cur.toList=c1++(c++c2)++cur.toList.drop (l.length*row.length):=by rw [<-e1,O?]
 have dN:new.toList=c1++((c.take j++us++c.drop (j+us.length))++c2)++cur.toList.drop (l.length*row.length):=by
  have t1:cur.toList.take (i*row.length+j)=c1++c.take j:=by
   rw [EH,<-e2,U!,List.take_length_add_append,U!,List.take_append_of_le_length (by omega)]
  have t2:cur.toList.drop (i*row.length+j+us.length)=c.drop (j+us.length)++c2++cur.toList.drop (l.length*row.length):=by
   conv=>lhs;rw [EH]
   rw [show i*row.length+j+us.length=c1.length+(j+us.length) by omega,U!,List.drop_length_add_append,U!,List.drop_append_of_le_length (by omega),U!]
  simp only [new,t1,t2];simp
 rw [dN]
 have ay6:(c1++((c.take j++us++c.drop (j+us.length))++c2)).length=l.length*row.length:=by
  have :=congrArg List.length e1;simp at this |-;omega
 rw [<-ay6,List.take_left]
 have yM:l.set i y=l.take i++(y::l.drop (i+1)):=by
  rw [z?,W! hi]
 rw [yM];exact iq _ _ _ _ e4 ⟨_,c2,rfl,f1,e5⟩
theorem AY(hT:bO T P)(hB:aF C A β st a w) {dst:Option Nat}(hd:∀t,dst=some t->t<st.n) {t:TypeId} {k sz i j:Nat} {x:AV} {vp vx:Value}(hp:aa w A β vp (.elem k sz i j))(hx:aa w A β vx x) {out:Out}
  (h:iP T st.h t (.elem k sz i j) x=some out) (hc:∀p∈out.cond,p):∃w',(Instr.storeAt t vp vx).run P w= .ok () w'/\Rel C (st.put dst out) (a.put dst undef) w':=by
 simp only [iP] at h;split at h
 . rename_i e row l hk;cases hq:(Nat.beq sz row.length&&abH T t x.cells.length&&Nat.blt 0 x.cells.length) with
   |false=>grind
   |true=>
    simp only [hq,K!] at h;simp only [B!] at hq;obtain⟨⟨q1,q2⟩,q3⟩:=hq;have q3:=M! q3;have q1:=E! q1;subst q1;split at h
    . rename_i y hy;cases Fw:(ny st.h x).2.elem k with
      |true=>grind
      |false=>
       rw [Fw] at h;simp only [P!,A!] at h;subst h;have hi:i<l.length:=eC hc;rw [getD_eq l _ _ hi] at hy;simp only [aa] at hp;obtain⟨b,m,cap,cB,rfl⟩:=hp;rcases e9 hB hk with⟨_,hl⟩|⟨b',iS,cur,hv,hg,hle,vC,dy,hL,iV⟩
       . grind
       . rw [cB] at hv;obtain⟨rfl,rfl,rfl⟩:=hv;simp only [B?,Z?] at iV;have hb:aA (β k)=some b:=by rw [cB];rfl
         obtain⟨ii,iJ,py⟩:=qj hT q2;let A1:Nat->Prop :=fun b'=>A b'\/∃j∈(ny st.h x).2,aA (β j)=some b'
         obtain⟨px,pk⟩:=vY (A':=A1) hB (fun b h=> .inl h) x vx hx (fun k hk b hb=> .inr ⟨k,hk,hb⟩);have hKA:dg w w A A1:=fun b h=>⟨.inl h,rfl⟩;have hL1:E2 (bC w A1 row) (cur.toList.take (l.length*row.length)) l:=bX (fun c x hx=>bY hKA row c x hx) l _ hL;have AZ:l.length*row.length<=cur.size:=by simp_all[F?]
         have hyy:∀c,bC w A1 row c l[i]->bC w A1 row (c.take j++vx.cells.toList++c.drop (j+vx.cells.toList.length)) y/\(vx.cells.toList≠ []->j+vx.cells.toList.length<=c.length):=
          fun c hc=>let h:=Fu px hc hy;⟨h.2.1,h.2.2.2.1⟩
         obtain⟨c1,c,c2,e1,e2,e3,e4,e5⟩:=qf l _ i hi hL1;have A3:=Fu px e3 hy
         have l8:vx.cells.size=ii.size:=by
          grind[rD]
         rcases Fv hi hL1 hyy AZ with⟨g1,g2,g3⟩|ph
         . refine⟨_,mU iJ l8 A3.2.2.1 hg (by simpa using g3),?_⟩;refine hB.write hd (k:=k) (fz:=(ny st.h x).2) (ab:= .row e row (l.set i y) false) (by simp [hk]) hb iV hg ⟨rfl,rfl,rfl⟩ (fun q hq=>⟨?_,pk q hq⟩) ?_ (by simp [aa])
           . rintro rfl;rw [List.elem_eq_mem] at Fw;simp [hq] at Fw
           . intro A2 h1 h2 h3
             have hK:dg w (w.setRow b (cur.toList.take (i*row.length+j)++vx.cells.toList++cur.toList.drop (i*row.length+j+vx.cells.toList.length)).toArray) A1 A2:=by
              intro b' bS;rcases bS with bS|⟨q,hq,yw⟩
              . exact⟨h1 b' bS,setRow_other w b b' _ (fun h'=>iV (h'▸bS))⟩
              . refine⟨h3 q hq b' yw,setRow_other w b b' _ (fun h'=> ?_)⟩;subst h';obtain⟨e',jn,l',Cg,nz⟩:=pk q hq;have :q=k:=hB.apart q k b' (by simp [nz]) (by simp [hk]) yw hb;subst this;rw [List.elem_eq_mem] at Fw;simp [hq] at Fw
             refine⟨_,⟨?_, .inr ⟨b,cap,_,by rw [cB];simp,by omega,setRow_heap w b cur _ e _ hg,by simpa using hle,vC,g1.trans dy,rfl⟩⟩,?_,fun b' bS=> ?_⟩
             . rw [X!];refine y? ?_;rw [List.length_set];exact p? AZ (Nat.le_of_eq g1.symm)
             . simp only [List.length_set];exact bX (fun c x hx=>bY hK row c x hx) _ _ g2
             . rw [hb] at bS;simp only [A!] at bS;subst bS;simp only [B?,Z?];intro Fp;rcases h2 _ Fp with h|⟨q,hq,yw⟩
               . exact iV h
               . obtain⟨e',jn,l',Cg,nz⟩:=pk q hq;have :q=k:=hB.apart q k _ (by simp [nz]) (by simp [hk]) yw hb;subst this;rw [List.elem_eq_mem] at Fw;simp [hq] at Fw
         grind
    grind
 grind
end
end Go.Vg

end
section
namespace Go.Vg
open Go
section
variable {P:Program} {C:Ctx} {A A':Nat->Prop} {β:Nat->Value} {st:St} {a:Act} {w:World} {T:cA}
theorem dZ {d k:Nat} {ab b:AB}(h:aw [(d,ab)] k=some b):k=d/\b=ab:=by
 grind[aw,bc]
theorem nO(o:Obj)(k:Nat)(hk:k<w.heap.size):(w.alloc o).heap[k]? =w.heap[k]? :=heap_alloc_old w o k hk
theorem aF.KC(hB:aF C A β st a w) {dst:Option Nat}(hd:∀t,dst=some t->t<st.n) {d e:Nat} {cs:List AV} {arr:Array Value} {cond:List Prop}
  (gB:st.h d=none/\pB d=false) (hrel:ai w A β arr.toList cs) (iI:∀v∈arr.toList,v.oneCell'=true):
  aF C A (b5 β d (.pointer (some ⟨w.heap.size,0,none⟩))) (st.put dst {cond:=cond,res:= .ref d 0,new:= [(d, .cells (fI d cs))]}) (a.put dst (.pointer (some ⟨w.heap.size,0,none⟩))) (w.alloc (.cells arr e)):=by
 have hK:dg w (w.alloc (.cells arr e)) A A:=fun b hb=>⟨hb,nO _ b (hB.bound b hb)⟩
 have cB:∀k,aw [(d,AB.cells (fI d cs))] k=none->b5 β d (.pointer (some ⟨w.heap.size,0,none⟩)) k=β k:=by
  intro k h;have :k≠d:=by rintro rfl;simp [aw] at h
  grind[b5]
 refine hB.step (out:= {cond:=cond,res:= .ref d 0,new:= [(d, .cells (fI d cs))]}) hd ?_ (by simp [aw]) cB hK rfl rfl rfl (by simp) (fun b hb _=>nO _ b hb) (fun b hb=>by have :=hB.bound b hb;simp;omega) (fun b hb=> .inl hb) (by simp [aw]) ?_ ?_ ?_ ?_
 . grind[dZ]
 . intro k ab h;obtain⟨rfl,rfl⟩:=dZ h;refine⟨w.heap.size,arr,e,by simp [b5],heap_alloc_new w _,fun h=>absurd (hB.bound _ h) (by omega),gI k _ _ _ (e7 hK _ _ hrel),iI⟩
 . intro k b ab h hb;obtain⟨rfl,_⟩:=dZ h;simp_all[b5,H?,aA,A!]
 . grind[Option.isSome_iff_exists,dZ]
 . exact⟨w.heap.size,by simp [b5],rfl⟩
theorem iG {h:bg}:∀(fz:List Nat) j x,aw (cJ h fz) j=some x->j∈fz/\∃e row l fr,h j=some (.row e row l fr)/\x= .row e row l true :=by
 intro fz;induction fz with
 |nil=>grind[cJ,aw]
 |cons i fz ih=>
  intro j x h;simp [cJ] at h;split at h
  . simp [aw] at h;by_cases Cs:j=i
    . grind
    simp_all[bc,P!]
  grind
theorem ov {h:bg}:∀(fz:List Nat) j,j∈fz->(∃e row l fr,h j=some (.row e row l fr))->(aw (cJ h fz) j).isSome:=by
 intro fz;induction fz with
 |nil=>grind
 |cons i fz ih=>
  intro j h hr;simp [cJ];by_cases Cs:j=i
  . subst Cs;obtain⟨e,row,l,fr,hr⟩:=hr;simp [hr,aw]
  . have :=ih j ((L!.1 h).resolve_left Cs) hr;split
    . simp_all[aw,bc,P!]
    omega
def cq(A:Nat->Prop)(β:Nat->Value)(fz:List Nat):Nat->Prop :=fun b=>A b\/∃j∈fz,aA (β j)=some b
theorem lJ(hB:aF C A β st a w) {j b':Nat}(hj:(st.h j).isSome)(bS:aA (β j)=some b'):b'<w.heap.size:=by
 obtain⟨ab,gv⟩:=O!.1 hj;have gw:=hB.blocks j ab gv;cases ab with
 |arr row l=>
  obtain⟨b'',arr,e,h1,h2,_⟩:=gw;grind[aA,Option.some.injEq,Array.getElem?_eq_some_iff]
 |cells cs=>
  obtain⟨b'',arr,e,h1,h2,_⟩:=gw;grind[aA,Option.some.injEq,Array.getElem?_eq_some_iff]
 |row e row l fr=>
  obtain⟨xs,h1,_⟩:=gw;rcases h1.2 with⟨hn,_⟩|⟨g,cap,cur,hv,_,hg,_⟩
  . grind[aA]
  grind[aA,Option.some.injEq,Array.getElem?_eq_some_iff]
 |gS e j row l i=>
  obtain⟨xs,v0,h1,_⟩:=gw;rcases h1.2 with⟨hn,_⟩|⟨g,cap,cur,hv,_,hg,_⟩
  . grind[aA]
  grind[aA,Option.some.injEq,Array.getElem?_eq_some_iff]
 |views e j n m sz=>
  obtain⟨xs,h1,_⟩:=gw;rcases h1.2 with⟨hn,_⟩|⟨g,cap,cur,hv,_,hg,_⟩
  . grind[aA]
  grind[aA,Option.some.injEq,Array.getElem?_eq_some_iff]
theorem aF.PG(hB:aF C A β st a w) {dst:Option Nat}(hd:∀t,dst=some t->t<st.n) {d e:Nat} {row:List Ty} {l:List (Row row)} {cond:List Prop} {fz:List Nat} {v':Value} {w':World} {xs:List Value}
  (gB:st.h d=none/\pB d=false) (hg:w.grownBy w' none) (zB:∀j∈fz,∃e row l fr,st.h j=some (.row e row l fr))
  (gN:w'.ownsRow 0 e row.length v' l.length xs) (pE:E2 (bC w (cq A β fz) row) xs l) (hblk:∀b,aA v'=some b->w.heap.size<=b):
  aF C (cq A β fz) (b5 β d v') (st.put dst {cond:=cond,res:= .own d,ib:=cJ st.h fz,new:= [(d, .row e row l false)]}) (a.put dst v') w':=by
 have SD:∀b,cq A β fz b->b<w.heap.size:=by
  intro b h;rcases h with h|⟨j,hj,hb⟩
  . exact hB.bound b h
  . exact lJ hB (by grind) hb
 have hK:dg w w' A (cq A β fz):=fun b hb=>⟨.inl hb,hg.block b (hB.bound b hb) (by simp)⟩;have hK2:dg w w' (cq A β fz) (cq A β fz):=fun b hb=>⟨hb,hg.block b (SD b hb) (by simp)⟩
 have cB:∀k,aw [(d,AB.row e row l false)] k=none->b5 β d v' k=β k:=by
  intro k h;have :k≠d:=by rintro rfl;simp [aw] at h
  grind[b5]
 refine hB.step (out:= {cond:=cond,res:= .own d,ib:=cJ st.h fz,new:= [(d, .row e row l false)]}) hd ?_ ?_ cB hK hg.os hg.tape hg.output hg.size (fun b hb _=>hg.block b hb (by simp)) (fun b hb=>Y? (SD b hb) hg.size) ?_ ?_ ?_ ?_ ?_ ?_
 . grind[dZ]
 . intro k b h;obtain⟨_,_,_,_,_,h,_⟩:=iG fz k b h;grind
 . intro b h;rcases h with h|⟨j,hj,hb⟩
   . grind
   . have hr:=zB j hj;exact .inr (.inr ⟨j,⟨by grind, .inl (ov fz j hj hr)⟩,hb⟩)
 . intro k ab h _;obtain⟨hk,e',jn,l',Cg,hr,rfl⟩:=iG fz k ab h;rw [abK];have M8:k≠d:=by grind
   have zt:b5 β d v' k=β k:=by grind[b5]
   obtain⟨xs',h1,h2,h3⟩:=hB.blocks k _ hr;simp only [BR,zt];refine⟨xs',gJ h1 (fun b hb=>hg.block b (lJ hB (by grind) hb) (by simp)),bX (fun c x hx=>bY hK jn c x hx) l' xs' h2,fun b hb=> ?_⟩;simp only [if_true];exact .inr ⟨k,hk,hb⟩
 . intro k ab h;obtain⟨rfl,rfl⟩:=dZ h;refine⟨xs,by grind[b5],bX (fun c x hx=>bY hK2 row c x hx) l xs pE,fun b hb=> ?_⟩;simp only [b5,if_true] at hb;grind
 . intro k b ab h hb;obtain⟨rfl,_⟩:=dZ h;simp_all[b5,H?]
 . grind[Option.isSome_iff_exists,dZ]
 . simp only [aa,b5,H?,true_and];obtain⟨ad,l',c,rfl⟩:=qi gN;rfl
theorem Nk(hT:bO T P)(hB:aF C A β st a w) {dst:Option Nat}(hd:∀t,dst=some t->t<st.n) {d:Nat}(gB:st.h d=none/\pB d=false) {t:TypeId} {te:TE}(ht:T.find t=some te)(iI:(ofConst te.zero).cells.all AV.one=true):
  ∃v' w',(Instr.alloc t true (.tuple #[])).run P w= .ok v' w'/\Rel C (st.put dst {cond:= [],res:= .ref d 0,new:= [(d, .cells (fI d (ofConst te.zero).cells))]}) (a.put dst v') w':=by
 obtain⟨hu,i,hi,hs,hb,hz⟩:=hT.ok t te ht;obtain⟨c1,c2,c3⟩:=tY iI (tR (w:=w) (A:=A) (β:=β) te.zero);refine⟨.pointer (some ⟨w.heap.size,0,none⟩),w.alloc (.cells te.zero.cells t),?_,Rel.ly (hB.KC hd gB c1 c2)⟩;simp_all[Instr.alloc,zeroValue,typeInfo,hi,newVar,newRow]
theorem SE(hB:aF C A β st a w) {dst:Option Nat}(hd:∀t,dst=some t->t<st.n) {d:Nat}(gB:st.h d=none/\pB d=false) {t:TypeId} {x:AV} {v:Value}(hx:aa w A β v x)(iI:x.cells.all AV.one=true):
  ∃v' w',(Instr.box t v).run P w= .ok v' w'/\Rel C (st.put dst {cond:= [],res:= .ref d 0,new:= [(d, .cells (fI d x.cells))]}) (a.put dst v') w':=by
 obtain⟨c1,c2,c3⟩:=tY iI hx;refine⟨.pointer (some ⟨w.heap.size,0,none⟩),w.alloc (.cells v.cells t),?_,Rel.ly (hB.KC hd gB c1 c2)⟩;rfl
theorem Dp(off:Nat):∀(l:List Value) (k:Nat) (arr:Array Value),off+k+l.length<=arr.size->
  ((l.zipIdx k).foldl (fun cs (x:Value×Nat)=>cs.setIfInBounds (off+x.2) x.1) arr).toList=arr.toList.take (off+k)++l++arr.toList.drop (off+k+l.length)
 | [],k,arr,_=>by simp
 |v::l,k,arr,h=>by
  simp;rw [Dp off l (k+1) _ (by simp at h |-;omega)];have e:=list_seg_step arr.toList (off+k) v l (by omega);simpa [Nat.add_assoc] using e
theorem xJ(place:Nat->Option (Nat×Nat)):∀(parts:List (Nat×AV)) (iv:List (Nat×Value)) (cs:List AV) (arr:Array Value) (r:List AV),ai w A β arr.toList cs->
  iv.map (·.1)=parts.map (·.1)->ai w A β (iv.map (·.2)) (parts.map (·.2))->zo place cs parts=some r->
  ∃rE,Instr.fill place arr iv=some rE/\ai w A β rE.toList r
 | [],[],cs,arr,r,h,_,_,hr=>by
   simp [zo,A!] at hr;subst hr;exact⟨arr,rfl,h⟩
 |(i,x)::parts,(i',v)::iv,cs,arr,r,h,hk,hv,hr=>by
  simp at hk;obtain⟨hi,hk⟩:=hk;obtain⟨v0,Fx,h0,h1,h2⟩:=hv;obtain⟨rfl,rfl⟩:=h0;simp [zo] at hr;split at hr
  . grind
  . rename_i off size hp;cases hq:(Nat.beq x.cells.length size&&Nat.ble (off+size) cs.length&&x.cells.all AV.one) with
    |false=>grind
    |true=>
     simp [hq,K!] at hr;simp only [B!] at hq;obtain⟨⟨q1,q2⟩,q3⟩:=hq;have q1:=E! q1;have q2:=M! q2;obtain⟨c1,c2,c3⟩:=tY q3 h1;have hlen:=dA cs _ h;have tX:=vV (off:=off) h c1
     have ay8:(v.cells.zipIdx.foldl (fun cs (x:Value×Nat)=>cs.setIfInBounds (off+x.2) x.1) arr).toList=arr.toList.take off++v.cells.toList++arr.toList.drop (off+v.cells.toList.length):=by
      have :=Dp off v.cells.toList 0 arr (by grind);grind[Array.toList_zipIdx]
     obtain⟨rE,g1,g2⟩:=xJ place parts iv _ (v.cells.zipIdx.foldl (fun cs (x:Value×Nat)=>cs.setIfInBounds (off+x.2) x.1) arr) r (by grind) hk h2 hr;simp_all[Instr.fill,if_neg]
 | [],_::_,_,_,_,_,hk,_,_=>by grind
 |_::_,[],_,_,_,_,hk,_,_=>by grind
end
end Go.Vg

end
section
namespace Go.Vg
open Go
section
variable {P:Program} {C:Ctx} {A A':Nat->Prop} {β:Nat->Value} {st:St} {a:Act} {w:World} {T:cA}
theorem run_places(hT:bO T P):∀(fs:List Field) (ps:List (Nat×Nat)),placesOf T fs=some ps->
  (List.mapM (m:=Sem) (fun(f:Field)=>do pure (f.offset,<-sizeOf f.type)) fs).run P w= .ok ps w
 | [],ps,h=>by simp_all[placesOf,A!]
 |f::fs,ps,h=>by
  simp [placesOf] at h;split at h
  . rename_i te ps' ht hp;simp at h;subst h;obtain⟨_,i,hi,hs,_⟩:=hT.ok _ _ ht;have ih:=run_places hT fs ps' hp;have h1:(sizeOf f.type).run P w= .ok te.size w:=by simp [sizeOf,typeInfo,hi,hs]
    simp only [List.mapM_cons,Sem.run_bind,h1,Result.andThen_ok,Sem.run_pure];rw [ih];rfl
  . cases h
theorem kU(z:Value):ai w A β z.cells.toList (ofConst z).cells:=by
 have h:=tR (w:=w) (A:=A) (β:=β) z;by_cases hx:∃cs,ofConst z= .agg cs
 . obtain⟨cs,hc⟩:=hx;rw [hc] at h |-;obtain⟨arr,rfl,h⟩:=h;exact h
 . have hc:(ofConst z).cells= [ofConst z]:=by
    cases hz:ofConst z<;>first|rfl|grind
   have hz:z.cells= #[z]:=by
    cases z<;>first|rfl|exact absurd ⟨_,rfl⟩ hx
   grind[ai]
theorem Nl(hT:bO T P) {t:TypeId} {parts:List (Nat×AV)} {iv:Array (Nat×Value)}(hk:iv.toList.map (·.1)=parts.map (·.1))(hv:ai w A β (iv.toList.map (·.2)) (parts.map (·.2))) {out:Out}
  (h:Cf T t parts=some out):Reads P A β w (Instr.build t iv) out:=by
 unfold Cf at h;split at h
 . rename_i te ht;obtain⟨hu,i,hi,hs,hb,hz⟩:=hT.ok t te ht;split at h
   . rename_i fs hd;split at h
     . rename_i ps hp;split at h
       . rename_i cs hf;simp at h;subst h;obtain⟨rE,g1,g2⟩:=xJ (fun i=>ps[i]?) parts iv.toList _ te.zero.cells cs (kU te.zero) hk hv hf;refine⟨⟨rfl,rfl,rfl⟩, .agg rE,?_,by grind[aa]⟩;have hm:=run_places (w:=w) hT fs.toList ps hp;simp only [Instr.build,zeroValue,typeInfo,Sem.run_bind,run_program,Result.andThen_ok,hi,hz,Sem.run_pure,run_underlying hu,Array.mapM_eq_mapM_toList,Sem.run_map,hm];simp_all
       grind
     grind
   . rename_i n e hd;split at h
     . rename_i ee he;split at h
       . rename_i cs hf;simp at h;subst h;obtain⟨_,i2,Nn,Nb,_⟩:=hT.ok e ee he;obtain⟨rE,g1,g2⟩:=xJ (fun i=>some (i*ee.size,ee.size)) parts iv.toList _ te.zero.cells cs (kU te.zero) hk hv hf;refine⟨⟨rfl,rfl,rfl⟩, .agg rE,?_,by grind[aa]⟩;simp_all[Instr.build,zeroValue,typeInfo,hi,run_underlying,sizeOf]
       grind
     grind
   grind
 grind
theorem pF(z:Array Value)(hz:0<z.size):∀n,(List.range (n*z.size)).map (fun i=>z[i%z.size]!)=(List.replicate n z.toList).flatten
 |0=>by simp
 |n+1=>by
  rw [h?,Nat.one_mul,List.range_add,v?,pF z hz n,List.replicate_succ',List.flatten_append];congr 1
  apply List.ext_getElem
  . simp
  simp_all[Nat.add_mod,Nat.mod_eq_of_lt]
theorem rF {vs:List Value} {xs:List AV}(h:ai w A β vs xs):∀n,ai w A β (List.replicate n vs).flatten (List.replicate n xs).flatten
 |0=>by rfl
 |n+1=>by
  exact eD _ _ _ _ h (rF h n)
theorem vZ(ts:List Ty):∀(n:Nat) (xs:List AV) (vs:List Value) (l:List (Row ts)),ai w A β vs xs->tL ts n xs=some l->E2 (bC w A ts) vs l/\l.length=n
 |0,[],vs,l,h,hl=>by
  grind[tL,Option.some.injEq,ai,E2]
 |0,_::_,_,_,_,hl=>by grind[tL]
 |n+1,xs,vs,l,h,hl=>by
  simp [tL] at hl;split at hl
  . rename_i x l' hx jA;simp at hl;subst hl;obtain⟨s1,s2⟩:=gM xs vs ts.length h;obtain⟨g1,g2⟩:=vZ ts n _ _ l' s2 jA;exact⟨⟨_,_,(O? _ _).symm,ql ts _ _ x s1 hx,g1⟩,by simp [g2]⟩
  . cases hl
theorem KD(hB:aF C A β st a w)(hA:∀b,A b->A' b):∀(ps:List (Nat×AV)) (vs:List Value),ai w A β vs (ps.map (·.2))->(∀k∈(mO st.h ps).2,∀b,aA (β k)=some b->A' b)->
  ai w A' β vs ((mO st.h ps).1.map (·.2))/\(mO st.h ps).1.map (·.1)=ps.map (·.1)/\∀k∈(mO st.h ps).2,∃e row l fr,st.h k=some (.row e row l fr)
 | [],vs,h,_=>by grind[ai,mO]
 |(i,x)::ps,vs,h,mc=>by
  obtain⟨v,cg,rfl,h1,h2⟩:=h;simp only [mO] at mc |-;obtain⟨p1,p2⟩:=vY hB hA x v h1 (fun k hk=>mc k (by simp [hk]));obtain⟨q1,q2,q3⟩:=KD hB hA ps cg h2 (fun k hk=>mc k (by simp [hk]));refine⟨by exact⟨v,cg,rfl,p1,q1⟩,by simp [q2],fun k hk=> ?_⟩;rcases F!.1 hk with hk|hk
  . exact p2 k hk
  . exact q3 k hk
theorem A4(hT:bO T P)(hB:aF C A β st a w) {dst:Option Nat}(hd:∀t,dst=some t->t<st.n) {d:Nat}(gB:st.h d=none/\pB d=false) {t:TypeId} {len:Nat} {parts:List (Nat×AV)} {iv:Array (Nat×Value)}
  (hk:iv.toList.map (·.1)=parts.map (·.1)) (hv:ai w A β (iv.toList.map (·.2)) (parts.map (·.2))) {out:Out}
  (h:iQ T st.h d t len parts=some out):∃v' w',(Instr.buildSlice t len iv).run P w= .ok v' w'/\Rel C (st.put dst out) (a.put dst v') w':=by
 unfold iQ at h;split at h
 . rename_i e te he lz;split at h
   . rename_i row j7;obtain⟨hu,Nj,i,hi,py,PD,Sx⟩:=AT hT he lz;cases hq:(Nat.beq row.length te.size&&Nat.blt 0 te.size&&Nat.beq (ofConst te.zero).cells.length te.size&&Nat.ble (len*te.size) 16777216) with
     |false=>grind
     |true=>
      simp only [hq,K!] at h;simp only [B!] at hq;obtain⟨⟨⟨q1,q2⟩,q3⟩,q4⟩:=hq;have q2:=M! q2;have q3:=E! q3;have q4:=M! q4;split at h
      . rename_i cs hf;split at h
        . rename_i l hl;simp only [Option.some.injEq] at h;subst h;have J1:te.zero.cells.size=te.size:=by grind[vU]
          obtain⟨p1,p2,p3⟩:=KD (A':=cq A β (mO st.h parts).2) hB (fun b h=> .inl h) parts _ hv (fun k hk b hb=> .inr ⟨k,hk,hb⟩)
          have abX:(((Array.range (len*i.size)).map (te.zero.cells[· %te.zero.cells.size]!)).toList)=(List.replicate len te.zero.cells.toList).flatten:=by
           have :=pF te.zero.cells (by omega) len;simp_all
          obtain⟨rE,g1,g2⟩:=xJ (w:=w) (A:=cq A β (mO st.h parts).2) (β:=β) (fun i=>some (i*te.size,te.size)) _ iv.toList _ ((Array.range (len*i.size)).map (te.zero.cells[· %te.zero.cells.size]!)) cs
           (by grind[rF,kU]) (hk.trans p2.symm) p1 hf
          obtain⟨f1,f2⟩:=vZ row len cs _ l g2 hl;have hlen:=fp l _ f1
          have gT:(Instr.buildSlice t len iv).run P w= .ok (.slice (some ⟨w.heap.size,0,none⟩) len len) (w.alloc (.cells rE e)):=by
           have h24:¬(16777216<len*i.size):=by grind
           by_cases hz:len*i.size=0
           . have hln:len=0:=by
              grind[Nat.mul_eq_zero]
             subst hln;simp [Instr.buildSlice,run_underlying hu,sizeOf,typeInfo,hi,py,newRow];simp_all[Array.range,Array.eq_empty_of_size_eq_zero]
           . rw [<-py] at g1;simp [Instr.buildSlice,run_underlying hu,sizeOf,typeInfo,zeroValue,hi,Sx,h24,hz,g1,newRow]
          refine⟨_,_,gT,Rel.ly (hB.PG hd gB (xs:=rE.toList) ⟨rfl,rfl,rfl,by simp,fun k hk _=>heap_alloc_old w _ k hk⟩ p3 ?_ f1 (fun b hb=>by grind[aA,Option.some.injEq]))⟩;refine⟨hlen, .inr ⟨w.heap.size,len,rE,by rw [f2],by omega,heap_alloc_new w _,by omega,?_,?_,?_⟩⟩
          . have :len<=len*te.size:=Nat.le_mul_of_pos_right _ (by omega);grind[maxLen]
          . grind
          grind
        grind
      grind
   grind
 grind
end
end Go.Vg

end
section
namespace Go.Vg
open Go
section
variable {P:Program} {C:Ctx} {A A':Nat->Prop} {β:Nat->Value} {st:St} {a:Act} {w:World} {T:cA}
theorem iW:∀(row:List Ty) (vs:List Value),cU.cx row vs=true->bC w A row vs (Row.zero row)
 | [],[],_=>by rfl
 | .int k::ts, .int k' n::vs,h=>by
   simp [cU.cx,B!,I!] at h;obtain⟨⟨h1,h2⟩,h3⟩:=h;subst h1;subst h2;simp only [bC,Row.zero,qk,vX];refine⟨_,vs,rfl,?_,iW ts vs h3⟩;simp [Rd,D.zero];cases k<;>simp [DI.zero,DI.toInt,lo,hi]
 | .bool::ts, .bool b::vs,h=>by
   cases b with
   |true=>simp [cU.cx] at h
   |false=>
    simp only [bC,Row.zero,qk,vX];exact⟨_,vs,rfl,by simp [Rd,D.zero],iW ts vs h⟩
 | .str::ts, .string s::vs,h=>by
   simp [cU.cx,B!] at h;simp only [bC,Row.zero,qk,vX];refine⟨_,vs,rfl,?_,iW ts vs h.2⟩;simp only [Rd,D.zero];refine⟨?_,by simp⟩
   have hs:s=⟨#[]⟩:=by
    apply ByteArray.ext;grind
   rw [hs]
 | .slice r::ts, .slice ad l c::vs,h=>by
   cases ad with
   |some p=>simp [cU.cx] at h
   |none=>
    cases l with
    |succ l=>simp [cU.cx] at h
    |zero=>
     cases c with
     |succ c=>simp [cU.cx] at h
     |zero=>
      simp only [bC,Row.zero,qk,vX];refine⟨_,vs,rfl,?_,iW ts vs h⟩;simp only [Rd,D.zero];exact⟨none,0,[],by simp,by simp,by simp,by simp [E2],by simp⟩
 | [],_::_,h=>by grind[cU.cx]
 | .int _::_,[],h=>by grind[cU.cx]
 | .bool::_,[],h=>by grind[cU.cx]
 | .str::_,[],h=>by grind[cU.cx]
 | .slice _::_,[],h=>by grind[cU.cx]
 | .int _::_, .bool _::_,h| .int _::_, .string _::_,h| .int _::_, .slice .. ::_,h| .int _::_, .float .. ::_,h| .int _::_, .complex .. ::_,h| .int _::_, .pointer _::_,h
 | .int _::_, .map _::_,h| .int _::_, .chan _::_,h| .int _::_, .func .. ::_,h| .int _::_, .nilFunc::_,h| .int _::_, .iface .. ::_,h| .int _::_, .nilIface::_,h| .int _::_, .agg _::_,h| .int _::_, .tuple _::_,h=>by grind[cU.cx]
 | .bool::_, .int .. ::_,h| .bool::_, .string _::_,h| .bool::_, .slice .. ::_,h| .bool::_, .float .. ::_,h| .bool::_, .complex .. ::_,h| .bool::_, .pointer _::_,h
 | .bool::_, .map _::_,h| .bool::_, .chan _::_,h| .bool::_, .func .. ::_,h| .bool::_, .nilFunc::_,h| .bool::_, .iface .. ::_,h| .bool::_, .nilIface::_,h| .bool::_, .agg _::_,h| .bool::_, .tuple _::_,h=>by grind[cU.cx]
 | .str::_, .int .. ::_,h| .str::_, .bool _::_,h| .str::_, .slice .. ::_,h| .str::_, .float .. ::_,h| .str::_, .complex .. ::_,h| .str::_, .pointer _::_,h
 | .str::_, .map _::_,h| .str::_, .chan _::_,h| .str::_, .func .. ::_,h| .str::_, .nilFunc::_,h| .str::_, .iface .. ::_,h| .str::_, .nilIface::_,h| .str::_, .agg _::_,h| .str::_, .tuple _::_,h=>by grind[cU.cx]
 | .slice _::_, .int .. ::_,h| .slice _::_, .bool _::_,h| .slice _::_, .string .. ::_,h| .slice _::_, .float .. ::_,h| .slice _::_, .complex .. ::_,h| .slice _::_, .pointer _::_,h
 | .slice _::_, .map _::_,h| .slice _::_, .chan _::_,h| .slice _::_, .func .. ::_,h| .slice _::_, .nilFunc::_,h| .slice _::_, .iface .. ::_,h| .slice _::_, .nilIface::_,h| .slice _::_, .agg _::_,h| .slice _::_, .tuple _::_,h=>by grind[cU.cx]
theorem sv {row:List Ty} {z:Value}(h:cU row z=true):bC w A row z.cells.toList (Row.zero row):=by
 unfold cU at h;split at h
 . exact iW row _ h
 . have hz:z.cells= #[z]:=by cases z<;>first|rfl|grind
   grind[iW]
theorem qm {row:List Ty} {vs:List Value} {x:Row row}(h:bC w A row vs x):∀n,E2 (bC w A row) (List.replicate n vs).flatten (List.replicate n x)
 |0=>by rfl
 |n+1=>by
  exact⟨vs,_,rfl,h,qm h n⟩
theorem Cv(hT:bO T P)(hB:aF C A β st a w) {dst:Option Nat}(hd:∀t,dst=some t->t<st.n) {d:Nat}(gB:st.h d=none/\pB d=false) {t:TypeId} {x y:AV} {vx vy:Value}(hx:aa w A β vx x)(hy:aa w A β vy y) {out:Out}
  (h:si T d t x y=some out) (hc:∀p∈out.cond,p):∃v' w',(Instr.makeSlice t vx vy).run P w= .ok v' w'/\Rel C (st.put dst out) (a.put dst v') w':=by
 unfold si at h;split at h
 . rename_i k n k' c;split at h
   . rename_i e te he lz;split at h
     . rename_i row j7;obtain⟨hu,Nj,i,hi,py,PD,Sx⟩:=AT hT he lz;cases hq:(Nat.beq row.length te.size&&Nat.blt 0 te.size&&cU row te.zero) with
       |false=>grind
       |true=>
        simp only [hq,cond_true,Option.some.injEq] at h;subst h;simp only [Bool.and_eq_true] at hq;obtain⟨⟨q1,q2⟩,q3⟩:=hq;have q1:=Nat.eq_of_beq_eq_true q1;have q2:=Nat.le_of_ble_eq_true q2;obtain⟨c0,c1,c2⟩:=eC hc;simp only [aa] at hx hy;obtain⟨rfl,_⟩:=hx;obtain⟨rfl,A3⟩:=hy;have hz:=sv (w:=w) (A:=A) q3;have SF:=gK row _ _ hz;have J1:te.zero.cells.size=te.size:=by grind
        have aGS:(te.bytes:Int)*c<=281474976710656:=by
         grind[Nat.eq_zero_or_pos,Int.le_ediv_iff_mul_le,Int.mul_comm]
        have Cr:c<=9223372036854775807:=by
         have :=Int.ediv_le_self (te.bytes:Int) (show(0:Int)<=140737488355328 by omega);omega
        have hr:=run_make (P:=P) w t e i te.zero hu hi Sx k k' n c c0 c1 (by grind) Cr;refine⟨_,_,hr,Rel.ly (hB.PG hd gB (fz:= []) (xs:=(List.replicate n.toNat te.zero.cells.toList).flatten) ⟨rfl,rfl,rfl,by simp,fun k hk _=>heap_alloc_old w _ k hk⟩ (by simp) ?_ ?_ (fun b hb=>by grind[aA,Option.some.injEq]))⟩
        . have abX:(madeCells te.zero.cells (c.toNat*i.size)).toList=(List.replicate c.toNat te.zero.cells.toList).flatten:=by
           have :=pF te.zero.cells (by omega) c.toNat;simp_all[madeCells]
          have Fy:∀m,(List.replicate m te.zero.cells.toList).flatten.length=m*te.size:=by
           simp_all
          simp only [List.length_replicate];refine⟨by grind, .inr ⟨w.heap.size,c.toNat,_,rfl,by omega,heap_alloc_new w _,by omega,by grind[maxLen],?_,?_⟩⟩
          . grind
          . rw [abX];have tX:c.toNat=n.toNat+(c.toNat-n.toNat):=by omega
            rw [tX,<-List.replicate_append_replicate,List.flatten_append,q1,<-Fy n.toNat,List.take_left]
        grind[qm,sv]
     grind
   grind
 grind
theorem Fz {t t' ty e:TypeId} {i:TypeInfo}(hu:P.underlying t=some (.slice e))(hi:P.info? e=some i) {b off dLen dCap:Nat} {cur:Array Value} {be:TypeId}(hg:w.heap[b]? =some (.cells cur be (0,0))) {x:Value} {m:Nat} {cs:List Value}
  (hlen:(Builtin.lenOf x).run P w= .ok m w) (ir:(Builtin.firstCells i.size (min m dLen) x).run P w= .ok cs.toArray w) (h1:∀u∈cs,u.oneCell'=true) (rC:off+cs.length<=cur.size):
  (Builtin.copy_ #[t,t'] ty #[.slice (some ⟨b,off,none⟩) dLen dCap,x]).run P w= .ok (.int .i64 ((min m dLen:Nat):Int)) (w.setRow b (cur.toList.take off++cs++cur.toList.drop (off+cs.length)).toArray):=by
 have lI:=run_storeCells_at P b off be cs 0 cur w hg (by omega) h1;simp_all[Builtin.copy_,run_underlying,sizeOf,typeInfo,hi,goInt]
theorem v7 {t t' ty e:TypeId} {i:TypeInfo}(hu:P.underlying t=some (.slice e))(hi:P.info? e=some i) {ad:Option Addr} {dCap:Nat} {x:Value} {m:Nat}
  (hlen:(Builtin.lenOf x).run P w= .ok m w) (ir:(Builtin.firstCells i.size 0 x).run P w= .ok #[] w):
  (Builtin.copy_ #[t,t'] ty #[.slice ad 0 dCap,x]).run P w= .ok (.int .i64 0) w:=by
 cases ad<;>simp [Builtin.copy_,run_underlying hu,sizeOf,typeInfo,hi,hlen,ir,goInt,storeCells]
theorem aF.same(hB:aF C A β st a w) {dst:Option Nat}(hd:∀t,dst=some t->t<st.n) {c:List Prop} {r:AV} {k:Nat} {ab:AB}(hk:st.h k=some ab) {v:Value}(h:aa w A β v r):
  aF C A β (st.put dst {cond:=c,res:=r,ib:= [(k,ab)]}) (a.put dst v) w:=by
 refine hB.step (out:= {cond:=c,res:=r,ib:= [(k,ab)]}) hd (by simp [aw]) ?_ (fun _ _=>rfl) (dg.refl w A) rfl rfl rfl (N! _) (fun _ _ _=>rfl) hB.bound (fun b h=> .inl h) ?_ (by simp [aw]) (by simp [aw]) (by simp [aw]) h
 . grind[dZ]
 . intro j b h _;obtain⟨rfl,rfl⟩:=dZ h;exact hB.blocks _ _ hk
theorem v8(n:Nat)(h:n<=maxLen):aa w A β (.int .i64 (n:Int)) (.int .i64 (n:Int)):=by
 simp [aa,lo,hi,true_and];grind[maxLen]
theorem Cw(hB:aF C A β st a w) {dst:Option Nat}(hd:∀t,dst=some t->t<st.n) {k e:Nat} {row:List Ty} {l m':List (Row row)}(hk:st.h k=some (.row e row l false)) {b cap off:Nat}(cB:β k= .slice (some ⟨b,0,none⟩) l.length cap)
  {cs:List Value} (dy:E2 (bC w A row) cs m') (rC:off+m'.length<=l.length) {c:List Prop} {r:AV} {v:Value} (sL:∀w',aa w' A β v r) {cur:Array Value} (hg:w.heap[b]? =some (.cells cur e (0,0)))
  (cZ:cur.size=cap*row.length) (hle:l.length<=cap) (vC:cap<=maxLen) (hL:E2 (bC w A row) (cur.toList.take (l.length*row.length)) l) (iV:¬A b):
  Rel C (st.put dst {cond:=c,res:=r,ib:= [(k, .row e row (l.take off++m'++l.drop (off+m'.length)) false)]}) (a.put dst v)
   (w.setRow b (cur.toList.take (off*row.length)++cs++cur.toList.drop (off*row.length+cs.length)).toArray):=by
 have hb:aA (β k)=some b:=by rw [cB];rfl
 have hlen:=fp m' cs dy;have hlr:l.length*row.length<=cur.size:=by simp_all[F?]
 have hfr:off*row.length+cs.length<=l.length*row.length:=by rw [hlen,<-h?];simp_all[F?]
 refine hB.write hd (k:=k) (fz:= []) (ab:= .row e row _ false) (by grind) hb iV hg ⟨rfl,rfl,rfl⟩ (by simp) ?_ (sL _);intro A2 h1 h2 h3;have hK:dg w (w.setRow b (cur.toList.take (off*row.length)++cs++cur.toList.drop (off*row.length+cs.length)).toArray) A A2:=fun b' bS=>⟨h1 b' bS,setRow_other w b b' _ (fun h'=>iV (h'▸bS))⟩;have hll:(l.take off++m'++l.drop (off+m'.length)).length=l.length:=by grind
 have hns:(cur.toList.take (off*row.length)++cs++cur.toList.drop (off*row.length+cs.length)).toArray.size=cur.size:=by grind
 refine⟨_,⟨?_, .inr ⟨b,cap,_,by grind,by omega,setRow_heap w b cur _ e _ hg,by omega,vC,hns.trans cZ,rfl⟩⟩,?_,fun b' bS=> ?_⟩
 . grind
 . rw [hll]
   have EH:(cur.toList.take (off*row.length)++cs++cur.toList.drop (off*row.length+cs.length)).take (l.length*row.length)=
     (cur.toList.take (l.length*row.length)).take (off*row.length)++cs++(cur.toList.take (l.length*row.length)).drop ((off+m'.length)*row.length):=by
    rw [List.take_take,y? (by omega),List.take_append,I? (by simp;omega),h?,<-hlen,List.drop_take];congr 1
    congr 1
    simp;omega
   have e1:(cur.toList.take (off*row.length)++cs++cur.toList.drop (off*row.length+cs.length)).toArray.toList=cur.toList.take (off*row.length)++cs++cur.toList.drop (off*row.length+cs.length):=by simp
   rw [e1,EH];have s1:=eM l _ off hL;have s2:=eM l _ (off+m'.length) hL;exact bX (fun c x hx=>bY hK row c x hx) _ _ (iq _ _ _ _ (iq _ _ _ _ s1.1 dy) s2.2)
 grind
theorem PH(hT:bO T P)(hB:aF C A β st a w) {dst:Option Nat}(hd:∀t,dst=some t->t<st.n) {t t' ty:TypeId} {s x:AV} {vs vx:Value}(hs:aa w A β vs s)(hx:aa w A β vx x) {out:Out}
  (h:oH T st.h t t' s x=some out) (hc:∀p∈out.cond,p):∃v' w',(Builtin.copy_ #[t,t'] ty #[vs,vx]).run P w= .ok v' w'/\Rel C (st.put dst out) (a.put dst v') w':=by
 unfold oH at h;split at h
 . rename_i k;split at h
   . rename_i e row l hk;cases hq:bE T t row.length with
     |false=>grind
     |true=>
      simp only [hq,K!] at h;obtain⟨el,i,hu,hi,cZ,iT⟩:=e8 hT hq;split at h
      . rename_i m hm;simp only [A!] at h;subst h;obtain⟨cs,fR⟩:=EG (P:=P) hB hx hm;simp only [aa] at hs;obtain⟨rfl,_⟩:=hs;rcases e9 hB hk with⟨g1,g2⟩|⟨b,cap,cur,g1,g2,g3,g4,g5,g6,g7⟩
        . subst g2;have hf:=fR.first w rfl 0 (Nat.zero_le _);rw [g1];refine⟨_,_,v7 (ty:=ty) hu hi fR.len (by grind),?_⟩;have :=hB.same (dst:=dst) hd (c:= []) (r:= .int .i64 0) (v:= .int .i64 0) hk (by simp [aa,lo,Vg.hi]);grind[Rel.ly]
        . simp only [B?,Z?] at g7;have hn:min m.length l.length<=m.length:=Nat.min_le_left _ _;have hf:=fR.first w rfl _ hn;have wa:=(eM m cs (min m.length l.length) fR.rd).1;have hlen:=fp _ _ wa;have AQ:(m.take (min m.length l.length)).length=min m.length l.length:=by simp
          have hr:=Fz (P:=P) (ty:=ty) (t':=t') (dLen:=l.length) (dCap:=cap) (off:=0) hu hi g2 fR.len (by grind) (vT _ _ wa) (by
           rw [hlen,AQ,g5];have :min m.length l.length*row.length<=cap*row.length:=F? _ (by omega);omega)
          rw [g1];refine⟨_,_,hr,?_⟩;have A5:=Cw hB hd hk g1 (off:=0) (c:= []) wa (by omega) (fun w'=>v8 (w:=w') (min m.length l.length) (by omega)) g2 g5 g3 g4 g6 g7
          have e1:m.take l.length++l.drop m.length=l.take 0++m.take (min m.length l.length)++l.drop (0+(m.take (min m.length l.length)).length):=by
           rw [AQ];rcases Nat.le_total m.length l.length with hh|hh
           . grind
           simp_all
          grind
      grind
   grind
 . rename_i k sz off n;split at h
   . rename_i e row l hk;cases hq:(bE T t row.length&&Nat.beq sz row.length) with
     |false=>grind
     |true=>
      simp only [hq,K!] at h;simp only [B!] at hq;obtain⟨q1,q2⟩:=hq;have q2:=E! q2;subst q2;obtain⟨el,i,hu,hi,cZ,iT⟩:=e8 hT q1;split at h
      . rename_i m hm;simp only [A!] at h;subst h;obtain⟨cs,fR⟩:=EG (P:=P) hB hx hm;have hon:=eC hc;simp only [aa] at hs;rcases hs with⟨hn0,ad,cap,hv,Cr⟩|⟨b',mm,iS,vO,hv,zv,aGU,aGV,aGW⟩
        . subst hn0;have hf:=fR.first w rfl 0 (Nat.zero_le _);simp only [Nat.zero_mul,List.take_zero] at hf;rw [hv];refine⟨_,_,v7 (ty:=ty) hu hi fR.len (by grind),?_⟩;have :=hB.same (dst:=dst) hd (c:= [off+0<=l.length]) (r:= .int .i64 0) (v:= .int .i64 0) hk (by simp [aa,lo,Vg.hi]);simpa using Rel.ly this
        . rcases e9 hB hk with⟨g1,g2⟩|⟨b,cap,cur,g1,g2,g3,g4,g5,g6,g7⟩
          . grind
          . rw [g1] at hv;obtain⟨rfl,rfl,rfl⟩:=hv;have hn:min m.length n<=m.length:=Nat.min_le_left _ _;have hf:=fR.first w rfl _ hn;have wa:=(eM m cs (min m.length n) fR.rd).1;have hlen:=fp _ _ wa;have AQ:(m.take (min m.length n)).length=min m.length n:=by simp
            have hr:=Fz (P:=P) (ty:=ty) (t':=t') (dLen:=n) (dCap:=vO) (off:=off*row.length) hu hi g2 fR.len (by grind) (vT _ _ wa) (by
             rw [hlen,AQ,g5,<-h?];exact F? _ (by omega))
            grind[Cw,v8]
      grind
   grind
 grind
end
end Go.Vg

end
section
namespace Go.Vg
open Go
section
variable {P:Program} {C:Ctx} {A A':Nat->Prop} {β:Nat->Value} {st:St} {a:Act} {w:World} {T:cA}
theorem PI {t ty e:TypeId} {i:TypeInfo}(hu:P.underlying t=some (.slice e))(hi:P.info? e=some i) {z:Value}(hz:i.zero=some z) {b off n cap:Nat} {cur:Array Value} {be:TypeId}(hg:w.heap[b]? =some (.cells cur be (0,0)))
  {cs:List Value} (dy:(Builtin.zeroCells z.cells n).toList=cs) (h1:∀u∈cs,u.oneCell'=true) (rC:off+cs.length<=cur.size) (hn:0<n):
  (Builtin.clear_ #[t] ty #[.slice (some ⟨b,off,none⟩) n cap]).run P w= .ok (.tuple #[]) (w.setRow b (cur.toList.take off++cs++cur.toList.drop (off+cs.length)).toArray):=by
 have lI:=run_storeCells_at P b off be cs 0 cur w hg (by omega) h1;obtain⟨m,rfl⟩:∃m,n=m+1:=⟨n-1,by omega⟩;simp_all[Builtin.clear_,run_underlying,zeroValue,typeInfo,hi]
theorem Np(hT:bO T P)(hB:aF C A β st a w) {dst:Option Nat}(hd:∀t,dst=some t->t<st.n) {t ty:TypeId} {x:AV} {vx:Value}(hx:aa w A β vx x) {out:Out}
  (h:nI T st.h t x=some out) (hc:∀p∈out.cond,p):∃v' w',(Builtin.clear_ #[t] ty #[vx]).run P w= .ok v' w'/\Rel C (st.put dst out) (a.put dst v') w':=by
 have adF:∀w',aa w' A β (.tuple #[]) (.b4 []):=fun w'=>by simp only [aa];exact⟨#[],rfl,by rfl⟩
 unfold nI at h;split at h
 . rename_i k sz off n;split at h
   . rename_i e row l hk;split at h
     . rename_i el te he lz;obtain⟨hu,Nj,i,hi,py,PD,Sx⟩:=AT hT he lz;cases hq:(bE T t row.length&&Nat.beq sz row.length&&Nat.beq row.length te.size&&cU row te.zero) with
       |false=>grind
       |true=>
        simp only [hq,cond_true,Option.some.injEq] at h;subst h;simp only [Bool.and_eq_true] at hq;obtain⟨⟨⟨q0,q1⟩,q2⟩,q3⟩:=hq;have q1:=Nat.eq_of_beq_eq_true q1;have q2:=Nat.eq_of_beq_eq_true q2;subst q1;obtain⟨el',i',Fm,gU,aLh,iT⟩:=e8 hT q0;have hz:=sv (w:=w) (A:=A) q3;have SF:=gK row _ _ hz;have J1:te.zero.cells.size=te.size:=by grind
        rcases hx with⟨hn0,ad,cap,hv,Cr⟩|⟨b',mm,iS,vO,hv,zv,aGU,aGV,aGW⟩
        . subst hn0;rw [hv];refine⟨.tuple #[],w,by cases ad<;>simp [Builtin.clear_,run_underlying hu],?_⟩;have :=hB.same (dst:=dst) hd (c:= [off+0<=l.length]) (r:= .b4 []) (v:= .tuple #[]) hk (adF w);simpa using Rel.ly this
        . rcases e9 hB hk with⟨g1,g2⟩|⟨b,cap,cur,g1,g2,g3,g4,g5,g6,g7⟩
          . grind
          . rw [g1] at hv;obtain⟨rfl,rfl,rfl⟩:=hv
            have abX:(Builtin.zeroCells te.zero.cells n).toList=(List.replicate n te.zero.cells.toList).flatten:=by
             have :=pF te.zero.cells (by omega) n;simp_all[Builtin.zeroCells]
            have wa:=qm hz n;have hlen:=fp _ _ wa;rw [List.length_replicate] at hlen;rw [zv];by_cases hn:n=0
            . subst hn;refine⟨.tuple #[],w,by simp [Builtin.clear_,run_underlying hu],?_⟩;have :=hB.same (dst:=dst) hd (c:= [off+0<=l.length]) (r:= .b4 []) (v:= .tuple #[]) hk (adF w);simpa using Rel.ly this
            . have hr:=PI (P:=P) (ty:=ty) (n:=n) (cap:=vO) (off:=off*row.length) hu hi Sx g2 abX (vT _ _ wa) (by
               rw [hlen,g5,<-h?];exact F? _ (by omega)) (by omega)
              refine⟨_,_,hr,?_⟩;have A5:=Cw hB hd hk g1 (off:=off) (c:= [off+n<=l.length]) (r:= .b4 []) (v:= .tuple #[]) wa (by rw [List.length_replicate];omega) adF g2 g5 g3 g4 g6 g7;rw [List.length_replicate] at A5;exact A5
     grind
   grind
 grind
end
end Go.Vg

end
section
namespace Go.Vg
open Go
section
variable {P:Program} {C:Ctx} {A A':Nat->Prop} {β:Nat->Value} {st:St} {a:Act} {w:World} {T:cA}
theorem A6:∀(u:List UInt8) (cs:List Value),E2 (bC w A [.int .u8]) cs u->cs=u.map fun b=>Value.int .u8 (b.toNat:Int)
 | [],cs,h=>by grind[E2]
 |b::u,cs,⟨c1,c2,hc,h1,h2⟩=>by
  subst hc;obtain⟨v,vs,rfl,h3,rfl⟩:=h1;rw [A6 u c2 h2];simp;exact h3.1
theorem foldl_push:∀(u:List UInt8) (r:ByteArray),(u.map fun b=>(b.toNat:Int)).foldl (fun r n=>r.push (UInt8.ofNat n.toNat)) r=⟨(r.data.toList++u).toArray⟩
 | [],r=>by simp
 |b::u,r=>by
  simp;rw [foldl_push u];simp
theorem wb(hB:aF C A β st a w) {x:AV} {v:Value}(hx:aa w A β v x) {u:List UInt8}(h:lv st.h [.int .u8] x=some u)(PJ:∀n c,v= .slice none n c->n=0)(wc:∃ad n c,v= .slice ad n c):
  (Conv.bytesToString v).run P w= .ok (.string ⟨u.toArray⟩) w/\u.length<=maxLen:=by
 obtain⟨cs,fR⟩:=EG (P:=P) hB hx h;have dy:=A6 u cs fR.rd;obtain⟨ad,n,c,rfl⟩:=wc
 have hn:n=u.length:=by
  have :=fR.len;simp_all[Builtin.lenOf]
 refine⟨?_,fR.max⟩;cases ad with
 |none=>
  have :=PJ n c rfl;have hu:u= []:=Y! (by omega);subst hu;rfl
 |some p=>
  have hf:=fR.first w rfl u.length (N! _);have hl:=fp (row:= [.int .u8]) u cs fR.rd;rw [<-hl,List.take_length] at hf
  have azc:(loadCells p n).run P w= .ok ((u.map fun b=>(b.toNat:Int)).map (Value.int .u8)).toArray w:=by
   simp_all[Builtin.firstCells,Nat.mul_one]
  rw [run_bytesToString w p n c _ azc,foldl_push];simp
theorem we(hB:aF C A β st a w) {dst:Option Nat}(hd:∀t,dst=some t->t<st.n) {e:TypeId} {u:List UInt8}(hu:u.length<=maxLen) {c:List Prop}:
  ∃v' w',(Conv.stringToBytes e ⟨u.toArray⟩).run P w= .ok v' w'/\Rel C (st.put dst {cond:=c,res:= .sl [.int .u8] u}) (a.put dst v') w':=by
 let cap:=grownCap w u.length 0 e
 have KE:u.length<=cap:=grownCap_ge w u.length 0 e;have Cr:cap<=maxLen:=grownCap_le_maxLen w u.length 0 e hu;let arr:Array Value:=(u.map fun b=>Value.int .u8 (b.toNat:Int)).toArray++Array.replicate (cap-u.length) (.int .u8 0)
 let w':World:=(w.drew.alloc (.cells arr e)).freeze ⟨w.heap.size,arr.size,none⟩ 1
 have gT:(Conv.stringToBytes e ⟨u.toArray⟩).run P w= .ok (.slice (some ⟨w.heap.size,0,none⟩) u.length cap) w':=by
  have J4:(w.drew.alloc (.cells arr e)).shape? w.heap.size=some (e,arr.size):=by
   have :=heap_alloc_new w.drew (.cells arr e);simp_all[World.shape?]
  have h1:(⟨u.toArray⟩:ByteArray).size=u.length:=sO u;simp only [Conv.stringToBytes,Sem.run_bind,run_choose,Question.forced,B?,Z?,Result.andThen_ok,h1,newRow,run_newObj,Sem.run_pure,markStringish,run_shape];have hg:(Question.appendCap u.length 0 e).cut (w.tape w.drawn (Question.appendCap u.length 0 e))=cap:=rfl;rw [hg]
  have adG:Array.map (fun b:UInt8=>Value.int IntKind.u8 (b.toNat:Int)) u.toArray++Array.replicate (cap-u.length) (Value.int IntKind.u8 0)=arr:=by
   grind
  rw [adG];have hw2:({heap:=w.heap.push (Obj.cells arr e),tape:=w.tape,drawn:=w.drawn+1,os:=w.os,output:=w.output}:World)=w.drew.alloc (.cells arr e):=rfl;grind[run_freeze,Result.andThen_ok]
 have ou:∀b,b<w.heap.size->w'.heap[b]? =w.heap[b]? :=by
  intro b hb;have h2:(w.drew.alloc (.cells arr e)).heap[b]? =w.heap[b]? :=nO (w:=w.drew) _ b hb;simp only [w',World.freeze,Nat.one_ne_zero,if_false,Array.getElem?_modify];grind
 have dN:∃fz,w'.heap[w.heap.size]? =some (.cells arr e fz):=by
  have h2:(w.drew.alloc (.cells arr e)).heap[w.heap.size]? =some (.cells arr e):=heap_alloc_new w.drew _;simp only [w',World.freeze,Nat.one_ne_zero,if_false,Array.getElem?_modify,if_true,h2,Option.map_some];grind
 have l8:w'.heap.size=w.heap.size+1:=by
  have :(w.drew.alloc (.cells arr e)).heap.size=w.heap.size+1:=by simp
  simp only [w',World.freeze,Nat.one_ne_zero,Z?,Array.size_modify];omega
 let A':Nat->Prop :=fun b=>A b\/b=w.heap.size
 have hK:dg w w' A A':=fun b hb=>⟨.inl hb,ou b (hB.bound b hb)⟩;refine⟨_,w',gT,A',β,?_⟩;refine hB.step (out:= {cond:=c,res:= .sl [.int .u8] u}) hd (by simp [aw]) (by simp [aw]) (fun _ _=>rfl) hK rfl rfl rfl (by omega) (fun b hb _=>ou b hb) ?_ ?_ (by simp [aw]) (by simp [aw]) (by simp [aw]) (by simp [aw]) ?_
 . intro b hb;rcases hb with hb|rfl
   . have :=hB.bound b hb;omega
   omega
 . grind
 . refine⟨_,cap,_,rfl,KE,Cr,Fl u,fun _=>⟨w.heap.size,0,rfl, .inr rfl,fun j v hj=> ?_⟩⟩;simp only [World.cell?,dN,Nat.zero_add];grind
theorem adH {row:List Ty} {n c:Nat} {l:List (Row row)}(h:Rd w A (.slice row) (.slice none n c) l)(hp:0<row.length):n=0:=by
 obtain⟨ad,cap,cs,h1,h2,h3,h4,h5⟩:=h;obtain⟨rfl,rfl,rfl⟩:=h1;grind[fp,List.length_nil,Nat.mul_eq_zero]
theorem SG(hB:aF C A β st a w) {x:AV} {v:Value}(hx:aa w A β v x)(hn:tN x=true) {u:List UInt8}(h:lv st.h [.int .u8] x=some u):
  (∃ad n c,v= .slice ad n c)/\∀n c,v= .slice none n c->n=0:=by
 have wc:∀ {row:List Ty} {l:List (Row row)},row= [.int .u8]->Rd w A (.slice row) v l->(∃ad n c,v= .slice ad n c)/\∀n c,v= .slice none n c->n=0:=by
  grind[tV,Value.slice.injEq,adH]
 unfold lv at h;split at h
 . grind[tN]
 . simp [aa] at hx;grind
 . cases x with
   |sl r l=>
    obtain⟨e,_⟩:=iU h;exact wc e hx
   |full r l=>
    grind[gu,iU,aa]
   |own k=>
    grind[gu,aa,ma,Value.slice.injEq]
   |pre k n=>
    simp [aa] at hx;grind
   |view k sz off n=>
    grind[aa]
   |_=>grind[gu]
def adI(P:Program)(C:Ctx)(st:St)(a:Act)(w:World)(d:Option Nat)(out:Out)(s:Sem Value):Prop :=∃v w',s.run P w= .ok v w'/\Rel C (st.put d out) (a.put d v) w'
theorem Reads.qn(hB:aF C A β st a w) {dst:Option Nat}(hd:∀t,dst=some t->t<st.n) {s:Sem Value} {out:Out}(h:Reads P A β w s out):adI P C st a w dst out s:=
 let⟨hq,v,h1,h2⟩:=h
 ⟨v,w,h1,Rel.ly (hB.quiet hd hq h2)⟩
theorem SH(hT:bO T P)(hB:aF C A β st a w) {dst:Option Nat}(hd:∀t,dst=some t->t<st.n) {s d:TypeId} {k:Nat} {v:Value}(hx:aa w A β v (.own k)) {out:Out}
  (h:xH T st.h s d k=some out) (hc:∀p∈out.cond,p):adI P C st a w dst out (convert s d v):=by
 unfold xH at h;cases hsd:Nat.beq s d with
 |false=>grind
 |true=>
  have hsd:=E! hsd;subst hsd;simp at h;split at h
  . rename_i ts zC;have ph:=kA hT zC;split at h
    . rename_i e Em;rw [Em] at ph;split at h
      . rename_i te e0 row l lz hk;have PK:=kA hT lz;split at h
        . rename_i l' hde iu;rw [hde] at PK;obtain⟨he,hl⟩:=iU iu;subst he;simp only at hl;subst hl;simp at h;subst h;have iT:0<l.length:=eC hc;obtain⟨xs,ho,pE,iV⟩:=hB.blocks k _ hk;rcases ho.2 with⟨_,h0⟩|⟨g,cap,cur,hv,_,hg,hn,KE,cZ,zy⟩
          . omega
          . have zt:aA (β k)=some g:=by rw [hv];rfl
            have aGX:¬A g:=by grind
            have aLi:g<w.heap.size:=(G?.1 hg).1;rw [hx.1,hv];let w':World:=w.freeze ⟨g,cur.size,none⟩ 1
            have J4:w.shape? g=some (e0,cur.size):=by grind[World.shape?]
            have gT:(convert s s (.slice (some ⟨g,0,none⟩) l.length cap)).run P w= .ok (.slice (some ⟨g,0,none⟩) l.length cap) w':=by
             simp only [convert,Sem.run_bind,run_underlying ph,run_underlying PK,Result.andThen_ok,beq_self_eq_true,markStringish,run_shape,J4,run_freeze,Sem.run_pure];rfl
            have ou:∀b,b≠g->w'.heap[b]? =w.heap[b]? :=by
             intro b hb;simp only [w',World.freeze,Nat.one_ne_zero,if_false,Array.getElem?_modify];grind
            have dN:∃fz,w'.heap[g]? =some (.cells cur e0 fz):=by
             simp only [w',World.freeze,Nat.one_ne_zero,if_false,Array.getElem?_modify,if_true,hg,Option.map_some];grind
            obtain⟨fz,dN⟩:=dN;have l8:w'.heap.size=w.heap.size:=by simp only [w',World.freeze,Nat.one_ne_zero,Z?,Array.size_modify]
            have hK:dg w w' A (fun b=>A b\/b=g):=fun b hb=>⟨.inl hb,ou b (fun h=>aGX (h▸hb))⟩;have axM:lG st {cond:= [0<l.length],res:= .sl [.int .u8] l,del:= [k]} k:=⟨by grind, .inr (by simp [aI])⟩;refine⟨_,w',gT,fun b=>A b\/b=g,β,?_⟩;refine hB.step (out:= {cond:= [0<l.length],res:= .sl [.int .u8] l,del:= [k]}) hd (by simp [aw]) (by simp [aw]) (fun _ _=>rfl) hK rfl rfl rfl (by omega) (fun b hb hnt=>ou b (fun h=>hnt k axM (by grind))) ?_ ?_ (by simp [aw]) (by simp [aw]) (by simp [aw]) (by simp [aw]) ?_
            . intro b hb;rcases hb with hb|rfl
              . have :=hB.bound b hb;omega
              omega
            . grind
            . refine⟨_,cap,xs,rfl,hn,KE,bX (fun c x hx=>bY hK _ c x hx) _ _ pE,fun _=>⟨g,0,rfl, .inr rfl,fun j u hj=> ?_⟩⟩;rw [<-zy,i?] at hj;simp_all[World.cell?,r?,Option.isSome_none,B?,Z?]
        grind
      grind
    grind
  grind
theorem FA(hT:bO T P)(hB:aF C A β st a w) {dst:Option Nat}(hd:∀t,dst=some t->t<st.n) {s d:TypeId} {x:AV} {v:Value}(hx:aa w A β v x) {out:Out}
  (h:mz T st.h s d x=some out) (hc:∀p∈out.cond,p):adI P C st a w dst out (convert s d v):=by
 unfold mz at h;split at h
 . rename_i ts td zC htd;have ph:=kA hT zC;have PL:=kA hT htd;split at h
   . rename_i k0 k k' n Em sr;rw [Em] at ph;rw [sr] at PL;simp only [aa] at hx;obtain⟨rfl,hn⟩:=hx
     have gT:(convert s d (.int k' n)).run P w= .ok (.int k (k.wrap n)) w:=by
      simp_all[convert,run_underlying,Conv.intToInt]
     split at h
     . rename_i hr;simp only [A!] at h;subst h;have hin:lo k<=n/\n<=hi k:=by omega
       rw [vP hin] at gT;exact Reads.qn hB hd ⟨⟨rfl,rfl,rfl⟩,_,gT,by simp_all[aa,trivial]⟩
     . obtain⟨hq,hr,_⟩:=nK (w:=w) (A:=A) (β:=β) h hc;exact Reads.qn hB hd ⟨hq,_,gT,hr⟩
   . rename_i u Em sr;rw [Em] at ph;rw [sr] at PL;simp only [A!] at h;subst h;have AR:=hx;simp only [aa] at hx;exact Reads.qn hB hd ⟨⟨rfl,rfl,rfl⟩,_,by simp_all[convert,run_underlying],AR⟩
   . rename_i e u Em sr;rw [Em] at ph;rw [sr] at PL;simp only [aa] at hx;obtain⟨rfl,hn⟩:=hx;split at h
     . rename_i te lz;have PK:=kA hT lz;split at h
       . rename_i hde;rw [hde] at PK;simp only [A!] at h;subst h;obtain⟨v',w',h1,h2⟩:=we (P:=P) hB hd (e:=e) hn (c:= []);exact⟨v',w',by simp_all[convert,run_underlying],h2⟩
       grind
     grind
   . rename_i e Em sr;rw [Em] at ph;rw [sr] at PL;split at h
     . rename_i te lz;have PK:=kA hT lz;split at h
       . rename_i hde;rw [hde] at PK;split at h
         . rename_i u hns hu;simp only [A!] at h;subst h;have hvs:=SG hB hx hns hu;obtain⟨h1,h2⟩:=wb (P:=P) hB hx hu hvs.2 hvs.1;obtain⟨ad,n,c,rfl⟩:=hvs.1;refine Reads.qn hB hd ⟨⟨rfl,rfl,rfl⟩, .string ⟨u.toArray⟩,?_,by simp_all[aa,trivial]⟩;simp_all[convert,run_underlying]
         grind
       grind
     grind
   . grind[SH]
   grind
 grind
end
end Go.Vg

end
section
namespace Go.Vg
open Go
structure jS (w:World) (A:Nat->Prop) (w':World) (v:Value) (res:AV) (bs:List AB) (A':Nat->Prop) (aO:Nat->Value):Prop where
 os:w'.os=w.os
 tape:w'.tape=w.tape
 output:w'.output=w.output
 size:w.heap.size<=w'.heap.size
 same:∀b,b<w.heap.size->w'.heap[b]? =w.heap[b]?
 mono:∀b,A b->A' b
 lx:∀b,b<w.heap.size->A' b->A b
 bound:∀b,A' b->b<w'.heap.size
 res:aa w' A' aO v res
 rows:∀i ab,bs[i]? =some ab->BR w' A' aO i ab/\∀b,aA (aO i)=some b->w.heap.size<=b
 apart:∀i j b,i<bs.length->j<bs.length->aA (aO i)=some b->aA (aO j)=some b->i=j
def Valid(P:Program)(G:Nat->Option GD)(f:FuncId)(s:bh):Prop :=
 ∀(w:World) (A:Nat->Prop) (β:Nat->Value) (args:List Value) (cM:List AV) (pre:Prop) (res:AV) (bs:List AB),
  (∀b,A b->b<w.heap.size)->(∀i d,G i=some d->pe w A i d)->ai w A β args cM->s cM=some (pre,res,bs)->pre->
  Calls P f args.toArray w fun e w'=>∃v,e= .returned v/\∃A' aO,jS w A w' v res bs A' aO
def HM(β:Nat->Value)(n:Nat)(b:Nat):Prop :=∃i,i<n/\aA (β (50000+i))=some b
def SI(r:b9)(k:Nat):Prop :=(∃i ab,k=50000+i/\i<10000/\r.heap[i]? =some (some ab))\/∃j,k=60000+j/\j<r.new.length
structure FB (w:World) (A:Nat->Prop) (β:Nat->Value) (n:Nat) (w':World) (v:Value) (r:b9) (A':Nat->Prop) (aO:Nat->Value):Prop where
 os:w'.os=w.os
 tape:w'.tape=w.tape
 output:w'.output=w.output
 size:w.heap.size<=w'.heap.size
 same:∀b,b<w.heap.size->¬HM β n b->w'.heap[b]? =w.heap[b]?
 mono:∀b,A b->A' b/\w'.heap[b]? =w.heap[b]?
 lx:∀b,b<w.heap.size->A' b->A b\/HM β n b
 bound:∀b,A' b->b<w'.heap.size
 res:aa w' A' aO v r.res
 kept:∀i ab,r.heap[i]? =some (some ab)->BR w' A' aO (50000+i) ab/\aO (50000+i)=β (50000+i)
 rows:∀j ab,r.new[j]? =some ab->BR w' A' aO (60000+j) ab/\∀b,aA (aO (60000+j))=some b->w.heap.size<=b\/HM β n b
 apart:∀k k' b,SI r k->SI r k'->aA (aO k)=some b->aA (aO k')=some b->k=k'
def az(P:Program)(G:Nat->Option GD)(f:FuncId)(s:bq):Prop :=
 ∀(w:World) (A:Nat->Prop) (β:Nat->Value) (args:List Value) (cM:List AV) (hs:List AB) (r:b9),
  (∀b,A b->b<w.heap.size)->(∀i d,G i=some d->pe w A i d)->ai w A β args cM->
  (∀i ab,hs[i]? =some ab->BR w A β (50000+i) ab)->(∀i j b,i<hs.length->j<hs.length->aA (β (50000+i))=some b->aA (β (50000+j))=some b->i=j)->
  s cM hs=some r->r.pre->r.heap.length=hs.length->hs.length<=100->
  Calls P f args.toArray w fun e w'=>∃v,e= .returned v/\∃A' aO,FB w A β hs.length w' v r A' aO
section
variable {P:Program} {C:Ctx} {A A':Nat->Prop} {β aO:Nat->Value} {st:St} {a:Act} {w:World} {T:cA}
theorem FC {β aO:Nat->Value}:∀(cs:List AV) (vs:List Value),cs.all E8=true->ai w A β vs cs->ai w A aO vs cs
 | [],vs,_,h=>by grind[ai]
 |c::cs,vs,ho,h=>by
  simp only [List.all_cons,Bool.and_eq_true] at ho;obtain⟨v,cg,rfl,h1,h2⟩:=h;refine⟨v,cg,rfl,?_,FC cs cg ho.2 h2⟩;have ho1:=ho.1;unfold E8 at ho1;split at ho1
  . simpa only [aa,ai] using h1
  . cases ho1
mutual
theorem ua(base n:Nat)(cB:∀i,i<n->aO (base+i)=β i):∀(x:AV) (v:Value),jv n x=true->aa w A β v x->aa w A aO v (dM base x)
 | .own k,v,ho,h=>by
   simp only [jv] at ho;have :=M! ho;simp only [dM,aa] at h |-;rw [cB k (by omega)];exact h
 | .agg cs,v,ho,h=>by
   simp only [jv] at ho;simp only [dM,aa] at h |-;obtain⟨arr,h1,h2⟩:=h;exact⟨arr,h1,wg base n cB cs _ ho h2⟩
 | .b4 cs,v,ho,h=>by
   simp only [jv] at ho;simp only [dM,aa] at h |-;obtain⟨arr,h1,h2⟩:=h;exact⟨arr,h1,wg base n cB cs _ ho h2⟩
 | .dz,v,ho,h=>by simp [jv] at ho
 | .pre _ _,v,ho,h=>by simp [jv] at ho
 | .view _ _ _ _,v,ho,h=>by simp [jv] at ho
 | .ref _ _,v,ho,h=>by simp [jv] at ho
 | .elem _ _ _ _,v,ho,h=>by simp [jv] at ho
 | .fn _ _ _,v,ho,h=>by simp [jv] at ho
 | .gR _ _ _,v,ho,h=>by simp [jv] at ho
 | .undef,v,_,h=>by simpa only [dM,aa] using h
 | .int _ _,v,_,h=>by simpa only [dM,aa] using h
 | .bool _,v,_,h=>by simpa only [dM,aa] using h
 | .tt,v,_,h=>by simpa only [dM,aa] using h
 | .ff,v,_,h=>by simpa only [dM,aa] using h
 | .str _,v,_,h=>by simpa only [dM,aa] using h
 | .nil,v,_,h=>by simpa only [dM,aa] using h
 | .jM,v,_,h=>by simpa only [dM,aa] using h
 | .pw _ _,v,_,h=>by simpa only [dM,aa] using h
 | .kq,v,_,h=>by simpa only [dM,aa] using h
 | .ia ks cs,v,ho,h=>by
   simp only [jv] at ho;simp only [dM,aa] at h |-;obtain⟨b,es,ck,h1,h2,h3,h4,h5⟩:=h;exact⟨b,es,ck,h1,h2,h3,h4,FC cs _ ho h5⟩
 | .sl _ _,v,_,h=>by simpa only [dM,aa] using h
 | .full _ _,v,_,h=>by simpa only [dM,aa] using h
theorem wg(base n:Nat)(cB:∀i,i<n->aO (base+i)=β i):∀(xs:List AV) (vs:List Value),AA n xs=true->ai w A β vs xs->ai w A aO vs (pY base xs)
 | [],vs,_,h=>by simpa only [pY,ai] using h
 |x::xs,vs,ho,h=>by
  simp only [AA,B!] at ho;simp only [ai] at h;obtain⟨v,cg,rfl,h1,h2⟩:=h;simp only [pY,ai];exact⟨v,cg,rfl,ua base n cB x v ho.1 h1,wg base n cB xs cg ho.2 h2⟩
end
mutual
theorem FD:∀(x:AV) (v:Value),x.eS=true->aa w A β v x->aa w A' β v x
 | .own _,v,_,h=>by simpa only [aa] using h
 | .agg cs,v,ho,h=>by
   simp only [AV.eS] at ho;simp only [aa] at h |-;obtain⟨arr,h1,h2⟩:=h;exact⟨arr,h1,wh cs _ ho h2⟩
 | .b4 cs,v,ho,h=>by
   simp only [AV.eS] at ho;simp only [aa] at h |-;obtain⟨arr,h1,h2⟩:=h;exact⟨arr,h1,wh cs _ ho h2⟩
 | .dz,v,ho,h=>by simp [AV.eS] at ho
 | .pre _ _,v,ho,h=>by simp [AV.eS] at ho
 | .view _ _ _ _,v,ho,h=>by simp [AV.eS] at ho
 | .ref _ _,v,ho,h=>by simp [AV.eS] at ho
 | .elem _ _ _ _,v,ho,h=>by simp [AV.eS] at ho
 | .fn _ _ _,v,ho,h=>by simp [AV.eS] at ho
 | .gR _ _ _,v,ho,h=>by simp [AV.eS] at ho
 | .jM,v,ho,h=>by simp [AV.eS] at ho
 | .pw _ _,v,ho,h=>by simp [AV.eS] at ho
 | .kq,v,ho,h=>by simp [AV.eS] at ho
 | .ia _ _,v,ho,h=>by simp [AV.eS] at ho
 | .sl _ _,v,ho,h=>by simp [AV.eS] at ho
 | .full _ _,v,ho,h=>by simp [AV.eS] at ho
 | .undef,v,_,h=>by simpa only [aa] using h
 | .int _ _,v,_,h=>by simpa only [aa] using h
 | .bool _,v,_,h=>by simpa only [aa] using h
 | .tt,v,_,h=>by simpa only [aa] using h
 | .ff,v,_,h=>by simpa only [aa] using h
 | .str _,v,_,h=>by simpa only [aa] using h
 | .nil,v,_,h=>by simpa only [aa] using h
theorem wh:∀(xs:List AV) (vs:List Value),Az xs=true->ai w A β vs xs->ai w A' β vs xs
 | [],vs,_,h=>by simpa only [ai] using h
 |x::xs,vs,ho,h=>by
  simp only [Az,B!] at ho;simp only [ai] at h |-;obtain⟨v,cg,rfl,h1,h2⟩:=h;exact⟨v,cg,rfl,FD x v ho.1 h1,wh xs cg ho.2 h2⟩
end
theorem PM:∀(row:List Ty) (vs:List Value) (x:Row row),row.all EF=true->bC w A row vs x->bC w A' row vs x
 | [],vs,_,_,h=>by grind[bC]
 |t::ts,vs,x,hf,h=>by
  simp only [List.all_cons,B!] at hf;obtain⟨v,cg,rfl,h1,h2⟩:=h;refine⟨v,cg,rfl,?_,PM ts cg _ hf.2 h2⟩;cases t with
  |slice r=>simp [EF] at hf
  |int k=>simpa only [Rd] using h1
  |bool=>simpa only [Rd] using h1
  |str=>simpa only [Rd] using h1
theorem rG(base:Nat):∀(bs:List AB) (n k:Nat),aw (fC (base+n) bs) k=(if base+n<=k then bs[k-(base+n)]? else none)
 | [],n,k=>by simp [fC,aw]
 |b::bs,n,k=>by
  simp only [fC,aw];by_cases hk:k=base+n
  . simp_all
  . simp;have :=rG base bs (n+1) k;grind
theorem yN:∀(bs:List AB) (i:Nat) (ab:AB),iR bs=true->bs[i]? =some ab->∃e row l,ab= .row e row l false
 | [],i,ab,_,h=>by grind
 | .cells _::bs,_,_,h,_=>by grind[iR]
 | .arr _ _::bs,_,_,h,_=>by grind[iR]
 | .gS _ _ _ _ _::bs,_,_,h,_=>by grind[iR]
 | .views _ _ _ _ _::bs,_,_,h,_=>by grind[iR]
 | .row e row l true ::bs,_,_,h,_=>by grind[iR]
 | .row e row l false ::bs,0,ab,_,h=>by grind
 | .row e row l false ::bs,i+1,ab,ho,h=>yN bs i ab (by grind[iR]) (by grind)
theorem yO:∀(bs:List AB) (i:Nat) (e:Nat) (row:List Ty) (l:List (Row row)) (fr:Bool),dD bs=true->bs[i]? =some (.row e row l fr)->row.all EF=true
 | [],i,_,_,_,_,_,h=>by grind
 | .cells _::bs,_,_,_,_,_,h,_=>by grind[dD]
 | .arr _ _::bs,_,_,_,_,_,h,_=>by grind[dD]
 | .gS _ _ _ _ _::bs,_,_,_,_,_,h,_=>by grind[dD]
 | .views _ _ _ _ _::bs,_,_,_,_,_,h,_=>by grind[dD]
 | .row e row l fr::bs,0,e',jn,l',Cg,ho,h=>by
   simp_all[dD,B!]
 | .row e row l fr::bs,i+1,e',jn,l',Cg,ho,h=>by
   simp [dD,B!] at ho;exact yO bs i e' jn l' Cg ho.2 (by simpa using h)
theorem jq {h:bg}:∀(new:List (Nat×AB)) (k:Nat) (b:AB),jy h new=true->aw new k=some b->h k=none/\pB k=false
 | [],k,b,_,hf=>by grind[aw]
 |(j,x)::r,k,b,ho,hf=>by
  simp [jy,B!] at ho;simp [aw] at hf;by_cases hk:k=j
  . grind
  . simp [bc hk,P!] at hf;exact jq r k b ho.2 hf
theorem aF.call(hB:aF C A β st a w) {dst:Option Nat}(hd:∀t,dst=some t->t<st.n) {base:Nat} {res:AV} {bs:List AB} {fz:List Nat} {cond:List Prop} {v:Value} {w':World} {A1:Nat->Prop} {me:Nat->Value}
  (zB:∀j∈fz,∃e row l fr,st.h j=some (.row e row l fr)) (dN:jy st.h (fC base bs)=true) (hro:jv bs.length res=true) (hor:iR bs=true)
  (hp:jS w (cq A β fz) w' v res bs A1 me):
  Rel C (st.put dst {cond:=cond,res:=dM base res,ib:=bif res.eS&&dD bs then [] else cJ st.h fz,new:=fC base bs}) (a.put dst v) w':=by
 let aO:Nat->Value:=fun k=>if base<=k/\k<base+bs.length then me (k-base) else β k
 have FE:∀i,i<bs.length->aO (base+i)=me i:=by
  grind
 have rH:∀k,aw (fC base bs) k=(if base<=k then bs[k-base]? else none):=fun k=>by simpa using rG base bs 0 k
 have cB:∀k,aw (fC base bs) k=none->aO k=β k:=by
  grind
 have nD:∀k ab,aw (fC base bs) k=some ab->base<=k/\bs[k-base]? =some ab/\k-base<bs.length:=by
  grind
 have yP:∀k ab,aw (fC base bs) k=some ab->aO k=me (k-base):=by
  grind
 let A2:Nat->Prop :=bif res.eS&&dD bs then A else A1
 have aGZ:∀b,A b->A2 b:=by
  intro b hb;simp only [A2];cases res.eS&&dD bs with
  |true=>grind
  |false=>exact hp.mono b (.inl hb)
 have hK:dg w w' A A2:=fun b hb=>⟨aGZ b hb,hp.same b (hB.bound b hb)⟩
 have AM:∀k ab,aw (bif res.eS&&dD bs then [] else cJ st.h fz) k=some ab->(res.eS&&dD bs)=false/\k∈fz/\∃e row l fr,st.h k=some (.row e row l fr)/\ab= .row e row l true :=by
  grind[dD,aw,iG]
 refine⟨A2,aO,?_⟩;refine hB.step (out:= {cond:=cond,res:=dM base res,ib:=bif res.eS&&dD bs then [] else cJ st.h fz,new:=fC base bs}) hd (fun k b h=>jq _ k b dN h) ?_ cB hK hp.os hp.tape hp.output hp.size (fun b hb _=>hp.same b hb) ?_ ?_ ?_ ?_ ?_ ?_ ?_
 . grind
 . intro b hb;simp only [A2] at hb;cases hl:res.eS&&dD bs with
   |true=>rw [hl] at hb;exact Y? (hB.bound b hb) hp.size
   |false=>rw [hl] at hb;exact hp.bound b hb
 . intro b hb;simp only [A2] at hb;cases hl:res.eS&&dD bs with
   |true=>grind
   |false=>
    rw [hl] at hb;rcases Nat.lt_or_ge b w.heap.size with fP|Ek
    . rcases hp.lx b fP hb with h|⟨j,hj,SC⟩
      . exact .inl h
      . have hr:=zB j hj;refine .inr (.inr ⟨j,⟨by obtain⟨_,_,_,_,hr⟩:=hr;simp [hr], .inl ?_⟩,SC⟩);simp only [P!];exact ov fz j hj hr
    . exact .inr (.inl Ek)
 . intro k ab h _;obtain⟨hl,hk,e,row,l,fr,hr,rfl⟩:=AM k ab h;rw [abK]
   have hkn:aw (fC base bs) k=none:=by
    cases hh:aw (fC base bs) k with
    |none=>rfl
    |some y=>have :=(jq _ k y dN hh).1;rw [hr] at this;cases this
   obtain⟨xs,h1,h2,h3⟩:=hB.blocks k _ hr;simp only [BR,cB k hkn];refine⟨xs,gJ h1 (fun b hb=>hp.same b (lJ hB (by simp [hr]) hb)),bX (fun c x hx=>bY hK row c x hx) l xs h2,fun b hb=> ?_⟩;simp only [H?,A2,hl,P!];exact hp.mono b (.inr ⟨k,hk,hb⟩)
 . intro k ab h;obtain⟨h1,h2,h3⟩:=nD k ab h;obtain⟨e,row,l,rfl⟩:=yN bs _ ab hor h2;obtain⟨⟨xs,g1,g2,g3⟩,g4⟩:=hp.rows _ _ h2;simp only [BR,yP k _ h]
   have pE:E2 (bC w' A2 row) xs l:=by
    simp only [A2];cases hl:res.eS&&dD bs with
    |true=>
     simp only [B!] at hl;exact bX (fun c x hx=>PM row c x (yO bs _ e row l false hl.2 h2) hx) l xs g2
    |false=>exact g2
   refine⟨xs,g1,pE,fun b hb=> ?_⟩;have g3':=g3 b hb;simp only [B?,Z?] at g3' |-;simp only [A2];cases hl:res.eS&&dD bs with
   |true=>intro hA;exact absurd (hB.bound b hA) (by have :=g4 b hb;omega)
   |false=>exact g3'
 . intro k b ab h hb;obtain⟨h1,h2,h3⟩:=nD k ab h;rw [yP k _ h] at hb;exact .inl ((hp.rows _ _ h2).2 b hb)
 . intro k k' b h h' hb bS;obtain⟨x,hx⟩:=O!.1 h;obtain⟨y,hy⟩:=O!.1 h';obtain⟨h1,h2,h3⟩:=nD k x hx;obtain⟨g1,g2,g3⟩:=nD k' y hy;rw [yP k _ hx] at hb;rw [yP k' _ hy] at bS;have :=hp.apart _ _ b h3 g3 hb bS;omega
 . have sL:=ua (aO:=aO) base bs.length FE res v hro hp.res;simp only [A2];cases hl:res.eS&&dD bs with
   |false=>exact sL
   |true=>
    simp only [B!] at hl;exact ua (aO:=aO) base bs.length FE res v hro (FD res v hl.1 hp.res)
end
end Go.Vg

end
section
namespace Go.Vg
open Go
def ar(P:Program)(f:FuncId):Prop :=∀(args:Array Value) (w:World),(callFunc f args).run P w= .ok (.enter f args) w
structure af (P:Program) (E:Env):Prop where
 fE:bO E.T P
 sig:∀f s,E.sig f=some s->Valid P E.mP f s/\ar P f
 lq:∀f m s,E.lq f=some (m,s)->az P E.mP f s/\ar P f
structure gi (P:Program) (C:Ctx) (E:Env):Prop where
 ok:af P E
 g:C.G=E.mP
theorem gi.fE {P:Program} {C:Ctx} {E:Env}(h:gi P C E):bO E.T P:=h.ok.fE
theorem gi.lq {P:Program} {C:Ctx} {E:Env}(h:gi P C E):∀f m s,E.lq f=some (m,s)->az P E.mP f s/\ar P f:=h.ok.lq
theorem gi.sig {P:Program} {C:Ctx} {E:Env}(h:gi P C E):∀f s,E.sig f=some s->Valid P E.mP f s/\ar P f:=h.ok.sig
def iX(st:St)(o:Oper):Bool:=match o.dst with
 |some d=>Nat.blt d st.n
 |none=>true
section
variable {P:Program} {C:Ctx} {A A':Nat->Prop} {β aO:Nat->Value} {st:St} {a:Act} {w:World} {E:Env}
theorem oK(hB:aF C A β st a w):∀(xs:List Operand),ai w A β (xs.map a.eval) (xs.map (ev st))
 | []=>by rfl
 |x::xs=>by
  exact⟨_,_,rfl,bl hB x,oK hB xs⟩
theorem cN {dst:Option Tmp} {op:Op} {type:TypeId} {pos:String} {after:Array Edge} {guard:Option (Nat×Bool)} {s:Sem Value} {out:Out}
  (hs:∀w,(execOp a.eval ⟨dst,op,type,pos,after,guard⟩).run P w=(s.run P w).andThen fun v w'=> .ok (.value v) w') (h:∃v w',s.run P w= .ok v w'/\Rel C (st.put dst out) (a.put dst v) w')
  {K:Act->World->Prop} {Q:Exit->Act->World->Prop} (hK:∀a' w',Rel C (st.put dst out) a' w'->K a' w'):Oper.wp P ⟨dst,op,type,pos,after,guard⟩ a w K Q:=by
 obtain⟨v,w',h1,h2⟩:=h;refine dj (v:=v) (w':=w') ?_ (hK _ _ h2);simp_all
theorem FF(hB:aF C A β st a w):∀(x:Option Operand),ot w A β (x.map (ev st)) (x.map a.eval)
 |none=>by simp [ot]
 |some x=>by grind[ot,bl]
theorem FG {d:Nat} {b:AB}(h:jy st.h [(d,b)]=true):st.h d=none/\pB d=false :=jq _ d b h (by simp [aw])
theorem Cx {h:bg} {k:Nat}(hf:fresh h k=true):h k=none/\pB k=false :=by
 grind[fresh]
theorem PN(hE:gi P C E)(hB:aF C A β st a w) {o:Oper} {out:Out}(h:di E st o=some out)(j8:iX st o=true)(dN:jy st.h out.new=true)(hc:∀p∈out.cond,p)
  {K:Act->World->Prop} {Q:Exit->Act->World->Prop} (hK:∀a' w',Rel C (st.put o.dst out) a' w'->K a' w'):o.wp P a w K Q:=by
 have hd:∀t,o.dst=some t->t<st.n:=by
  intro t ht;simp_all[iX,M!]
 obtain⟨dst,op,type,pos,after,guard⟩:=o;simp only at hd hK;cases op with
 |move x=>
  simp only [di,A!] at h;subst h;exact dj (by rfl) (hK _ _ (Rel.ly (hB.quiet hd ⟨rfl,rfl,rfl⟩ (bl hB x))))
 |assign x=>
  simp only [di,A!] at h;subst h;exact dj (by rfl) (hK _ _ (Rel.ly (hB.quiet hd ⟨rfl,rfl,rfl⟩ (bl hB x))))
 |pick c x y=>
  simp only [di] at h;have A3:=bl hB c;have hx:=bl hB x;have hy:=bl hB y;split at h
  . rename_i J5;simp only [A!] at h;subst h;rw [J5] at A3;simp only [aa] at A3;exact dj (v:=a.eval x) (by simp_all[execOp,asBool]) (hK _ _ (Rel.ly (hB.quiet hd ⟨rfl,rfl,rfl⟩ hx)))
  . rename_i J5;simp only [A!] at h;subst h;rw [J5] at A3;simp only [aa] at A3;exact dj (v:=a.eval y) (by simp_all[execOp,asBool]) (hK _ _ (Rel.ly (hB.quiet hd ⟨rfl,rfl,rfl⟩ hy)))
  . rename_i p J5;simp only [Option.some.injEq] at h;subst h;rw [J5] at A3;simp only [aa] at A3;refine dj (v:=if p then a.eval x else a.eval y) (by simp_all[execOp,asBool]) (hK _ _ (Rel.ly (hB.quiet hd ⟨rfl,rfl,rfl⟩ ?_)));grind[yJ]
  grind
 |alloc t=>
  simp only [di] at h;split at h
  . rename_i te d ht;cases h40:Nat.ble te.size 40 with
    |false=>grind
    |true=>
    rw [h40] at h;simp only [K!] at h;cases iI:(ofConst te.zero).cells.all AV.one with
    |false=>grind
    |true=>
     simp only [iI,K!,A!] at h;subst h;exact cN (fun w=>by simp [execOp]) (Nk hE.fE hB hd (FG dN) ht iI) hK
  grind
 |box t x=>
  simp only [di] at h;split at h
  . rename_i d;cases iI:(ev st x).cells.all AV.one with
    |false=>grind
    |true=>
     simp only [iI,K!,A!] at h;subst h;exact cN (fun w=>by rfl) (SE (t:=t) hB hd (FG dN) (bl hB x) iI) hK
  grind
 |build t parts=>
  simp only [di] at h;refine cN (s:=Instr.build t (parts.map fun(i,x)=>(i,a.eval x))) (fun w=>by simp [execOp]) (Reads.qn hB hd (Nl hE.fE ?_ ?_ h)) hK
  . simp_all
  . have :=oK hB (parts.toList.map (·.2));simp_all[Function.comp_def]
 |buildSlice t len parts=>
  simp only [di] at h;split at h
  . rename_i d;cases hf:fresh st.h (st.kb+d) with
    |false=>grind
    |true=>
    simp only [hf,K!] at h;have hn:=Cx hf;refine cN (s:=Instr.buildSlice t len (parts.map fun(i,x)=>(i,a.eval x))) (fun w=>by simp [execOp]) (A4 hE.fE hB hd hn ?_ ?_ h) hK
    . simp_all
    . have :=oK hB (parts.toList.map (·.2));simp_all[Function.comp_def]
  grind
 |load t x=>
  simp only [di] at h;exact cN (fun w=>by simp [execOp]) (Reads.qn hB hd (Dk hE.fE hB (bl hB x) h hc)) hK
 |store t x y=>
  simp only [di] at h;have hx:=bl hB x;have hy:=bl hB y
  have key:∃w',(Instr.storeAt t (a.eval x) (a.eval y)).run P w= .ok () w'/\Rel C (st.put dst out) (a.put dst undef) w':=by
   cases zD:ev st x with
   |ref k off=>rw [zD] at h hx;exact Ct hE.fE hB hd hx hy h
   |elem k sz i j=>rw [zD] at h hx;exact AY hE.fE hB hd hx hy h hc
   |_=>grind[iP]
  obtain⟨w',h1,h2⟩:=key;simp_all[sM,execOp]
 |nilCheck x=>
  simp only [di] at h;have hx:=bl hB x
  have fin:∀r,ev st x=r->out= {cond:= [],res:=r}->(execOp a.eval {dst,op:= .nilCheck x,type,pos,after,guard}).run P w= .ok (.value (a.eval x)) w->Oper.wp P {dst,op:= .nilCheck x,type,pos,after,guard} a w K Q:=by
   intro r hr ho gT;subst ho;exact dj gT (hK _ _ (Rel.ly (hB.quiet hd ⟨rfl,rfl,rfl⟩ (by grind))))
  split at h
  . rename_i k off hv;simp only [A!] at h;refine fin _ hv h.symm ?_;rw [hv] at hx;simp only [aa] at hx;obtain⟨b,_,hx⟩:=hx;simp [execOp,hx]
  . rename_i r y j hv;simp only [A!] at h;refine fin _ hv h.symm ?_;rw [hv] at hx;simp only [aa] at hx;obtain⟨b,o,cs,hx,_⟩:=hx;simp [execOp,hx]
  . rename_i k sz i j hv;simp only [A!] at h;refine fin _ hv h.symm ?_;rw [hv] at hx;simp only [aa] at hx;obtain⟨b,m,cap,_,hx⟩:=hx;simp [execOp,hx]
  . rename_i f first bB hv
    simp only [A!] at h;refine fin _ hv h.symm ?_;rw [hv] at hx;simp only [aa] at hx;obtain⟨a1,a2,hx,_⟩:=hx;simp [execOp,hx]
  grind
 |binOp op t x y yt=>
  simp only [di] at h
  exact cN (s:=do eqGuard op t x y (a.eval x) (a.eval y);binOp op t (a.eval x) (a.eval y)) (fun w=>by
   simp only [execOp,Sem.run_bind];rfl) (Reads.qn hB hd (Ss hE.fE (bl hB x) (bl hB y) h hc)) hK
 |unOp op t x=>
  simp only [di] at h;exact cN (fun w=>by simp [execOp]) (Reads.qn hB hd (abo (bl hB x) h hc)) hK
 |convert s d x=>
  simp only [di] at h;exact cN (fun w=>by simp [execOp]) (FA hE.fE hB hd (bl hB x) h hc) hK
 |makeFunc f first bB=>
  simp only [di,A!] at h;subst h;refine dj (v:= .func f (first.map a.eval) (bB.map a.eval)) (by rfl) (hK _ _ (Rel.ly (hB.quiet hd ⟨rfl,rfl,rfl⟩ ?_)));simp only [aa];exact⟨_,_,rfl,by simpa using oK hB first.toList,by simpa using oK hB bB.toList⟩
 |makeSlice t l c=>
  simp only [di] at h;split at h
  . rename_i d;cases hf:fresh st.h (st.kb+d) with
    |false=>grind
    |true=>
    simp only [hf,K!] at h;exact cN (fun w=>by simp [execOp]) (Cv hE.fE hB hd (Cx hf) (bl hB l) (bl hB c) h hc) hK
  grind
 |slice t x l hi mx=>
  simp only [di] at h;exact cN (fun w=>by simp [execOp]) (Reads.qn hB hd (Nf hE.fE hB (bl hB x) (FF hB l) (FF hB hi) (FF hB mx) h hc)) hK
 |fieldAddr s x f=>
  simp only [di] at h;exact cN (fun w=>by simp [execOp]) (Reads.qn hB hd (Cl hE.fE (bl hB x) h)) hK
 |field s x f=>
  simp only [di] at h;have hx:=bl hB x;split at h
  . rename_i ft off cs hf hv;split at h
    . rename_i te ht;split at h
      . rename_i r hp;simp only [A!] at h;subst h;rw [hv] at hx;simp only [aa] at hx;obtain⟨arr,hx,hr⟩:=hx;obtain⟨fs,fd,hu,hfd,e1,e2⟩:=Dl hE.fE hf;obtain⟨v,g1,g2⟩:=sN hE.fE ht hr hp;refine dj (v:=v) (w':=w) ?_ (hK _ _ (Rel.ly (hB.quiet hd ⟨rfl,rfl,rfl⟩ g2)));simp_all[execOp,Instr.field,run_underlying,asAgg]
      grind
    grind
  grind
 |indexAddr t x i=>
  simp only [di,rB] at h;exact cN (fun w=>by simp [execOp]) (Reads.qn hB hd (Ck hE.fE hB (bl hB x) (bl hB i) h hc)) hK
 |lookup t x i ok=>
  simp only [di] at h;have hx:=bl hB x;have hi:=bl hB i;split at h
  . rename_i ks cs n zD hiv;rw [zD] at hx;rw [hiv] at hi;simp only [aa] at hi;refine cN (s:=Instr.lookup t (a.eval x) (a.eval i) ok) (fun w=>by simp [execOp]) (Reads.qn hB hd ?_) hK;rw [hi.1];exact J0 hE.fE hx h hc
  grind
 |extract x i=>
  simp only [di] at h;have hx:=bl hB x;split at h
  . rename_i vs hv;split at h
    . rename_i r hr;simp only [Option.some.injEq] at h;subst h;rw [hv] at hx;simp only [aa] at hx;obtain⟨arr,hx,hrel⟩:=hx;obtain⟨v,g1,g2⟩:=rA vs _ i r hrel hr;have g1':arr[i]? =some v:=by grind
      exact dj (v:=v) (w':=w) (by simp_all[execOp,Instr.extract]) (hK _ _ (Rel.ly (hB.quiet hd ⟨rfl,rfl,rfl⟩ g2)))
    grind
  grind
 |index t x i=>
  simp only [di] at h;have hx:=bl hB x;have hi:=bl hB i;split at h
  . rename_i s k n zD hiv;cases sr:dW E.T t pA with
    |false=>grind
    |true=>
    simp only [sr,cond_true,Option.some.injEq] at h;subst h;obtain⟨h0,h1⟩:=eC hc;obtain⟨dd,hu,aLj⟩:=qh hE.fE sr;have hu:P.underlying t=some .string:=by grind[pA]
    rw [zD] at hx;rw [hiv] at hi;simp only [aa] at hx hi;have fP:n.toNat<s.length:=by omega
    refine dj (v:= .int .u8 ((s.getD n.toNat 0).toNat:Int)) (w':=w) ?_ (hK _ _ (Rel.ly (hB.quiet hd ⟨rfl,rfl,rfl⟩ ?_)))
    . have hg:(⟨s.toArray⟩:ByteArray)[n.toNat]? =some (s.getD n.toNat 0):=by
       rw [getElem?_pos _ _ (by grind[sO])];simp [List.getD,List.getElem?_eq_getElem fP];rfl
      simp [execOp,Instr.index,hx.1,hi.1,asIntOf,run_underlying hu,h0,hg]
    . simp only [aa,true_and];have :=(s.getD n.toNat 0).toNat_lt;grind[lo,Vg.hi]
  . rename_i cs k n zD hiv;rw [zD] at hx;rw [hiv] at hi;simp only [aa] at hx hi;obtain⟨arr,hxe,yx⟩:=hx;exact cN (s:=Instr.index t (.agg arr) (a.eval i)) (fun w=>by simp [execOp,hxe]) (Reads.qn hB hd (Ei hE.fE yx hi.1 h hc)) hK
  grind
 |call c=>
  obtain⟨callee,args,argTypes⟩:=c;simp only [di] at h;split at h
  . rename_i b;split at h
    . rename_i x t bP zC;have hx:=bl hB x;split at h
      . rename_i n hn;cases hq:(bif tN (ev st x) then dW E.T t ik else dW E.T t pA) with
        |false=>grind
        |true=>
         simp only [hq,cond_true,Option.some.injEq] at h;subst h;have ea:args= #[x]:=by grind
         have et:argTypes= #[t]:=by grind
         subst ea;subst et;rcases Sn hB hx hn with⟨ad,l,c,hv,hl,hm⟩|⟨s,hs,hl⟩
         . have hns:tN (ev st x)=true :=by
            cases zD:ev st x<;>first|rfl|skip
            grind[aa]
           rw [hns] at hq;simp only [K!] at hq;obtain⟨d,hu,sr⟩:=qh hE.fE hq;obtain⟨e,rfl⟩:∃e,d= .slice e:=by cases d<;>simp_all [ik]
           refine dj (v:= .int .i64 (l:Int)) (w':=w) ?_ (hK _ _ (Rel.ly (hB.quiet hd ⟨rfl,rfl,rfl⟩ (by grind[v8]))));simp_all[execOp,resolve,invoke,builtin,Builtin.len_,run_underlying,goInt]
         . rw [hs] at hx hq;simp only [tN,cond_false] at hq;obtain⟨d,hu,sr⟩:=qh hE.fE hq;have hu:P.underlying t=some .string:=by grind[pA]
           simp only [aa] at hx;refine dj (v:= .int .i64 (s.length:Int)) (w':=w) ?_ (hK _ _ (Rel.ly (hB.quiet hd ⟨rfl,rfl,rfl⟩ (by grind[v8]))));simp [execOp,resolve,invoke,builtin,hx.1,Builtin.len_,run_underlying hu,goInt,sO]
      grind
    . rename_i x y t t' bP zC;split at h
      . rename_i d;cases hf:fresh st.h (st.kb+d) with
        |false=>grind
        |true=>
         simp only [hf,cond_true] at h;have ea:args= #[x,y]:=by grind
         have et:argTypes= #[t,t']:=by grind
         subst ea;subst et;exact cN (s:=Builtin.append_ #[t,t'] type #[a.eval x,a.eval y]) (fun w=>by simp [execOp,resolve,invoke,builtin]) (J2 hE.fE hB hd (Cx hf) (bl hB x) (bl hB y) h hc) hK
      grind
    . rename_i x y t t' bP zC;have ea:args= #[x,y]:=by grind
      have et:argTypes= #[t,t']:=by grind
      subst ea;subst et;exact cN (s:=Builtin.copy_ #[t,t'] type #[a.eval x,a.eval y]) (fun w=>by simp [execOp,resolve,invoke,builtin]) (PH hE.fE hB hd (bl hB x) (bl hB y) h hc) hK
    . rename_i x t bP zC;have ea:args= #[x]:=by grind
      have et:argTypes= #[t]:=by grind
      subst ea;subst et;exact cN (s:=Builtin.clear_ #[t] type #[a.eval x]) (fun w=>by simp [execOp,resolve,invoke,builtin]) (Np hE.fE hB hd (bl hB x) h hc) hK
    . rename_i x y bP;have ea:args= #[x,y]:=by grind
      subst ea;have hx:=bl hB x;have hy:=bl hB y;split at h
      . rename_i k n k' m zD hyv;split at h
        . rename_i hk;subst hk;simp only [A!] at h;subst h;rw [zD] at hx;rw [hyv] at hy;simp only [aa] at hx hy;refine dj (v:= .int k (min n m)) (w':=w) ?_ (hK _ _ (Rel.ly (hB.quiet hd ⟨rfl,rfl,rfl⟩ (by simp only [aa,true_and];omega))));have e:(if m<n then m else n)=min n m:=by omega
          simp_all[execOp,resolve,invoke,builtin,run_min_int2]
        grind
      grind
    . rename_i x y bP;have ea:args= #[x,y]:=by grind
      subst ea;have hx:=bl hB x;have hy:=bl hB y;split at h
      . rename_i k n k' m zD hyv;split at h
        . rename_i hk;subst hk;simp only [A!] at h;subst h;rw [zD] at hx;rw [hyv] at hy;simp only [aa] at hx hy;refine dj (v:= .int k (max n m)) (w':=w) ?_ (hK _ _ (Rel.ly (hB.quiet hd ⟨rfl,rfl,rfl⟩ (by simp only [aa,true_and];omega))));have e:(if m>n then m else n)=max n m:=by omega
          simp_all[execOp,resolve,invoke,builtin,run_max_int2]
        grind
      grind
    grind
  . rename_i f;have hf:=bl hB f
    have key:∀(kB:FuncId) (first bB:List AV) (base:Nat),ev st f= .fn (.func kB) first bB->mQ E st.h base kB (first++(args.toList.map (ev st))++bB)=some out->
      Oper.wp P {dst,op:= .call {callee:= .value f,args,argTypes},type,pos,after,guard} a w K Q:=by
     intro kB first bB base qo jN
     rw [qo] at hf;simp only [aa] at hf;obtain⟨a1,a2,Nj,r1,r2⟩:=hf;unfold mQ at jN;split at jN
     . rename_i s hs;split at jN
       . rename_i pre res bs hsv;cases hq:(Nat.ble bs.length 100&&jv bs.length res&&iR bs) with
         |false=>grind
         |true=>
          simp only [hq,K!,A!] at jN;subst jN;simp only [B!] at hq;obtain⟨hv,SJ⟩:=hE.sig kB s hs;have bP:=eD _ _ _ _ (eD _ _ _ _ r1 (oK hB args.toList)) r2;obtain⟨p1,p2⟩:=Cu (A':=cq A β (kv st.h (first++(args.toList.map (ev st))++bB)).2) hB (fun b h=> .inl h) _ _ bP (fun k hk b hb=> .inr ⟨k,hk,hb⟩)
          have SD:∀b,cq A β (kv st.h (first++(args.toList.map (ev st))++bB)).2 b->b<w.heap.size:=by
           intro b h;rcases h with h|⟨j,hj,hb⟩
           . exact hB.bound b h
           . obtain⟨e',r',l',f',hr⟩:=p2 j hj;exact lJ hB (by grind) hb
          have wi:=hv w _ β _ _ pre res bs SD (fun i d hi=>(hB.laid i d (by rw [hE.g];omega)).mono (fun b h=>⟨.inl h,rfl⟩)) p1 hsv (eC hc)
          have gT:(execOp a.eval {dst,op:= .call {callee:= .value f,args,argTypes},type,pos,after,guard}).run P w= .ok (.enter kB (a1.toList++args.toList.map a.eval++a2.toList).toArray) w:=by
           have e:(a1++args.map a.eval)++a2=(a1.toList++args.toList.map a.eval++a2.toList).toArray:=by
            grind
           have :=SJ (a1++args.map a.eval++a2) w;grind[execOp,resolve,Deferred.ofValue,Sem.run_bind,Sem.run_pure,Result.andThen_ok,invoke]
          unfold Oper.wp;rw [gT];simp only [Oper.upon_enter];refine wi.mono fun e w' ⟨v,he,A1,me,qp⟩=> ?_;subst he;exact hK _ _ (hB.call hd p2 dN hq.1.2 hq.2 qp)
       grind
     grind
    grind
  grind
 |_=>grind[di]
end
end Go.Vg

end
section
namespace Go.Vg
open Go
def gV(base:Nat):AB->AB
 | .views e (some j) n m sz=> .views e (some (base+j)) n m sz
 |b=>b
def gx(k:Nat):List AB->Bool
 | []=>true
 | .row _ _ _ false ::r=>gx k r
 | .views _ (some j) _ _ _::r=>Nat.blt j k&&gx k r
 |_=>false
def kW(E:Env)(h:bg)(d:Nat)(f:Nat)(args:List AV):Option Out:=match E.sig f with
 |some s=>match s (kv h args).1 with
  |some (pre,res,bs)=>bif Nat.ble bs.length 100&&jv bs.length res&&gx bs.length bs then
   some {cond:= [pre],res:=dM (mA d) res,ib:=cJ h (kv h args).2,new:=fC (mA d) (bs.map (gV (mA d)))} else none
  |none=>none
 |none=>none
def yQ(E:Env)(st:St)(o:Oper):Option Out:=
 let T:=E.T
 let h:=st.h
 let ρ:=ev st
 match o.op with
 | .load t p=>match ρ p,T.find t with
   | .elem k sz i j,some te=>match h k with
     |some (.views _ (some k2) _ m s2)=>bif Nat.beq sz 1&&Nat.beq j 0&&ik te.desc then some {cond:= [i<m],res:= .view k2 1 (i*s2) s2} else none
     |_=>none
   |_,_=>none
 | .store t p v=>match ρ p,ρ v with
   | .elem k sz i j, .view k3 s3 off len=>match h k with
     |some (.views e (some k2) n m s2)=>bif Nat.beq sz 1&&Nat.beq j 0&&(Nat.beq k3 k2&&Nat.beq s3 1)&&abH T t 1 then
       some {cond:= [i=m/\m<n/\off=m*s2/\len=s2],res:= .undef,ib:= [(k, .views e (some k2) n (m+1) s2)]} else none
     |_=>none
   |_,_=>none
 | .slice t x (some lo) (some hi) (some mx)=>match ρ x,ρ lo,ρ hi,ρ mx with
   | .own k, .int _ a, .int _ b, .int _ c=>match h k with
     |some (.row _ row l _)=>bif bE T t row.length then some {cond:= [0<=a/\a<=b/\b<=c/\c<=(l.length:Int)],res:= .view k row.length a.toNat (b.toNat-a.toNat)} else none
     |_=>none
   |_,_,_,_=>none
 | .indexAddr t x i=>match ρ x,ρ i with
   | .own k, .int _ i=>match h k with
     |some (.views _ _ n _ _)=>bif bE T t 1 then some {cond:= [0<=i/\i<(n:Int)],res:= .elem k 1 i.toNat 0} else none
     |_=>none
   |_,_=>none
 | .call c=>match c.callee with
   | .builtin b=>match b,c.args.toList,c.argTypes.toList with
     | .len,[x],[t]=>match ρ x with
       | .own k=>match h k with
         |some (.views _ _ n _ _)=>bif dW T t ik then some {cond:= [],res:= .int .i64 (n:Int)} else none
         |_=>none
       |_=>none
     |_,_,_=>none
   | .value f=>match ρ f,o.dst with
     | .fn (.func f) first bB,some d=>kW E h (st.kb+d) f (first++(c.args.toList.map ρ)++bB)
     | .fn (.func f) first bB,none=>kW E h st.kb f (first++(c.args.toList.map ρ)++bB)
     |_,_=>none
   |_=>none
 |_=>none
def UP(E:Env)(st:St)(o:Oper):Option Out:=match di E st o with
 |some out=>some out
 |none=>yQ E st o
section
variable {P:Program} {C:Ctx} {A A':Nat->Prop} {β aO:Nat->Value} {st:St} {a:Act} {w:World} {E:Env} {T:cA}
theorem nP(hB:aF C A β st a w) {k e:Nat} {j:Option Nat} {n m sz:Nat}(h:st.h k=some (.views e j n m sz)):
  (β k= .slice none 0 0/\n=0)\/∃b cap cur,β k= .slice (some ⟨b,0,none⟩) n cap/\w.heap[b]? =some (.cells cur e (0,0))/\n<=cap/\cap<=maxLen/\cur.size=cap/\¬A b/\
    ∀j',j=some j'->∀i,i<m->∃v,(cur.toList.take n)[i]? =some v/\aa w A β v (.view j' 1 (i*sz) sz):=by
 obtain⟨xs,h1,h2,h3⟩:=hB.blocks k _ h;rcases h1.2 with⟨hv,hn⟩|⟨g,cap,cur,hv,_,hg,h4,h5,h6,h7⟩
 . grind
 . refine .inr ⟨g,cap,cur,hv,hg,h4,h5,by omega,h2 g (by rw [hv];rfl),fun j' hj i hi=> ?_⟩;grind
theorem Nq(hB:aF C A β st a w) {k e:Nat} {j:Option Nat} {n m sz:Nat}(h:st.h k=some (.views e j n m sz)):n<=maxLen:=by
 grind[nP]
theorem Nr(hT:bO T P)(hB:aF C A β st a w) {t:TypeId} {te:TE} {k i e n m s2 k2:Nat} {vp:Value}(hp:aa w A β vp (.elem k 1 i 0))(ht:T.find t=some te)(hs:ik te.desc=true)
  (hk:st.h k=some (.views e (some k2) n m s2)) (hi:i<m):∃v,(Instr.loadAt t vp).run P w= .ok v w/\aa w A β v (.view k2 1 (i*s2) s2):=by
 obtain⟨b,m',cap,cB,rfl⟩:=hp;rcases nP hB hk with⟨hv,_⟩|⟨b',iS,cur,hv,hg,_,_,_,_,hx⟩
 . grind
 . obtain⟨v,e1,e2⟩:=hx k2 rfl i hi;rw [i?] at e1;split at e1
   . have hr:w.rangeAt b i [v]:=by
      intro j u hj;grind[List.getElem?_cons_zero,Option.some.injEq,World.cell?]
     have hpk:pick te [.view k2 1 (i*s2) s2] 0=some (.view k2 1 (i*s2) s2):=by
      unfold pick;have :te.desc.kQ=false :=by cases hd:te.desc<;>rw [hd] at hs<;>first|rfl|cases hs
      grind
     obtain⟨v',g1,g2⟩:=l9 (β:=β) (A:=A) hT ht (cs:= [v]) (by grind[ai]) hpk hr;grind
   grind
theorem J6(hT:bO T P)(hB:aF C A β st a w) {dst:Option Nat}(hd:∀t,dst=some t->t<st.n) {t:TypeId} {k i e n m s2 k2 off len:Nat} {vp vx:Value}(hp:aa w A β vp (.elem k 1 i 0))(hx:aa w A β vx (.view k2 1 off len))
  (hk:st.h k=some (.views e (some k2) n m s2)) (cZ:abH T t 1=true) {cond:List Prop} (hi:i=m) (hm:m<n) (ho:off=m*s2) (hl:len=s2):
  ∃w',(Instr.storeAt t vp vx).run P w= .ok () w'/\Rel C (st.put dst {cond:=cond,res:= .undef,ib:= [(k, .views e (some k2) n (m+1) s2)]}) (a.put dst undef) w':=by
 subst hi;subst ho;subst hl;obtain⟨ii,iJ,py⟩:=qj hT cZ;simp only [aa] at hp;obtain⟨b,m',cap,cB,rfl⟩:=hp;rcases nP hB hk with⟨hv,_⟩|⟨b',iS,cur,hv,hg,hle,vC,dy,iV,abX⟩
 . rw [cB] at hv;cases hv
 . rw [cB] at hv;simp only [Value.slice.injEq,A!,Addr.mk.injEq,and_true] at hv;obtain⟨rfl,rfl,rfl⟩:=hv
   have iI:vx.oneCell'=true :=by
    simp only [aa] at hx;rcases hx with⟨_,a',c',h,_⟩|⟨_,_,_,_,_,h,_⟩<;>rw [h]<;>rfl
   have J5:vx.cells= #[vx]:=cells_one iI;have hb:aA (β k)=some b:=by rw [cB];rfl
   have lI:=mU (P:=P) (w:=w) (t:=t) (v:=vx) iJ (by rw [J5,py];rfl) (by rw [J5];intro v hv;simp at hv;subst hv;exact iI) hg (off:=i) (by rw [J5];simp;omega);obtain⟨new,dN⟩:∃new:Array Value,new=(cur.toList.take i++ [vx]++cur.toList.drop (i+1)).toArray:=⟨_,rfl⟩
   have aG0:(Instr.storeAt t (.pointer (some ⟨b,i,none⟩)) vx).run P w= .ok () (w.setRow b new):=by
    grind
   have hlen:new.size=cur.size:=by grind
   refine⟨w.setRow b new,by grind,?_⟩;refine hB.write hd (k:=k) (fz:= []) (ab:= .views e (some k2) m' (i+1) len) (by grind) hb iV hg ⟨rfl,rfl,rfl⟩ (fun q hq=>by grind) ?_ (by rfl);intro A2 h1 h2 _;refine⟨new.toList.take m',⟨?_, .inr ⟨b,cap,new,cB,Nat.zero_le _,setRow_heap w b cur _ e _ hg,hle,vC,?_,by grind⟩⟩,fun b' bS Fp=> ?_,fun j' hj i' gU=> ?_⟩
   . grind
   . omega
   . grind
   . simp only [A!] at hj;subst hj;by_cases aG1:i'=i
     . subst aG1;refine⟨vx,?_,vK rfl hx⟩;grind
     . obtain⟨v,e1,e2⟩:=abX k2 rfl i' (by omega);refine⟨v,?_,vK rfl e2⟩;grind
theorem J7(hT:bO T P)(hB:aF C A β st a w) {t:TypeId} {k e:Nat} {row:List Ty} {l:List (Row row)} {fr:Bool} {x y m:Int} {kx ky km:IntKind} {vx:Value}(hx:aa w A β vx (.own k))(hk:st.h k=some (.row e row l fr))
  (hs:bE T t row.length=true) (h0:0<=x) (h1:x<=y) (h2:y<=m) (h3:m<=(l.length:Int)):
  ∃v,(Instr.sliceAt t vx (some (.int kx x)) (some (.int ky y)) (some (.int km m))).run P w= .ok v w/\aa w A β v (.view k row.length x.toNat (y.toNat-x.toNat)):=by
 obtain⟨e',ii,hu,iJ,cZ,iT⟩:=e8 hT hs;obtain⟨rfl,_⟩:=hx
 have hb:∀len cap:Nat,len<=cap->m<=(len:Int)->(Instr.sliceBounds true len cap (some (.int kx x)) (some (.int ky y)) (some (.int km m))).run P w= .ok (x.toNat,y.toNat,m.toNat) w:=by
  intro len cap hlc AQ
  simp [Instr.sliceBounds,run_sliceBound (P:=P) (w:=w) (k:=km) (n:=m) (y:=cap) (by omega) (by omega),run_sliceBound (P:=P) (w:=w) (k:=ky) (n:=y) (y:=m.toNat) (by omega) (by omega),
   run_sliceBound (P:=P) (w:=w) (k:=kx) (n:=x) (y:=y.toNat) (by omega) (by omega)]
 have gT:∀(ad:Option Addr) (len cap:Nat),len<=cap->m<=(len:Int)->(Instr.sliceAt t (.slice ad len cap) (some (.int kx x)) (some (.int ky y)) (some (.int km m))).run P w=
   .ok (.slice (if m.toNat=x.toNat then ad else ad.map (·.add (x.toNat*ii.size))) (y.toNat-x.toNat) (m.toNat-x.toNat)) w:=by
  simp_all[Instr.sliceAt,Instr.slice,run_underlying,sizeOf,typeInfo]
 rcases e9 hB hk with⟨g1,g2⟩|⟨b,cap,cur,g1,_,g3,g4,_⟩
 . grind[aa,maxLen]
 . refine⟨_,by rw [g1];exact gT _ l.length cap g3 h3,?_⟩;simp only [aa];by_cases hz:m.toNat=x.toNat
   . refine .inl ⟨by omega,_,_,by rw [show y.toNat-x.toNat=0 by omega],by omega⟩
   . grind[Addr.add_mid]
theorem pG {k:Nat}:∀(bs:List AB) (i:Nat) (ab:AB),gx k bs=true->bs[i]? =some ab->(∃e row l,ab= .row e row l false)\/∃e j n m sz,ab= .views e (some j) n m sz/\j<k
 | .row e row l false ::bs,0,ab,_,h=>by grind
 | .views e (some j) n m sz::bs,0,ab,ho,h=>by
   simp only [gx,B!] at ho;simp at h;exact .inr ⟨e,j,n,m,sz,h.symm,M! ho.1⟩
 | .row e row l false ::bs,i+1,ab,ho,h=>pG bs i ab (by grind[gx]) (by grind)
 | .views e (some j) n m sz::bs,i+1,ab,ho,h=>pG bs i ab (by simp_all[gx,Bool.and_eq_true]) (by grind)
 | .row e row l true ::bs,_,_,h,_=>by grind[gx]
 | .views e none n m sz::bs,_,_,h,_=>by grind[gx]
 | .cells _::bs,_,_,h,_=>by grind[gx]
 | .arr _ _::bs,_,_,h,_=>by grind[gx]
 | .gS _ _ _ _ _::bs,_,_,h,_=>by grind[gx]
 | [],_,_,_,h=>by grind
theorem aF.azj(hB:aF C A β st a w) {dst:Option Nat}(hd:∀t,dst=some t->t<st.n) {base:Nat} {res:AV} {bs:List AB} {fz:List Nat} {cond:List Prop} {v:Value} {w':World} {A1:Nat->Prop} {me:Nat->Value}
  (zB:∀j∈fz,∃e row l fr,st.h j=some (.row e row l fr)) (dN:jy st.h (fC base (bs.map (gV base)))=true) (hro:jv bs.length res=true) (hor:gx bs.length bs=true)
  (hp:jS w (cq A β fz) w' v res bs A1 me):
  Rel C (st.put dst {cond:=cond,res:=dM base res,ib:=cJ st.h fz,new:=fC base (bs.map (gV base))}) (a.put dst v) w':=by
 let aO:Nat->Value:=fun k=>if base<=k/\k<base+bs.length then me (k-base) else β k
 have FE:∀i,i<bs.length->aO (base+i)=me i:=by
  grind
 have rH:∀k,aw (fC base (bs.map (gV base))) k=(if base<=k then(bs[k-base]?).map (gV base) else none):=fun k=>by
  have :=rG base (bs.map (gV base)) 0 k;grind
 have cB:∀k,aw (fC base (bs.map (gV base))) k=none->aO k=β k:=by
  grind
 have nD:∀k ab,aw (fC base (bs.map (gV base))) k=some ab->base<=k/\(∃FH,bs[k-base]? =some FH/\ab=gV base FH)/\k-base<bs.length:=by
  grind
 have yP:∀k ab,aw (fC base (bs.map (gV base))) k=some ab->aO k=me (k-base):=by
  grind
 have hK:dg w w' A A1:=fun b hb=>⟨hp.mono b (.inl hb),hp.same b (hB.bound b hb)⟩;refine⟨A1,aO,?_⟩;refine hB.step (out:= {cond:=cond,res:=dM base res,ib:=cJ st.h fz,new:=fC base (bs.map (gV base))}) hd (fun k b h=>jq _ k b dN h) ?_ cB hK hp.os hp.tape hp.output hp.size (fun b hb _=>hp.same b hb) hp.bound ?_ ?_ ?_ ?_ ?_ ?_
 . intro k b h;obtain⟨_,e,row,l,fr,h,_⟩:=iG fz k b h;grind
 . intro b hb;rcases Nat.lt_or_ge b w.heap.size with fP|Ek
   . rcases hp.lx b fP hb with h|⟨j,hj,SC⟩
     . grind
     . have hr:=zB j hj;exact .inr (.inr ⟨j,⟨by grind, .inl (ov fz j hj hr)⟩,SC⟩)
   omega
 . intro k ab h _;obtain⟨hk,e,row,l,fr,hr,rfl⟩:=iG fz k ab h;rw [abK]
   have hkn:aw (fC base (bs.map (gV base))) k=none:=by
    cases hh:aw (fC base (bs.map (gV base))) k with
    |none=>rfl
    |some y=>have :=(jq _ k y dN hh).1;rw [hr] at this;cases this
   obtain⟨xs,h1,h2,h3⟩:=hB.blocks k _ hr;simp only [BR,cB k hkn];refine⟨xs,gJ h1 (fun b hb=>hp.same b (lJ hB (by simp [hr]) hb)),bX (fun c x hx=>bY hK row c x hx) l xs h2,fun b hb=> ?_⟩;simp only [H?];exact hp.mono b (.inr ⟨k,hk,hb⟩)
 . intro k ab h;obtain⟨h1,⟨FH,h2,rfl⟩,h3⟩:=nD k ab h;have gw:=(hp.rows _ _ h2).1;rcases pG bs _ FH hor h2 with⟨e,row,l,rfl⟩|⟨e,j,n,m,sz,rfl,hj⟩
   . obtain⟨xs,g1,g2,g3⟩:=gw;simp only [gV,BR,yP k _ h];exact⟨xs,g1,g2,g3⟩
   . obtain⟨xs,g1,g2,g3⟩:=gw;simp only [gV,BR,yP k _ h];refine⟨xs,g1,g2,fun j' eY i hi=> ?_⟩;simp only [A!] at eY;subst eY;obtain⟨u,e1,e2⟩:=g3 j rfl i hi;refine⟨u,e1,?_⟩;simp only [aa] at e2 |-;rw [FE j hj];exact e2
 . intro k b ab h hb;obtain⟨h1,⟨FH,h2,rfl⟩,h3⟩:=nD k ab h;rw [yP k _ h] at hb;exact .inl ((hp.rows _ _ h2).2 b hb)
 . intro k k' b h h' hb bS;obtain⟨x,hx⟩:=O!.1 h;obtain⟨y,hy⟩:=O!.1 h';obtain⟨h1,h2,h3⟩:=nD k x hx;obtain⟨g1,g2,g3⟩:=nD k' y hy;rw [yP k _ hx] at hb;rw [yP k' _ hy] at bS;have :=hp.apart _ _ b h3 g3 hb bS;omega
 . exact ua (aO:=aO) base bs.length FE res v hro hp.res
theorem PO(hE:gi P C E)(hB:aF C A β st a w) {o:Oper} {out:Out}(h:UP E st o=some out)(j8:iX st o=true)(dN:jy st.h out.new=true)(hc:∀p∈out.cond,p)
  {K:Act->World->Prop} {Q:Exit->Act->World->Prop} (hK:∀a' w',Rel C (st.put o.dst out) a' w'->K a' w'):o.wp P a w K Q:=by
 unfold UP at h;split at h
 . grind[Option.some.injEq,PN]
 rename_i mf;clear mf
 have hd:∀t,o.dst=some t->t<st.n:=by
  intro t ht;simp_all[iX,M!]
 obtain⟨dst,op,type,pos,after,guard⟩:=o;simp only at hd hK;unfold yQ at h;simp only at h;split at h
 . rename_i t p;split at h
   . rename_i k sz i j te hp ht;split at h
     . rename_i e k2 n m s2 hk;cases hq:(Nat.beq sz 1&&Nat.beq j 0&&ik te.desc) with
       |false=>grind
       |true=>
        rw [hq] at h;simp at h;subst h;simp only [B!] at hq;obtain⟨⟨q1,q2⟩,q3⟩:=hq;have q1:=E! q1;have q2:=E! q2;subst q1;subst q2;have Cy:=bl hB p;rw [hp] at Cy;obtain⟨v,g1,g2⟩:=Nr hE.fE hB Cy ht q3 hk (eC hc);exact dj (v:=v) (by simp [execOp,g1]) (hK _ _ (Rel.ly (hB.quiet hd ⟨rfl,rfl,rfl⟩ g2)))
     grind
   grind
 . rename_i t p v;split at h
   . rename_i k sz i j k3 s3 off len hp hv;split at h
     . rename_i e k2 n m s2 hk;cases hq:(Nat.beq sz 1&&Nat.beq j 0&&(Nat.beq k3 k2&&Nat.beq s3 1)&&abH E.T t 1) with
       |false=>grind
       |true=>
        rw [hq] at h;simp at h;subst h;simp only [B!] at hq;obtain⟨⟨⟨q1,q2⟩,q3,q4⟩,q5⟩:=hq;have q1:=E! q1;have q2:=E! q2;have q3:=E! q3;have q4:=E! q4;subst q1;subst q2;subst q3;subst q4;have Cy:=bl hB p;rw [hp] at Cy;have hvr:=bl hB v;rw [hv] at hvr;obtain⟨c1,c2,c3,c4⟩:=eC hc;obtain⟨w',g1,g2⟩:=J6 hE.fE hB hd Cy hvr hk q5 c1 c2 c3 c4;exact sM (w':=w') (by simp [execOp,g1]) (hK _ _ g2)
     grind
   grind
 . rename_i t x l hi mx;split at h
   . rename_i k kx x0 ky y0 km m0 hx hl hh hm;split at h
     . rename_i e row ll fr hk;cases hs:bE E.T t row.length with
       |false=>rw [hs] at h;cases h
       |true=>
        rw [hs] at h;simp at h;subst h;obtain⟨c1,c2,c3,c4⟩:=eC hc;have yx:=bl hB x;rw [hx] at yx;have hlr:=bl hB l;rw [hl] at hlr;have hhr:=bl hB hi;rw [hh] at hhr;have hmr:=bl hB mx;rw [hm] at hmr;obtain⟨v,g1,g2⟩:=J7 (kx:=kx) (ky:=ky) (km:=km) hE.fE hB yx hk hs c1 c2 c3 c4;exact dj (v:=v) (by simp [execOp,hlr.1,hhr.1,hmr.1,g1]) (hK _ _ (Rel.ly (hB.quiet hd ⟨rfl,rfl,rfl⟩ g2)))
     . cases h
   . cases h
 . rename_i t x i;split at h
   . rename_i k ki i0 hx hi;split at h
     . rename_i e j n m sz hk;cases hs:bE E.T t 1 with
       |false=>rw [hs] at h;cases h
       |true=>
        rw [hs] at h;simp at h;subst h;obtain⟨c1,c2⟩:=eC hc;obtain⟨e',ii,hu,iJ,cZ,iT⟩:=e8 hE.fE hs;have yx:=bl hB x;rw [hx] at yx;have hir:=bl hB i;rw [hi] at hir;rcases nP hB hk with⟨_,hn⟩|⟨b,cap,cur,hv,_⟩
        . omega
        . refine dj (v:= .pointer (some ⟨b,0+i0.toNat*1,none⟩)) (w':=w) ?_ (hK _ _ (Rel.ly (hB.quiet hd ⟨rfl,rfl,rfl⟩ ?_)))
          . have :=jz (P:=P) (w:=w) hu iJ b 0 n cap ki i0 c1 c2;simp only [execOp,yx.1,hv,hir.1,Sem.run_bind,this,cZ,Result.andThen_ok,Sem.run_pure]
          . simp only [aa];exact⟨b,_,cap,hv,by simp⟩
     . cases h
   . cases h
 . rename_i c;obtain⟨callee,args,argTypes⟩:=c;simp only at h;split at h
   . rename_i b;split at h
     . rename_i x t bP zC;split at h
       . rename_i k hx;split at h
         . rename_i e j n m sz hk;cases hq:dW E.T t ik with
           |false=>rw [hq] at h;cases h
           |true=>
            rw [hq] at h;simp at h;subst h;have ea:args= #[x]:=by apply Array.ext';simpa using bP
            have et:argTypes= #[t]:=by apply Array.ext';simpa using zC
            subst ea;subst et;obtain⟨dd,hu,sr⟩:=qh hE.fE hq;obtain⟨e',rfl⟩:∃e',dd= .slice e':=by cases dd<;>simp_all [ik]
            have yx:=bl hB x;rw [hx] at yx
            have FI:∃ad cap,a.eval x= .slice ad n cap:=by
             rcases nP hB hk with⟨h1,h2⟩|⟨b,cap,cur,hv,_⟩
             . exact⟨none,0,by rw [yx.1,h1,h2]⟩
             . exact⟨_,cap,by rw [yx.1,hv]⟩
            obtain⟨ad,cap,FI⟩:=FI;refine dj (v:= .int .i64 (n:Int)) (w':=w) ?_ (hK _ _ (Rel.ly (hB.quiet hd ⟨rfl,rfl,rfl⟩ (v8 n (Nq hB hk)))));simp [execOp,resolve,invoke,builtin,FI,Builtin.len_,run_underlying hu,goInt]
         . cases h
       . cases h
     . cases h
   . rename_i f;have hf:=bl hB f
     have key:∀(kB:FuncId) (first bB:List AV) (base:Nat),ev st f= .fn (.func kB) first bB->kW E st.h base kB (first++(args.toList.map (ev st))++bB)=some out->
       Oper.wp P {dst,op:= .call {callee:= .value f,args,argTypes},type,pos,after,guard} a w K Q:=by
      intro kB first bB base qo jN
      rw [qo] at hf;simp only [aa] at hf;obtain⟨a1,a2,Nj,r1,r2⟩:=hf;unfold kW at jN;split at jN
      . rename_i s hs;split at jN
        . rename_i pre res bs hsv;cases hq:(Nat.ble bs.length 100&&jv bs.length res&&gx bs.length bs) with
          |false=>simp [hq] at jN
          |true=>
           simp only [hq,K!,A!] at jN;subst jN;simp only [B!] at hq;obtain⟨hv,SJ⟩:=hE.sig kB s hs;have bP:=eD _ _ _ _ (eD _ _ _ _ r1 (oK hB args.toList)) r2;obtain⟨p1,p2⟩:=Cu (A':=cq A β (kv st.h (first++(args.toList.map (ev st))++bB)).2) hB (fun b h=> .inl h) _ _ bP (fun k hk b hb=> .inr ⟨k,hk,hb⟩)
           have SD:∀b,cq A β (kv st.h (first++(args.toList.map (ev st))++bB)).2 b->b<w.heap.size:=by
            intro b h;rcases h with h|⟨j,hj,hb⟩
            . exact hB.bound b h
            . obtain⟨e',r',l',f',hr⟩:=p2 j hj;exact lJ hB (by simp [hr]) hb
           have wi:=hv w _ β _ _ pre res bs SD (fun i d hi=>(hB.laid i d (by rw [hE.g];exact hi)).mono (fun b h=>⟨.inl h,rfl⟩)) p1 hsv (eC hc)
           have gT:(execOp a.eval {dst,op:= .call {callee:= .value f,args,argTypes},type,pos,after,guard}).run P w= .ok (.enter kB (a1.toList++args.toList.map a.eval++a2.toList).toArray) w:=by
            have e:(a1++args.map a.eval)++a2=(a1.toList++args.toList.map a.eval++a2.toList).toArray:=by
             apply Array.ext';simp
            have :=SJ (a1++args.map a.eval++a2) w;rw [e] at this;simp only [execOp,resolve,Nj,Deferred.ofValue,Sem.run_bind,Sem.run_pure,Result.andThen_ok,invoke,e,this]
           unfold Oper.wp;rw [gT];refine wi.mono fun e w' ⟨v,he,A1,me,qp⟩=> ?_;subst he;exact hK _ _ (hB.azj hd p2 dN hq.1.2 hq.2 qp)
        . cases jN
      . cases jN
     split at h
     . rename_i kB first bB d qo
       exact key kB first bB _ qo h
     . rename_i kB first bB qo
       exact key kB first bB _ qo h
     . cases h
   . cases h
 grind
end
end Go.Vg

end
section
namespace Go.Vg
open Go
def FJ(E:Env)(st:St)(o:Oper):Option Out:=
 let T:=E.T
 let h:=st.h
 let ρ:=ev st
 match o.op with
 | .alloc t=>match T.find t,o.dst with
   |some te,some d=>match te.desc with
    | .array n e=>match rowOf T ry e with
      |some [u]=>match tL [u] n (ofConst te.zero).cells with
       |some l=>some {cond:= [],res:= .ref (st.kb+d) 0,new:= [(st.kb+d, .arr [u] l)]}
       |none=>none
      |_=>none
    |_=>none
   |_,_=>none
 | .load t p=>match ρ p,T.find t with
   | .ref k off,some te=>match h k with
     |some (.arr [u] l)=>match pick te [Av u (Row.hd (l.getD off (Row.zero [u])))] 0 with
      |some a=>some {cond:= [off<l.length],res:=a}
      |none=>none
     |_=>none
   |_,_=>none
 | .store t p v=>match ρ p with
   | .ref k off=>match h k with
     |some (.arr [u] l)=>match Pt u (ρ v) with
      |some x=>bif abH T t 1 then some {cond:= [off<l.length],res:= .undef,ib:= [(k, .arr [u] (l.set off (Row.mk x ())))]} else none
      |none=>none
     |_=>none
   |_=>none
 |_=>none
def UQ(E:Env)(st:St)(o:Oper):Option Out:=match UP E st o with
 |some out=>some out
 |none=>FJ E st o
section
variable {P:Program} {C:Ctx} {A A':Nat->Prop} {β aO:Nat->Value} {st:St} {a:Act} {w:World} {E:Env} {T:cA}
theorem aF.anB(hB:aF C A β st a w) {dst:Option Nat}(hd:∀t,dst=some t->t<st.n) {d e:Nat} {row:List Ty} {l:List (Row row)} {arr:Array Value} {cond:List Prop}
  (gB:st.h d=none/\pB d=false) (hrel:E2 (bC w A row) arr.toList l):
  aF C A (b5 β d (.pointer (some ⟨w.heap.size,0,none⟩))) (st.put dst {cond:=cond,res:= .ref d 0,new:= [(d, .arr row l)]}) (a.put dst (.pointer (some ⟨w.heap.size,0,none⟩))) (w.alloc (.cells arr e)):=by
 have hK:dg w (w.alloc (.cells arr e)) A A:=fun b hb=>⟨hb,nO _ b (hB.bound b hb)⟩
 have cB:∀k,aw [(d,AB.arr row l)] k=none->b5 β d (.pointer (some ⟨w.heap.size,0,none⟩)) k=β k:=by
  intro k h;have :k≠d:=by rintro rfl;simp [aw] at h
  simp [b5,this]
 refine hB.step (out:= {cond:=cond,res:= .ref d 0,new:= [(d, .arr row l)]}) hd ?_ (by simp [aw]) cB hK rfl rfl rfl (by simp) (fun b hb _=>nO _ b hb) (fun b hb=>by have :=hB.bound b hb;simp;omega) (fun b hb=> .inl hb) (by simp [aw]) ?_ ?_ ?_ ?_
 . intro k b h;obtain⟨rfl,_⟩:=dZ h;exact gB
 . intro k ab h;obtain⟨rfl,rfl⟩:=dZ h;exact⟨w.heap.size,arr,e,by simp [b5],heap_alloc_new w _,fun h=>absurd (hB.bound _ h) (by omega),bX (fun c x hx=>bY hK row c x hx) l _ hrel⟩
 . intro k b ab h hb;obtain⟨rfl,_⟩:=dZ h;simp only [b5,H?,aA,A!] at hb;exact .inl (by omega)
 . intro k k' b h h' _ _;obtain⟨x,hx⟩:=O!.1 h;obtain⟨y,hy⟩:=O!.1 h';rw [(dZ hx).1,(dZ hy).1]
 . simp only [aa];exact⟨w.heap.size,by simp [b5],rfl⟩
theorem KF {u:Ty} {l:List (Row [u])} {cs:List Value} {off:Nat}(FK:off<l.length)(h:E2 (bC w A [u]) cs l):
  ∃v,cs[off]? =some v/\Rd w A u v (Row.hd (l.getD off (Row.zero [u])))/\∀v' x,Rd w A u v' x->E2 (bC w A [u]) (cs.take off++ [v']++cs.drop (off+1)) (l.set off (Row.mk x ())):=by
 obtain⟨c1,c,c2,e1,e2,e3,e4,e5⟩:=qf l cs off FK h;simp only [bC] at e3;obtain⟨v,vs,rfl,g1,rfl⟩:=e3;have hl:c1.length=off:=by simpa using e2
 subst e1;refine⟨v,?_,by rw [getD_eq l _ _ FK];exact g1,fun v' x hx=> ?_⟩
 . rw [List.getElem?_append_right (by omega),hl,Nat.sub_self];rfl
 . have t1:(c1++([v]++c2)).take off=c1:=by rw [<-hl,List.take_left]
   have t2:(c1++([v]++c2)).drop (off+1)=c2:=by
    rw [<-hl,List.drop_length_add_append];rfl
   rw [t1,t2,z?,W! FK,U!];refine iq _ _ _ _ e4 ⟨[v'],c2,rfl,?_,e5⟩;simp only [bC];exact⟨v',[],rfl,by rw [qk];exact hx,rfl⟩
theorem PQ(hE:gi P C E)(hB:aF C A β st a w) {o:Oper} {out:Out}(h:UQ E st o=some out)(j8:iX st o=true)(dN:jy st.h out.new=true)(hc:∀p∈out.cond,p)
  {K:Act->World->Prop} {Q:Exit->Act->World->Prop} (hK:∀a' w',Rel C (st.put o.dst out) a' w'->K a' w'):o.wp P a w K Q:=by
 unfold UQ at h;split at h
 . rename_i adN h0;simp only [A!] at h;subst h;exact PO hE hB h0 j8 dN hc hK
 rename_i mf;clear mf
 have hd:∀t,o.dst=some t->t<st.n:=by
  intro t ht;unfold iX at j8;rw [ht] at j8;exact Nat.le_of_ble_eq_true j8
 obtain⟨dst,op,type,pos,after,guard⟩:=o;simp only at hd hK;unfold FJ at h;simp only at h;split at h
 . rename_i t;split at h
   . rename_i te d ht;split at h
     . rename_i n e sq;split at h
       . rename_i u j7;split at h
         . rename_i l hl;simp only [A!] at h;subst h;obtain⟨hu,i,hi,hs,hb,hz⟩:=hE.fE.ok t te ht;obtain⟨g1,g2⟩:=vZ [u] n _ _ l (kU (w:=w) (A:=A) (β:=β) te.zero) hl;refine dj (v:= .pointer (some ⟨w.heap.size,0,none⟩)) (w':=w.alloc (.cells te.zero.cells t)) ?_ (hK _ _ (Rel.ly (hB.anB hd (FG dN) g1)));simp [execOp,Instr.alloc,zeroValue,typeInfo,hi,hz,newVar,newRow]
         . cases h
       . cases h
     . cases h
   . cases h
 . rename_i t p;split at h
   . rename_i k off te hp ht;split at h
     . rename_i u l hk;split at h
       . rename_i r hpk;simp only [A!] at h;subst h;have FK:off<l.length:=eC hc;have Cy:=bl hB p;rw [hp] at Cy;simp only [aa] at Cy;obtain⟨b,cB,hpe⟩:=Cy;obtain⟨b',arr,e,h1,h2,h3,h4⟩:=hB.blocks k _ hk;rw [cB] at h1;simp only [Value.pointer.injEq,A!,Addr.mk.injEq,and_true] at h1;subst h1;obtain⟨v,c1,c2,_⟩:=KF FK h4
         have hr:w.rangeAt b off [v]:=by
          intro j u' hj;cases j with
          |zero=>
           simp only [d?,A!] at hj;subst hj;simp [World.cell?,h2];simpa using c1
          |succ j=>simp at hj
         have Ns:ai w A β [v] [Av u (Row.hd (l.getD off (Row.zero [u])))]:=by
          simp only [ai];exact⟨v,[],rfl,Pv u v _ c2,rfl⟩
         obtain⟨v',k1,k2⟩:=l9 (β:=β) hE.fE ht Ns hpk hr;refine dj (v:=v') (w':=w) ?_ (hK _ _ (Rel.ly (hB.quiet hd ⟨rfl,rfl,rfl⟩ k2)));rw [Nat.add_zero] at k1;simp [execOp,hpe,k1]
       . cases h
     . cases h
   . cases h
 . rename_i t p x;split at h
   . rename_i k off hp;split at h
     . rename_i u l hk;split at h
       . rename_i d hdx;cases hs1:abH E.T t 1 with
         |false=>rw [hs1] at h;cases h
         |true=>
         rw [hs1] at h;simp only [K!,A!] at h;subst h;have FK:off<l.length:=eC hc;obtain⟨ii,iJ,py⟩:=qj hE.fE hs1;have Cy:=bl hB p;rw [hp] at Cy;simp only [aa] at Cy;obtain⟨b,cB,hpe⟩:=Cy;have yx:=Fq u _ _ d (bl hB x) hdx;obtain⟨b',arr,e,h1,h2,h3,h4⟩:=hB.blocks k _ hk;rw [cB] at h1;simp only [Value.pointer.injEq,A!,Addr.mk.injEq,and_true] at h1;subst h1;have hb:aA (β k)=some b:=by rw [cB];rfl
         have iI:(a.eval x).oneCell'=true :=agh [u] [a.eval x] (Row.mk d ()) (by simp only [bC];exact⟨_,[],rfl,by rw [qk];exact yx,rfl⟩) _ (by simp);have hcx:=cells_one iI;have hlen:=fp l _ h4;have cZ:arr.size=l.length:=by simpa using hlen
         have gT:=mU (w:=w) (P:=P) iJ (v:=a.eval x) (by rw [hcx,py];rfl) (by rw [hcx];simpa using iI) h2 (off:=off) (by rw [hcx];simp;omega);rw [hcx] at gT;obtain⟨v,c1,c2,c3⟩:=KF FK h4;refine sM (w':=w.setRow b (arr.toList.take off++ [a.eval x]++arr.toList.drop (off+1)).toArray) ?_ (hK _ _ ?_)
         . have azo:(Instr.storeAt t (.pointer (some ⟨b,off,none⟩)) (a.eval x)).run P w= .ok () (w.setRow b (arr.toList.take off++ [a.eval x]++arr.toList.drop (off+1)).toArray):=gT;simp only [execOp,hpe,Sem.run_bind,azo,Result.andThen_ok,Sem.run_pure]
         . refine hB.write hd (k:=k) (fz:= []) (ab:= .arr [u] (l.set off (Row.mk d ()))) (by simp [hk]) hb h3 h2 ⟨rfl,rfl,rfl⟩ (by simp) ?_ (by simp [aa]);intro A' hA1 Fp hA3;have SK:dg w (w.setRow b (arr.toList.take off++ [a.eval x]++arr.toList.drop (off+1)).toArray) A A':=fun b' h=>⟨hA1 b' h,setRow_other w b b' _ (fun h'=>h3 (h'▸h))⟩;refine⟨b,_,e,cB,setRow_heap w b arr _ e _ h2,fun h=> ?_,?_⟩
           . rcases Fp b h with h|⟨j,hj,_⟩
             . exact h3 h
             . simp at hj
           . exact bX (fun c x hx=>bY SK _ c x hx) _ _ (c3 _ d yx)
       . cases h
     . cases h
   . cases h
 . cases h
end
end Go.Vg

end
