import Derived.Deep.MidRow
import Derived.Laws.AppendOwn
import Derived.Laws.OwnMore
import Derived.KernelRfl
import Derived.Laws.Sem
import Derived.Laws.BytesString
import Derived.Laws.StructEq
import Derived.Laws.Strings
import Derived.Laws.Small
import Derived.MapKept
import Derived.Laws.MakeOwn
set_option linter.unusedVariables false
set_option linter.unusedSimpArgs false
set_option linter.unusedSectionVars false
set_option linter.defProp false
set_option linter.defProp false
abbrev B8:=List UInt8
abbrev M(α:Type):=List α
abbrev O:=List B8
abbrev U:=List Int
def v! {p:Prop}(h:p:=by with_reducible assumption):p:=h
theorem w! {p:Prop}(h:p:=by omega):p:=h
theorem x! {p:Prop}(h:p:=by grind):p:=h
def y! {p:Prop}(h:p:=by kernel_rfl):p:=h
theorem z! {p:Prop}(h:p:=by simp):p:=h
def A!:=@Option.some.injEq
def B!:=@Bool.and_eq_true
def C!:=@Nat.eq_of_beq_eq_true
def D!:=@List.getElem?_eq_getElem
def E!:=@List.mem_cons_of_mem
def F!:=@List.mem_append
def G!:=@List.getD_eq_getElem?_getD
def H!:=@decide_eq_true_eq
def I!:=@List.mem_cons_self
def J!:=@if_neg
def K!:=@List.length_append
def L!:=@cond_true
def M!:=@if_pos
def N!:=@Nat.le_of_ble_eq_true
def O!:=@cond_false
def P!:=@List.mem_cons
def Q!:=@Array.getElem?_eq_some_iff
def R!:=@Option.isSome_iff_exists
def S!:=@Nat.le_refl
def T!:=@List.mem_append_left
def U!:=@Nat.zero_le
def V!:=@List.eq_nil_of_length_eq_zero
def W!:=@List.append_assoc
def X!:=@Int.toNat_natCast
def Y!:=@List.mem_append_right
def Z!:=@List.all_eq_true
def A?:=@Array.getD_eq_getD_getElem?
def B?:=@List.getElem?_map
def C?:=@List.length_singleton
def D?:=@List.getElem?_eq_some_iff
def E?:=@List.mem_of_getElem?
def F?:=@Nat.mul_le_mul_right
def G?:=@List.map_cons
def H?:=@List.append_nil
def I?:=@Nat.lt_of_lt_of_le
def J?:=@List.length_take
def K?:=@decide_eq_true
def L?:=@Bool.false_eq_true
def M?:=@Bool.not_eq_true'
def N?:=@List.length_drop
def O?:=@List.length_cons
def P?:=@Classical.byContradiction
def Q?:=@if_true
def R?:=@List.map_congr_left
def S?:=@List.mem_map_of_mem
def T?:=@List.mem_map
def U?:=@Array.getElem?_toList
def V?:=@List.take_append_drop
def W?:=@Option.some.inj
def X?:=@Nat.le_trans
def Y?:=@decide_eq_false
def Z?:=@Bool.or_eq_true
def a?:=@List.pairwise_cons
def b?:=@List.drop_drop
def c?:=@List.getElem?_cons_zero
def d?:=@List.length_eq_zero_iff
def e?:=@List.cons_append
def f?:=@List.mem_range
def g?:=@Bool.or_eq_false_iff
def h?:=@List.set_eq_take_append_cons_drop
def i?:=@List.cons.injEq
def j?:=@List.getElem_of_mem
def k?:=@List.nil_append
def l?:=@List.map_append
def m?:=@List.length_set
def n?:=@if_false
def o?:=@List.getElem?_take
def p?:=@Int.eq_ofNat_of_zero_le
def q?:=@decide_eq_false_iff_not
def r?:=@Nat.zero_add
def s?:=@List.drop_eq_nil_of_le
def t?:=@List.take_of_length_le
def u?:=@Nat.add_mul
def v?:=@List.mem_singleton
def w?:=@Nat.add_sub_cancel_left
def x?:=@Bool.or_true
def y?:=@Nat.pow_succ
def z?:=@and_true
namespace Go.Vg
open Go
inductive Ty where
 |int (k:IntKind)
 |bool
 |str
 |slice (row:List Ty)
mutual
def Ty.beq:Ty->Ty->Bool
 |.int k,.int k'=>decide (k=k')
 |.bool,.bool|.str,.str=>true
 |.slice r,.slice r'=>Ty.Am r r'
 |_,_=>false
def Ty.Am:M Ty->M Ty->Bool
 |[],[]=>true
 |t::ts,u::us=>Ty.beq t u&&Ty.Am ts us
 |_,_=>false
end
@[reducible] def DI:IntKind->Type
  |.u8=>UInt8
  |.i8=>Int|.i16=>Int|.i32=>Int|.i64=>Int|.u16=>Int|.u32=>Int|.u64=>Int
@[reducible] def aFA (ts:M Ty) (a b:Type):Type:=match ts with
  |[]=>a
  |_::_=>a×b
mutual
@[reducible] def D:Ty->Type
  |.int k=>DI k
  |.bool=>Bool
  |.str=>B8
  |.slice row=>M (Row row)
@[reducible] def Row:M Ty->Type
  |[]=>Unit
  |t::ts=>aFA ts (D t) (Row ts)
end
def DI.toInt:(k:IntKind)->DI k->Int
 |.u8,x=>(UInt8.toNat x:Int)
 |.i8,n=>n|.i16,n=>n|.i32,n=>n|.i64,n=>n|.u16,n=>n|.u32,n=>n|.u64,n=>n
def DI.ofInt:(k:IntKind)->Int->DI k
 |.u8,n=>UInt8.ofNat n.toNat
 |.i8,n=>n|.i16,n=>n|.i32,n=>n|.i64,n=>n|.u16,n=>n|.u32,n=>n|.u64,n=>n
variable {t:Ty}
def Row.hd: {ts:M Ty}->Row (t::ts)->D t
 |[],x=>x
 |_::_,x=>x.1
def Row.tl: {ts:M Ty}->Row (t::ts)->Row ts
 |[],_=>()
 |_::_,x=>x.2
def Row.mk: {ts:M Ty}->D t->Row ts->Row (t::ts)
 |[],x,_=>x
 |_::_,x,y=>(x,y)
def DI.zero:(k:IntKind)->DI k
 |.u8=>(0:UInt8)
 |.i8=>(0:Int)|.i16=>(0:Int)|.i32=>(0:Int)|.i64=>(0:Int)|.u16=>(0:Int)|.u32=>(0:Int)|.u64=>(0:Int)
def D.zero:(t:Ty)->D t
 |.int k=>DI.zero k
 |.bool=>false
 |.str=>[]
 |.slice _=>[]
def Row.zero:(ts:M Ty)->Row ts
 |[]=>()
 |t::ts=>Row.mk (D.zero t) (Row.zero ts)
def lo:IntKind->Int
 |.i8=> -128|.i16=> -32768|.i32=> -2147483648|.i64=> -9223372036854775808
 |.u8=>0|.u16=>0|.u32=>0|.u64=>0
def hi:IntKind->Int
 |.i8=>127|.i16=>32767|.i32=>2147483647|.i64=>9223372036854775807
 |.u8=>255|.u16=>65535|.u32=>4294967295|.u64=>18446744073709551615
def qV:IntKind->Option Int
 |.u8=>some 256|.u16=>some 65536|.u32=>some 4294967296|.u64=>some 18446744073709551616
 |.i8=>none|.i16=>none|.i32=>none|.i64=>none
inductive AV where
 |cF
 |undef
 |int (k:IntKind) (n:Int)
 |bool (b:Bool)
 |tt
 |ff
 |str (s:B8)
 |nil
 |lb
 |mi
 |sl (row:List Ty) (l:List (Row row))
 |full (row:List Ty) (l:List (Row row))
 |cQ (row:List Ty) (x:Row row) (j:Nat)
 |qW (row:List Ty) (l:List (Row row))
 |own (k:Nat)
 |pre (k:Nat) (n:Nat)
 |view (k sz off len:Nat)
 |ref (k off:Nat)
 |elem (k sz i j:Nat)
 |agg (cs:List AV)
 |bf (vs:List AV)
 |fn (f:Fn) (first aW:List AV)
 |pW (row:List Ty) (l:List (Row row))
 |iz (ks:List Int) (cs:List AV)
inductive Z where
 |n
 |g (e ei:Nat) (l:List (List Int))
 |s (t:B8)
abbrev CF:=Z->Prop×AV×Z
inductive AB where
 |cells (cs:List AV)
 |row (e:Nat) (row:List Ty) (l:List (Row row)) (fr:Bool)
 |views (e:Nat) (j:Option Nat) (n m sz:Nat)
 |arr (row:List Ty) (l:List (Row row))
 |iu (e:Nat) (j:Option Nat) (row:List Ty) (l:List (Row row)) (i:Nat)
 |fo (e:Nat) (k:Option Nat) (l:List CF)
 |bc (e sz n:Nat) (cs:List AV)
 |eF (e:Nat) (j:Option Nat) (xs:List Value) (i:Nat)
 |fvar (row:List Ty) (x:Row row)
 |mp (b:Nat) (es:Array MapEntry) (ck:Nat)
def FO:(t:Ty)->D t->AV
 |.int k,x=>.int k (DI.toInt k x)
 |.bool,b=>.bool b
 |.str,s=>.str s
 |.slice row,l=>.sl row l
def aB:(ts:M Ty)->Row ts->M AV
 |[],_=>[]
 |t::ts,x=>FO t (Row.hd x)::aB ts (Row.tl x)
mutual
theorem Ty.eq_of_beq:∀(a b:Ty),Ty.beq a b=true->a=b
 |.int k,.int k',h=>by simp [Ty.beq] at h;rw [h]
 |.bool,.bool,_|.str,.str,_=>rfl
 |.slice r,.slice r',h=>by simp only [Ty.beq] at h;rw [Ty.nc r r' h]
 |.int _,.bool,h|.int _,.str,h|.int _,.slice _,h|.bool,.int _,h=>by simp [Ty.beq] at h
 |.bool,.str,h=>by simp [Ty.beq] at h
 |.bool,.slice _,h|.str,.int _,h=>by simp [Ty.beq] at h
 |.str,.bool,h=>by simp [Ty.beq] at h
 |.str,.slice _,h|.slice _,.int _,h|.slice _,.bool,h|.slice _,.str,h=>by simp [Ty.beq] at h
theorem Ty.nc:∀(a b:M Ty),Ty.Am a b=true->a=b
 |[],[],_=>rfl
 |t::ts,u::us,h=>by
  simp only [Ty.Am,B!] at h;rw [Ty.eq_of_beq t u h.1,Ty.nc ts us h.2]
 |[],_::_,h|_::_,[],h=>by simp [Ty.Am] at h
end
def fG(r r':M Ty)(l:M (Row r)):Option (M (Row r')):=
 if h:Ty.Am r r'=true then some ((Ty.nc r r' h)▸l) else none
def VN:(t:Ty)->AV->Option (D t)
 |.int k,.int k' n=>if k=k' then some (DI.ofInt k n) else none
 |.bool,.bool b=>some b
 |.bool,.tt=>some true
 |.bool,.ff=>some false
 |.str,.str s=>some s
 |.slice r,.sl r' l|.slice r,.full r' l=>fG r' r l
 |.slice _,.nil=>some ([]:M _)
 |_,_=>none
def lf:(ts:M Ty)->M AV->Option (Row ts)
 |[],[]=>some ()
 |t::ts,a::as_=>match VN t a,lf ts as_ with
  |some x,some y=>some (Row.mk x y)
  |_,_=>none
 |_,_=>none
def setRow:(ts:M Ty)->Row ts->Nat->AV->Option (Row ts)
 |[],_,_,_=>none
 |t::ts,x,0,a=>match VN t a with
  |some d=>some (Row.mk d (Row.tl x))
  |none=>none
 |t::ts,x,j+1,a=>match setRow ts (Row.tl x) j a with
  |some y=>some (Row.mk (Row.hd x:D t) y)
  |none=>none
def oK:(ts:M Ty)->Row ts->Nat->M AV->Option (Row ts)
 |_,x,_,[]=>some x
 |ts,x,j,a::as_=>match setRow ts x j a with
  |some y=>oK ts y (j+1) as_
  |none=>none
def yx(ts:M Ty):Nat->M AV->Option (M (Row ts))
 |0,as_=>match as_ with|[]=>some []|_::_=>none
 |n+1,as_=>match lf ts (as_.take ts.length),yx ts n (as_.drop ts.length) with
  |some x,some l=>some (x::l)
  |_,_=>none
structure TE where
 desc:TypeDesc
 size:Nat
 bytes:Nat
 zero:Value
inductive b9 where
 |leaf
 |node (l:b9) (k:Nat) (v:TE) (r:b9)
def b9.find:b9->Nat->Option TE
 |.leaf,_=>none
 |.node l k v r,n=>bif Nat.beq n k then some v else bif Nat.blt n k then l.find n else r.find n
def _root_.Go.TypeDesc.nR:TypeDesc->Bool
 |.struct _|.array _ _=>true
 |_=>false
def Dw {α:Type}:Option (M α)->Option (M α)->Option (M α)
 |some a,some b=>some (a++b)
 |_,_=>none
def rowOf(T:b9):Nat->TypeId->Option (M Ty)
 |0,_=>none
 |n+1,t=>match T.find t with
  |none=>none
  |some te=>match te.desc with
   |.int k=>some [.int k]
   |.bool=>some [.bool]
   |.string=>some [.str]
   |.slice e=>match rowOf T n e with|some r=>some [.slice r]|none=>none
   |.struct fs=>fs.toList.foldr (λf acc=>Dw (rowOf T n f.type) acc) (some [])
   |.array k e=>match rowOf T n e with|some r=>some ((List.replicate k r).flatten)|none=>none
   |_=>none
def Cy:Value->AV
 |.int k n=>if lo k<=n/\n<=hi k then .int k n else .cF
 |.bool b=>if b then .tt else .ff
 |.string s=>bif Nat.ble s.data.toList.length 1000000 then .str s.data.toList else .cF
 |.slice none 0 0=>.nil
 |.pointer none=>.lb
 |.nilFunc=>.mi
 |_=>.cF
def ofConst:Value->AV
 |.agg cs=>.agg (cs.toList.map Cy)
 |v=>Cy v
inductive KS where
 |one (k:Nat)
 |dst (d:Nat)
structure GD where
 row:List Ty
 l:List (Row row)
structure St where
 t:Nat->AV
 h:Nat->Option AB
 cn:List Nat
 news:List KS
 JJ:List Nat
 n:Nat
 kb:Nat
 g:Nat->Option GD
abbrev aQ:=Nat->Option AB
def ev(st:St):Operand->AV
 |.tmp i=>st.t i
 |.const v=>ofConst v
 |.global i=>match st.g i with
   |some d=>.qW d.row d.l
   |none=>.cF
 |.func f=>.fn (.func f) [] []
def je(h:aQ):AV->AV×M Nat
 |.own k=>match h k with
   |some (.row _ row l _)=>(.sl row l,[k])
   |_=>(.cF,[])
 |.pre k n=>match h k with
   |some (.row _ row l _)=>(.sl row (l.take n),[k])
   |_=>(.cF,[])
 |.view k sz off len=>match h k with
   |some (.row _ row l _)=>bif Nat.beq sz row.length then(.sl row ((l.drop off).take len),[k]) else(.cF,[])
   |_=>(.cF,[])
 |a=>(a,[])
def pX(h:aQ):M AV->M AV×M Nat
 |[]=>([],[])
 |a::as_=>((je h a).1::(pX h as_).1,(je h a).2++(pX h as_).2)
def qT(h:aQ):AV->AV×M Nat
 |.agg cs=>(.agg (pX h cs).1,(pX h cs).2)
 |a=>je h a
def nd(h:aQ):M AV->M AV×M Nat
 |[]=>([],[])
 |a::as_=>((qT h a).1::(nd h as_).1,(qT h a).2++(nd h as_).2)
def AV.cells:AV->M AV
 |.agg cs=>cs
 |a=>[a]
def AV.one:AV->Bool
 |.cF|.undef|.agg _|.bf _=>false
 |_=>true
structure Out where
 cond:List Prop
 res:AV
 gz:List (Nat×AB):=[]
 del:List Nat:=[]
 new:List (Nat×AB):=[]
 raw:List Nat:=[]
def cM(h:aQ):M Nat->M (Nat×AB)
 |[]=>[]
 |k::ks=>match h k with
  |some (.row e row l _)=>(k,.row e row l true)::cM h ks
  |_=>cM h ks
mutual
def eH(d:Nat):AV->AV
 |.own k=>bif Nat.beq k d then .cF else .own k
 |.pre k n=>bif Nat.beq k d then .cF else .pre k n
 |.view k sz off n=>bif Nat.beq k d then .cF else .view k sz off n
 |.ref k off=>bif Nat.beq k d then .cF else .ref k off
 |.elem k sz i j=>bif Nat.beq k d then .cF else .elem k sz i j
 |.agg cs=>.agg (gx d cs)
 |.bf vs=>.bf (gx d vs)
 |.fn f first aW=>.fn f (gx d first) (gx d aW)
 |.iz ks cs=>.iz ks (gx d cs)
 |a=>a
def gx(d:Nat):M AV->M AV
 |[]=>[]
 |a::as_=>eH d a::gx d as_
end
def rQ(d:Nat):Option Nat->Option Nat
 |some k=>bif Nat.beq k d then none else some k
 |none=>none
def yy(b:Bool)(e k:Nat)(l:M CF):AB:=bif b then .views e none l.length 0 0 else .fo e (some k) l
def mM(d:Nat):AB->AB
 |.cells cs=>.cells (gx d cs)
 |.fo e (some k) l=>yy (Nat.beq k d) e k l
 |.eF e j xs i=>.eF e (rQ d j) xs i
 |.views e j n m sz=>.views e (rQ d j) n m sz
 |.iu e j row l i=>.iu e (rQ d j) row l i
 |b=>b
def Lv(cs:M AV)(off:Nat)(vs:M AV):M AV:=cs.take off++vs++cs.drop (off+vs.length)
def H4(h:aQ):AV->Option Int
 |.str s=>some (s.length:Int)
 |.sl _ l|.full _ l=>some (l.length:Int)
 |.nil=>some 0
 |.own k=>match h k with
   |some (.row _ _ l _)=>some (l.length:Int)
   |_=>none
 |.pre k n=>match h k with
   |some (.row _ _ _ _)=>some (n:Int)
   |_=>none
 |.view k _ _ n=>match h k with
   |some (.row _ _ _ _)=>some (n:Int)
   |_=>none
 |_=>none
def mN(T:b9)(t:TypeId):Option TE:=match T.find t with
 |some te=>match te.desc with
  |.slice e=>T.find e
  |_=>none
 |none=>none
def o9(T:b9)(t:TypeId):Option TypeId:=match T.find t with
 |some te=>match te.desc with
  |.slice e=>some e
  |_=>none
 |none=>none
def iW(T:b9)(t:TypeId)(n:Nat):Bool:=match T.find t with
 |some te=>Nat.beq te.size n
 |none=>false
def bh(T:b9)(t:TypeId)(n:Nat):Bool:=match mN T t with
 |some te=>Nat.beq te.size n&&Nat.blt 0 n
 |none=>false
def Mf(T:b9)(t:TypeId):Option (Nat×Nat):=match T.find t with
 |some te=>match te.desc with
  |.array k e=>match T.find e with
    |some ee=>bif Nat.blt 0 ee.size then some (k,ee.size) else none
    |none=>none
  |_=>none
 |none=>none
def gS(T:b9)(h:aQ)(t:TypeId):AV->AV->Option Out
 |.sl row l,.int _ i=>
   bif bh T t row.length then some {cond:=[0<=i/\i<(l.length:Int)],res:=.cQ row (l.getD i.toNat (Row.zero row)) 0} else none
 |.full row l,.int _ i=>
   bif bh T t row.length then some {cond:=[0<=i/\i<(l.length:Int)],res:=.cQ row (l.getD i.toNat (Row.zero row)) 0} else none
 |.own k,.int _ i=>match h k with
   |some (.row _ row l _)=>bif bh T t row.length then some {cond:=[0<=i/\i<(l.length:Int)],res:=.elem k row.length i.toNat 0} else none
   |_=>none
 |.pre k n,.int _ i=>match h k with
   |some (.row _ row l _)=>bif bh T t row.length then some {cond:=[0<=i/\i<(n:Int)],res:=.elem k row.length i.toNat 0} else none
   |_=>none
 |.view k sz off n,.int _ i=>bif bh T t sz then some {cond:=[0<=i/\i<(n:Int)],res:=.elem k sz (off+i.toNat) 0} else none
 |.qW row l,.int _ i=>match Mf T t with
   |some (n,sz)=>bif Nat.beq sz row.length then some {cond:=[n=l.length,0<=i/\i<(l.length:Int)],res:=.cQ row (l.getD i.toNat (Row.zero row)) 0} else none
   |none=>none
 |.ref k off,.int _ i=>match Mf T t with
   |some (n,sz)=>some {cond:=[0<=i/\i<(n:Int)],res:=.ref k (off+i.toNat*sz)}
   |none=>none
 |_,_=>none
def QZ(off:Nat)(n:Int)(sz:Nat):Nat:=off+n.toNat*sz
def apl:Operand->Option Int
 |.const (.int _ n)=>some n
 |_=>none
def tQ(T:b9)(h:aQ)(t:TypeId)(n:Option Int)(x y:AV):Option Out:=match n,x,y with
 |some n,.ref k off,.int kd i=>match Mf T t with
  |some (m,sz)=>if n=i then some {cond:=[0<=i/\i<(m:Int)],res:=.ref k (QZ off n sz)} else gS T h t (.ref k off) (.int kd i)
  |none=>none
 |_,x,y=>gS T h t x y
def pick(te:TE)(cs:M AV)(off:Nat):Option AV:=
 bif te.desc.nR then(bif Nat.ble (off+te.size) cs.length then some (.agg ((cs.drop off).take te.size)) else none)
 else cs[off]?
def pY(T:b9)(h:aQ)(t:TypeId):AV->Option Out
 |.cQ row x j=>match T.find t with
   |some te=>match pick te (aB row x) j with
    |some a=>some {cond:=[],res:=a}
    |none=>none
   |none=>none
 |.qW row l=>match T.find t with
   |some te=>match pick te (l.flatMap (aB row)) 0 with
    |some a=>some {cond:=[],res:=a}
    |none=>none
   |none=>none
 |.ref k off=>match T.find t,h k with
   |some te,some (.cells cs)=>match pick te cs off with
    |some a=>some {cond:=[],res:=a}
    |none=>none
   |_,_=>none
 |.elem k sz i j=>match T.find t,h k with
   |some te,some (.row _ row l _)=>
    bif Nat.beq sz row.length then match pick te (aB row (l.getD i (Row.zero row))) j with
     |some a=>some {cond:=[i<l.length],res:=a}
     |none=>none
    else none
   |_,_=>none
 |_=>none
def iA(T:b9)(h:aQ)(t:TypeId):AV->AV->Option Out
 |.ref k off,v=>match h k with
   |some (.cells cs)=>
    bif v.cells.all AV.one&&iW T t v.cells.length&&Nat.ble (off+v.cells.length) cs.length then
     some {cond:=[],res:=.undef,gz:=[(k,.cells (Lv cs off v.cells))]} else none
   |_=>none
 |.elem k sz i j,v=>match h k with
   |some (.row e row l false)=>
    bif Nat.beq sz row.length&&iW T t v.cells.length&&Nat.blt 0 v.cells.length then match oK row (l.getD i (Row.zero row)) j (qT h v).1.cells with
     |some x=>bif (qT h v).2.elem k then none else some {cond:=[i<l.length],res:=.undef,gz:=(k,.row e row (l.set i x) false)::cM h (qT h v).2}
     |none=>none
    else none
   |_=>none
 |_,_=>none
def FP(T:b9)(s:TypeId)(f:Nat):Option (TypeId×Nat):=match T.find s with
 |some te=>match te.desc with
  |.struct fs=>match fs[f]? with
    |some fd=>some (fd.type,fd.offset)
    |none=>none
  |_=>none
 |none=>none
def FQ(T:b9)(t:TypeId):Bool:=match T.find t with
 |some te=>Nat.blt 0 te.size
 |none=>false
def wN(T:b9)(s:TypeId)(f:Nat)(x:AV):Option Out:=match FP T s f with
 |some (ft,o)=>bif FQ T ft then match x with
  |.ref k off=>some {cond:=[],res:=.ref k (off+o)}
  |.cQ row x j=>some {cond:=[],res:=.cQ row x (j+o)}
  |.elem k sz i j=>some {cond:=[],res:=.elem k sz i (j+o)}
  |_=>none
  else none
 |none=>none
def fit(k:IntKind)(n:Int):M Prop×AV:=match qV k with
 |some c=>([],.int k (n%c))
 |none=>([lo k<=n/\n<=hi k],.int k n)
def vD(k:IntKind)(cond:M Prop)(n:Int):Option Out:=some {cond:=cond++(fit k n).1,res:=(fit k n).2}
def Dx(k:IntKind)(n:Int):M Prop:=match qV k with
 |some _=>[]
 |none=>[0<=n]
def bitsOf:IntKind->Int
 |.i8|.u8=>8|.i16|.u16=>16|.i32|.u32=>32|.i64|.u64=>64
def aM(a b:Int):Int:=((a.toNat&&&b.toNat:Nat):Int)
def cy(a b:Int):Int:=((a.toNat ||| b.toNat:Nat):Int)
def eP(a b:Int):Int:=((a.toNat^^^b.toNat:Nat):Int)
def vE:AV->Option Bool
 |.bool b=>some b
 |.tt=>some true
 |.ff=>some false
 |_=>none
def cU(T:b9)(t:TypeId)(f:TypeDesc->Bool):Bool:=match T.find t with
 |some te=>f te.desc
 |none=>false
def gG:TypeDesc->Bool
 |.slice _=>true
 |_=>false
def Mg:TypeDesc->Bool
 |.bool=>true
 |_=>false
def Q0(T:b9)(E:TypeId->AV->AV->Option Bool)(xs ys:M AV):M Field->Option Bool
 |[]=>some true
 |f::fs=>match T.find f.type with
  |some te=>match pick te xs f.offset,pick te ys f.offset with
   |some a,some b=>match E f.type a b,Q0 T E xs ys fs with
    |some r,some r'=>some (match fs with|[]=>r|_=>bif r then r' else false)
    |_,_=>none
   |_,_=>none
  |none=>none
def JK(T:b9):Nat->TypeId->AV->AV->Option Bool
 |0,_,_,_=>none
 |n+1,t,x,y=>match T.find t with
  |some te=>match te.desc with
   |.struct fs=>match x,y with
     |.agg xs,.agg ys=>Q0 T (JK T n) xs ys fs.toList
     |_,_=>none
   |.int _=>match x,y with
     |.int k a,.int k' b=>if k=k' then some (decide (a=b)) else none
     |_,_=>none
   |.string=>match x,y with
     |.str a,.str b=>some (decide (a=b))
     |_,_=>none
   |.bool=>match vE x,vE y with
     |some a,some b=>some (a==b)
     |_,_=>none
   |_=>none
  |none=>none
def S7(T:b9)(t:TypeId)(op:BinOp):AV->AV->Option Out
 |.int k n,.int k' m=>match op with
   |.shl=>vD k [0<=m/\m<=bitsOf k] (n*2^m.toNat)
   |.shr=>some {cond:=[0<=m/\m<=bitsOf k],res:=.int k (n/2^m.toNat)}
   |_=>if k=k' then match op with
    |.add=>vD k [] (n+m)
    |.sub=>vD k [] (n-m)
    |.mul=>vD k [] (n*m)
    |.quo=>some {cond:=Dx k n++[0<m],res:=.int k (n/m)}
    |.rem=>some {cond:=Dx k n++[0<m],res:=.int k (n%m)}
    |.and=>some {cond:=Dx k n++Dx k m,res:=.int k (aM n m)}
    |.or=>some {cond:=Dx k n++Dx k m,res:=.int k (cy n m)}
    |.xor=>some {cond:=Dx k n++Dx k m,res:=.int k (eP n m)}
    |.eql=>some {cond:=[],res:=.bool (decide (n=m))}
    |.neq=>some {cond:=[],res:=.bool (!decide (n=m))}
    |.lss=>some {cond:=[],res:=.bool (decide (n<m))}
    |.leq=>some {cond:=[],res:=.bool (decide (n<=m))}
    |.gtr=>some {cond:=[],res:=.bool (decide (m<n))}
    |.geq=>some {cond:=[],res:=.bool (decide (m<=n))}
    |_=>none
    else none
 |.str s,.str u=>match op with
   |.add=>some {cond:=[((s.length+u.length:Nat):Int)<=9223372036854775807],res:=.str (s++u)}
   |.eql=>some {cond:=[],res:=.bool (decide (s=u))}
   |.neq=>some {cond:=[],res:=.bool (!decide (s=u))}
   |.lss=>some {cond:=[],res:=.bool (Op.bytesLess s u)}
   |.leq=>some {cond:=[],res:=.bool (Op.bytesLess s u || decide (s=u))}
   |.gtr=>some {cond:=[],res:=.bool (!(Op.bytesLess s u || decide (s=u)))}
   |.geq=>some {cond:=[],res:=.bool (!Op.bytesLess s u)}
   |_=>none
 |.sl (r::rs) l,.nil=>bif cU T t gG then match op with
     |.eql=>some {cond:=[],res:=.pW (r::rs) l}
     |_=>none
     else none
 |.agg xs,.agg ys=>match JK T 8 t (.agg xs) (.agg ys) with
   |some r=>match op with
    |.eql=>some {cond:=[],res:=.bool r}
    |.neq=>some {cond:=[],res:=.bool (!r)}
    |_=>none
   |none=>none
 |a,b=>match vE a,vE b with
  |some x,some y=>bif cU T t Mg then match op with
   |.eql=>some {cond:=[],res:=.bool (x==y)}
   |.neq=>some {cond:=[],res:=.bool (!(x==y))}
   |_=>none
   else none
  |_,_=>none
def Y6(op:UnOp):AV->Option Out
 |.bool b=>match op with|.not=>some {cond:=[],res:=.bool (!b)}|_=>none
 |.tt=>match op with|.not=>some {cond:=[],res:=.ff}|_=>none
 |.ff=>match op with|.not=>some {cond:=[],res:=.tt}|_=>none
 |.int k n=>match op with
   |.neg=>vD k [] (0-n)
   |.xor=>match qV k with
     |some c=>some {cond:=[],res:=.int k (c-1-n)}
     |none=>none
   |_=>none
 |_=>none
def oA(h:aQ)(row:M Ty)(a:AV):Option (M (Row row)):=match a with
 |.str s=>fG [.int .u8] row s
 |.nil=>some []
 |a=>match(je h a).1 with
  |.sl r l|.full r l=>fG r row l
  |_=>none
def rR:Nat:=8
def Cz:TypeDesc->Bool
 |.slice _=>true
 |.string=>true
 |_=>false
def rk(T:b9)(h:aQ)(d:Nat)(t t':TypeId)(s x:AV):Option Out:=
 match o9 T t,mN T t with
 |some e,some te=>match rowOf T rR e with
  |some row=>bif Nat.beq row.length te.size&&Nat.blt 0 te.size&&Nat.beq (ofConst te.zero).cells.length te.size&&cU T t' Cz then
   match oA h row x with
   |some m=>match s with
    |.nil=>some {cond:=[m.length<=140737488355328/te.bytes],res:=.own d,new:=[(d,.row e row m false)]}
    |.own k=>match h k with
      |some (.row e' ng l false)=>bif Nat.beq e' e then match fG ng row l with
       |some l'=>some {cond:=[l'.length+m.length<=140737488355328/te.bytes],res:=.own d,del:=[k],new:=[(d,.row e row (l'++m) false)]}
       |none=>none
       else none
      |_=>none
    |.pre k n=>match h k with
      |some (.row e' ng l false)=>bif Nat.beq e' e then match fG ng row l with
       |some l'=>some {cond:=[n+m.length<=140737488355328/te.bytes],res:=.own d,del:=[k],new:=[(d,.row e row (l'.take n++m) false)]}
       |none=>none
       else none
      |_=>none
    |.full r l=>match fG r row l with
      |some l'=>some {cond:=[0<m.length,l'.length+m.length<=140737488355328/te.bytes],res:=.own d,new:=[(d,.row e row (l'++m) false)]}
      |none=>none
    |_=>none
   |none=>none
   else none
  |none=>none
 |_,_=>none
def tR(T:b9)(h:aQ)(t t':TypeId)(s x:AV):Option Out:=
 match s with
 |.own k=>match h k with
   |some (.row e row l false)=>bif bh T t row.length then match oA h row x with
    |some m=>some {cond:=[],res:=.int .i64 ((min m.length l.length:Nat):Int),gz:=[(k,.row e row (m.take l.length++l.drop m.length) false)]}
    |none=>none
    else none
   |_=>none
 |.view k sz off n=>match h k with
   |some (.row e row l false)=>bif bh T t row.length&&Nat.beq sz row.length then match oA h row x with
    |some m=>some {cond:=[off+n<=l.length],res:=.int .i64 ((min m.length n:Nat):Int),gz:=[(k,.row e row (l.take off++m.take n++l.drop (off+min m.length n)) false)]}
    |none=>none
    else none
   |_=>none
 |_=>none
def vF:Option AV->Option (Option Int)
 |none=>some none
 |some (.int _ i)=>some (some i)
 |some _=>none
def tc:TypeDesc->Bool
 |.string=>true
 |_=>false
def tF(T:b9)(h:aQ)(t:TypeId)(x:AV)(lo hi mx:Option AV):Option Out:=
 match x,vF lo,vF hi,vF mx with
 |.str s,some lo,some hi,some none=>bif cU T t tc then match lo,hi with
   |none,none=>some {cond:=[],res:=.str s}
   |none,some b=>some {cond:=[0<=b/\b<=(s.length:Int)],res:=.str (s.take b.toNat)}
   |some a,none=>some {cond:=[0<=a/\a<=(s.length:Int)],res:=.str (s.drop a.toNat)}
   |some a,some b=>some {cond:=[0<=a/\a<=b/\b<=(s.length:Int)],res:=.str ((s.take b.toNat).drop a.toNat)}
   else none
 |.sl row l,some lo,some hi,some none=>bif bh T t row.length then match lo,hi with
   |none,none=>some {cond:=[],res:=.sl row l}
   |none,some b=>some {cond:=[0<=b/\b<=(l.length:Int)],res:=.sl row (l.take b.toNat)}
   |some a,none=>some {cond:=[0<=a/\a<=(l.length:Int)],res:=.sl row (l.drop a.toNat)}
   |some a,some b=>some {cond:=[0<=a/\a<=b/\b<=(l.length:Int)],res:=.sl row ((l.take b.toNat).drop a.toNat)}
   else none
 |.sl row l,some none,some (some b),some (some c)=>bif bh T t row.length then some {cond:=[0<=b/\b=c/\b<=(l.length:Int)],res:=.full row (l.take b.toNat)} else none
 |.own k,some lo,some hi,some none=>match h k with
   |some (.row _ row l _)=>bif bh T t row.length then match lo,hi with
    |none,none=>some {cond:=[],res:=.own k}
    |none,some b=>some {cond:=[0<=b/\b<=(l.length:Int)],res:=.pre k b.toNat}
    |some a,none=>some {cond:=[0<=a/\a<=(l.length:Int)],res:=.view k row.length a.toNat (l.length-a.toNat)}
    |some a,some b=>some {cond:=[0<=a/\a<=b/\b<=(l.length:Int)],res:=.view k row.length a.toNat (b.toNat-a.toNat)}
    else none
   |_=>none
 |_,_,_,_=>none
def yz:AV->Bool
 |.str _=>false
 |_=>true
def CA(T:b9)(h:aQ)(s d:TypeId)(k:Nat):Option Out:=
 bif Nat.beq s d then match T.find s with
  |some ts=>match ts.desc with
   |.slice e=>match T.find e,h k with
     |some te,some (.row _ row l false)=>match te.desc,fG row [.int .u8] l with
      |.int .u8,some l'=>some {cond:=[0<l'.length],res:=.sl [.int .u8] l',del:=[k]}
      |_,_=>none
     |_,_=>none
   |_=>none
  |none=>none
 else none
def pK(T:b9)(h:aQ)(s d:TypeId)(x:AV):Option Out:=
 match T.find s,T.find d with
 |some ts,some td=>match ts.desc,td.desc,x with
  |.int _,.int k,.int k' n=>
    if lo k<=lo k'/\hi k'<=hi k then some {cond:=[],res:=.int k n} else vD k [] n
  |.string,.string,.str u=>some {cond:=[],res:=.str u}
  |.string,.slice e,.str u=>match T.find e with
    |some te=>match te.desc with
     |.int .u8=>some {cond:=[],res:=.sl [.int .u8] u}
     |_=>none
    |none=>none
  |.slice e,.string,x=>match T.find e with
    |some te=>match te.desc with
     |.int .u8=>match yz x,oA h [.int .u8] x with
       |true,some u=>some {cond:=[],res:=.str u}
       |_,_=>none
     |_=>none
    |none=>none
  |.slice _,.slice _,.own k=>CA T h s d k
  |_,_,_=>none
 |_,_=>none
def yA(place:Nat->Option (Nat×Nat))(cs:M AV):M (Nat×AV)->Option (M AV)
 |[]=>some cs
 |(i,v)::rest=>match place i with
  |none=>none
  |some (off,size)=>bif Nat.beq v.cells.length size&&Nat.ble (off+size) cs.length&&v.cells.all AV.one then yA place (Lv cs off v.cells) rest else none
def placesOf(T:b9):M Field->Option (M (Nat×Nat))
 |[]=>some []
 |f::fs=>match T.find f.type,placesOf T fs with
  |some te,some ps=>some ((f.offset,te.size)::ps)
  |_,_=>none
def H5(T:b9)(t:TypeId)(parts:M (Nat×AV)):Option Out:=match T.find t with
 |some te=>match te.desc with
  |.struct fs=>match placesOf T fs.toList with
    |some ps=>match yA (λi=>ps[i]?) (ofConst te.zero).cells parts with
     |some cs=>some {cond:=[],res:=.agg cs}
     |none=>none
    |none=>none
  |.array _ e=>match T.find e with
    |some ee=>match yA (λi=>some (i*ee.size,ee.size)) (ofConst te.zero).cells parts with
     |some cs=>some {cond:=[],res:=.agg cs}
     |none=>none
    |none=>none
  |_=>none
 |none=>none
def pZ(h:aQ):M (Nat×AV)->M (Nat×AV)×M Nat
 |[]=>([],[])
 |(i,x)::ps=>((i,(qT h x).1)::(pZ h ps).1,(qT h x).2++(pZ h ps).2)
def lh(T:b9)(h:aQ)(d:Nat)(t:TypeId)(len:Nat)(parts:M (Nat×AV)):Option Out:=
 match o9 T t,mN T t with
 |some e,some te=>match rowOf T rR e with
  |some row=>bif Nat.beq row.length te.size&&Nat.blt 0 te.size&&Nat.beq (ofConst te.zero).cells.length te.size&&Nat.ble (len*te.size) 16777216 then
   match yA (λi=>some (i*te.size,te.size)) ((List.replicate len (ofConst te.zero).cells).flatten) (pZ h parts).1 with
   |some cs=>match yx row len cs with
    |some l=>some {cond:=[],res:=.own d,gz:=cM h (pZ h parts).2,new:=[(d,.row e row l false)]}
    |none=>none
   |none=>none
   else none
  |none=>none
 |_,_=>none
def dO(row:M Ty)(z:Value):Bool:=match z with
 |.agg cs=>cR row cs.toList
 |v=>cR row [v]
where
 cR:M Ty->M Value->Bool
 |[],[]=>true
 |.int k::ts,.int k' n::vs=>decide (k=k')&&decide (n=0)&&cR ts vs
 |.bool::ts,.bool false ::vs=>cR ts vs
 |.str::ts,.string s::vs=>s.data.toList.isEmpty&&cR ts vs
 |.slice _::ts,.slice none 0 0::vs=>cR ts vs
 |_,_=>false
def tG(T:b9)(h:aQ)(t:TypeId)(x:AV):Option Out:=
 match x with
 |.view k sz off n=>match h k with
   |some (.row e row l false)=>match o9 T t,mN T t with
    |some _,some te=>bif bh T t row.length&&Nat.beq sz row.length&&Nat.beq row.length te.size&&dO row te.zero then
      some {cond:=[off+n<=l.length],res:=.bf [],gz:=[(k,.row e row (l.take off++List.replicate n (Row.zero row)++l.drop (off+n)) false)]} else none
    |_,_=>none
   |_=>none
 |_=>none
def wO(T:b9)(d:Nat)(t:TypeId):AV->AV->Option Out
 |.int k n,.int k' c=>match o9 T t,mN T t with
   |some e,some te=>match rowOf T rR e with
    |some row=>bif Nat.beq row.length te.size&&Nat.blt 0 te.size&&dO row te.zero then
     some {cond:=[0<=n/\n<=c/\c<=140737488355328/te.bytes],res:=.own d,new:=[(d,.row e row (List.replicate n.toNat (Row.zero row)) false)]} else none
    |none=>none
   |_,_=>none
 |_,_=>none
abbrev Qj:=M AV->Option (Prop×AV×M AB)
structure bo where
 pre:Prop
 res:AV
 heap:List (Option AB)
 new:List AB
abbrev dD:=M AV->M AB->Option bo
structure Env where
 T:b9
 sig:Nat->Option Qj
 gP:Nat->Option GD:=λ_=>none
 qX:Nat->Option (List Bool×dD):=λ_=>none
 iu:Nat->Bool:=λ_=>false
 cls:Nat->Option Nat:=λ_=>none
 K1:Nat->Bool:=λ_=>false
 H6:Nat:=0
 cq:Nat->Option (List AV->Option (Option Nat×CF)):=λ_=>none
 Mh:Nat->Option (List (Option TypeId)):=λ_=>none
mutual
def eG(base:Nat):AV->AV
 |.own k=>.own (base+k)
 |.agg cs=>.agg (tH base cs)
 |.bf vs=>.bf (tH base vs)
 |a=>a
def tH(base:Nat):M AV->M AV
 |[]=>[]
 |a::as_=>eG base a::tH base as_
end
def gH(base:Nat):M AB->M (Nat×AB)
 |[]=>[]
 |b::bs=>(base,b)::gH (base+1) bs
def aj2(d:Nat):Nat:=100000+100*d
mutual
def AV.gb:AV->Bool
 |.int _ _|.bool _|.tt|.ff|.str _|.undef|.own _|.nil=>true
 |.agg cs=>FT cs
 |.bf vs=>FT vs
 |_=>false
def FT:M AV->Bool
 |[]=>true
 |a::as_=>a.gb&&FT as_
end
def Mi:AV->Bool
 |.fn (.func _) [] []=>true
 |_=>false
def ai6:AV->Bool
 |.cQ _ _ _=>true
 |_=>false
mutual
def lP(n:Nat):AV->Bool
 |.own k=>Nat.blt k n
 |.agg cs=>FU n cs
 |.bf vs=>FU n vs
 |.iz _ cs=>cs.all Mi
 |.fn _ l m=>l.isEmpty&&m.all ai6
 |.cF|.pre _ _|.view _ _ _ _|.ref _ _|.elem _ _ _ _|.cQ _ _ _|.qW _ _=>false
 |_=>true
def FU(n:Nat):M AV->Bool
 |[]=>true
 |a::as_=>lP n a&&FU n as_
end
def lj:M AB->Bool
 |[]=>true
 |.row _ _ _ false ::r=>lj r
 |_=>false
def Lw:Ty->Bool
 |.slice _=>false
 |_=>true
def aoZ:M AB->Bool
 |[]=>true
 |.row _ row _ _::r=>row.all Lw&&aoZ r
 |_=>false
def p0(E:Env)(h:aQ)(d f:Nat)(args:M AV):Option Out:=match E.sig f with
 |some s=>match s (nd h args).1 with
  |some (pre,res,bs)=>bif Nat.ble bs.length 100&&lP bs.length res&&lj bs then some {cond:=[pre],res:=eG (aj2 d) res,gz:=bif res.gb&&aoZ bs then [] else cM h (nd h args).2,new:=gH (aj2 d) bs} else none
  |none=>none
 |none=>none
def FV(b:Bool):AV->AV->AV
 |.int k n,.int k' m=>if k=k' then .int k (bif b then n else m) else .cF
 |.str s,.str u=>.str (bif b then s else u)
 |.sl r l,.sl r' m=>match fG r' r m with
   |some m'=>.sl r (bif b then l else m')
   |none=>.cF
 |.sl r l,.nil=>.sl r (bif b then l else [])
 |.nil,.sl r l=>.sl r (bif b then [] else l)
 |.nil,.nil=>.nil
 |.lb,.lb=>.lb
 |.own k,.own k'=>bif Nat.beq k k' then .own k else .cF
 |x,y=>match vE x,vE y with
  |some p,some q=>.bool (bif b then p else q)
  |_,_=>.cF
def tI(b:Bool):M AV->M AV->M AV
 |x::xs,y::ys=>FV b x y::tI b xs ys
 |_,_=>[]
def FW(b:Bool):AV->AV->AV
 |.agg xs,.agg ys=>bif Nat.beq xs.length ys.length then .agg (tI b xs ys) else .cF
 |.bf xs,.bf ys=>bif Nat.beq xs.length ys.length then .bf (tI b xs ys) else .cF
 |x,y=>FV b x y
def FX(b:Bool):Option AB->Option AB->Option AB
 |some (.cells xs),some (.cells ys)=>bif Nat.beq xs.length ys.length then some (.cells (tI b xs ys)) else none
 |some (.row e r l fr),some (.row e' r' m H7)=>match fG r' r m with
  |some m'=>bif Nat.beq e e'&&(fr==H7) then some (.row e r (bif b then l else m') fr) else none
  |none=>none
 |_,_=>none
def FY:M AV->Option (IntKind×U)
 |[]=>none
 |a::r=>match a with
  |.int k n=>match r with
    |[]=>some (k,[n])
    |_::_=>match FY r with
     |some (k',l)=>if k=k' then some (k,n::l) else none
     |none=>none
  |_=>none
def every(sz j:Nat):Nat->M AV->M AV
 |0,_=>[]
 |n+1,cs=>cs.getD j .cF::every sz j n (cs.drop sz)
def FZ(sz k:Nat)(cs:M AV)(n:Int):Nat->Option (M AV)
 |0=>some []
 |m+1=>match FZ sz k cs n m,FY (every sz m k cs) with
  |some vs,some (kd,l)=>some (vs++[.int kd (l.getD n.toNat 0)])
  |_,_=>none
def Mj(T:b9)(t:TypeId):Option (Nat×TE):=match T.find t with
 |some te=>match te.desc with
  |.array k e=>match T.find e with
    |some ee=>some (k,ee)
    |none=>none
  |_=>none
 |none=>none
def yB(T:b9)(t:TypeId)(cs:M AV)(n:Int):Option Out:=match Mj T t with
 |some (k,ee)=>bif Nat.beq cs.length (k*ee.size) then match FZ ee.size k cs n ee.size with
  |some vs=>bif ee.desc.nR then some {cond:=[0<=n/\n<(k:Int)],res:=.agg vs} else match vs with
   |[a]=>some {cond:=[0<=n/\n<(k:Int)],res:=a}
   |_=>none
  |none=>none
  else none
 |none=>none
def rl(k:Nat):Bool:=Nat.ble 50000 k&&Nat.blt k 60000
def fresh(h:aQ)(k:Nat):Bool:=match h k with
 |none=>!(rl k)
 |some _=>false
def yC(n:Int):U->Prop
 |[]=>True
 |k::r=>n≠k/\yC n r
def Mk(n:Int):U->Bool
 |[]=>false
 |k::r=>decide (n=k) || Mk n r
def gT:U->Bool
 |[]=>true
 |k::r=>!Mk k r&&gT r
def wP:TypeDesc->Bool
 |.int .i64=>true
 |_=>false
def Y7:Value->Bool
 |.nilFunc=>true
 |_=>false
def Em(T:b9)(H6:Nat)(t:TypeId)(ok:Bool)(ks:U)(cs:M AV)(n:Int):Option Out:=match T.find t with
 |some te=>match te.desc with
  |.map kt et=>bif cU T kt wP&&gT ks then
      (match ks[H6]?,cs[H6]? with
      |some k,some c=>some {cond:=[n=k],res:=bif ok then .bf [c,.tt] else c}
      |_,_=>match T.find et with
       |some ee=>bif Y7 ee.zero then some {cond:=[yC n ks],res:=bif ok then .bf [.mi,.ff] else .mi} else none
       |none=>none)
    else none
  |_=>none
 |none=>none
def dV(E:Env)(st:St)(o:Oper):Option Out:=
 let T:=E.T
 let h:=st.h
 let ρ:=ev st
 match o.op with
 |.move x|.assign x=>some {cond:=[],res:=ρ x}
 |.pick c a b=>match ρ c with
   |.tt=>some {cond:=[],res:=ρ a}
   |.ff=>some {cond:=[],res:=ρ b}
   |.bool p=>some {cond:=[],res:=FW p (ρ a) (ρ b)}
   |_=>none
 |.alloc t=>match T.find t,o.dst with
   |some te,some d=>bif Nat.ble te.size 40 then(bif (ofConst te.zero).cells.all AV.one then some {cond:=[],res:=.ref (st.kb+d) 0,new:=[(st.kb+d,.cells (gx (st.kb+d) (ofConst te.zero).cells))]} else none) else none
   |_,_=>none
 |.box _ x=>match o.dst with
   |some d=>bif (ρ x).cells.all AV.one then some {cond:=[],res:=.ref (st.kb+d) 0,new:=[(st.kb+d,.cells (gx (st.kb+d) (ρ x).cells))]} else none
   |none=>none
 |.build t parts=>H5 T t (parts.toList.map λp=>(p.1,ρ p.2))
 |.buildSlice t len parts=>match o.dst with
   |some d=>bif fresh h (st.kb+d) then lh T h (st.kb+d) t len (parts.toList.map λp=>(p.1,ρ p.2)) else none
   |none=>none
 |.load t p=>pY T h t (ρ p)
 |.store t p v=>iA T h t (ρ p) (ρ v)
 |.nilCheck x=>match ρ x with
   |.ref k off=>some {cond:=[],res:=.ref k off}
   |.cQ r x j=>some {cond:=[],res:=.cQ r x j}
   |.elem k sz i j=>some {cond:=[],res:=.elem k sz i j}
   |.fn (.func f) first aW=>some {cond:=[],res:=.fn (.func f) first aW}
   |_=>none
 |.binOp op t x y _=>S7 T t op (ρ x) (ρ y)
 |.unOp op _ x=>Y6 op (ρ x)
 |.convert s d x=>pK T h s d (ρ x)
 |.makeFunc f first aW=>some {cond:=[],res:=.fn f (first.toList.map ρ) (aW.toList.map ρ)}
 |.makeSlice t l c=>match o.dst with
   |some d=>bif fresh h (st.kb+d) then wO T (st.kb+d) t (ρ l) (ρ c) else none
   |none=>none
 |.slice t x lo hi mx=>tF T h t (ρ x) (lo.map ρ) (hi.map ρ) (mx.map ρ)
 |.fieldAddr s x f=>wN T s f (ρ x)
 |.field s x f=>match FP T s f,ρ x with
   |some (ft,off),.agg cs=>match T.find ft with
    |some te=>match pick te cs off with
     |some a=>some {cond:=[],res:=a}
     |none=>none
    |none=>none
   |_,_=>none
 |.indexAddr t x i=>tQ T h t (apl i) (ρ x) (ρ i)
 |.index t x i=>match ρ x,ρ i with
   |.str s,.int _ n=>bif cU T t tc then some {cond:=[0<=n/\n<(s.length:Int)],res:=.int .u8 ((s.getD n.toNat 0).toNat:Int)} else none
   |.agg cs,.int _ n=>yB T t cs n
   |_,_=>none
 |.extract x i=>match ρ x with
   |.bf vs=>match vs[i]? with
     |some a=>some {cond:=[],res:=a}
     |none=>none
   |_=>none
 |.lookup t x i ok=>match ρ x,ρ i with
   |.iz ks cs,.int .i64 n=>Em T E.H6 t ok ks cs n
   |_,_=>none
 |.call c=>match c.callee with
   |.builtin b=>match b,c.args.toList,c.argTypes.toList with
     |.len,[x],[t]=>match H4 h (ρ x) with
       |some n=>bif (bif yz (ρ x) then cU T t gG else cU T t tc) then some {cond:=[],res:=.int .i64 n} else none
       |none=>none
     |.append,[s,x],[t,t']=>match o.dst with
       |some d=>bif fresh h (st.kb+d) then rk T h (st.kb+d) t t' (ρ s) (ρ x) else none
       |none=>none
     |.copy,[s,x],[t,t']=>tR T h t t' (ρ s) (ρ x)
     |.clear,[x],[t]=>tG T h t (ρ x)
     |.min,[x,y],_=>match ρ x,ρ y with
       |.int k n,.int k' m=>if k=k' then some {cond:=[],res:=.int k (min n m)} else none
       |_,_=>none
     |.max,[x,y],_=>match ρ x,ρ y with
       |.int k n,.int k' m=>if k=k' then some {cond:=[],res:=.int k (max n m)} else none
       |_,_=>none
     |_,_,_=>none
   |.value f=>match ρ f,o.dst with
     |.fn (.func f) first aW,some d=>p0 E h (st.kb+d) f (first++(c.args.toList.map ρ)++aW)
     |.fn (.func f) first aW,none=>p0 E h st.kb f (first++(c.args.toList.map ρ)++aW)
     |_,_=>none
   |_=>none
 |_=>none
def ju(h:aQ):M (Nat×AB)->Bool
 |[]=>true
 |(k,_)::r=>(match h k with|none=>!(rl k)|some _=>false)&&ju h r
def nS(new:M (Nat×AB))(a:AV):AV:=match new with
 |[]=>a
 |(k,_)::r=>nS r (eH k a)
def bH(new:M (Nat×AB))(a:AB):AB:=match new with
 |[]=>a
 |(k,_)::r=>bH r (mM k a)
def al(l:M (Nat×AB))(k:Nat):Option AB:=match l with
 |[]=>none
 |(j,b)::r=>bif Nat.beq k j then some b else al r k
def ay(l:M Nat)(k:Nat):Bool:=match l with
 |[]=>false
 |j::r=>Nat.beq k j || ay r k
def xC(out:Out)(k:Nat)(b:AB):AB:=bif ay out.raw k then b else bH out.new b
def xD(h:aQ)(out:Out):aQ:=λk=>match al out.new k with
 |some b=>some b
 |none=>bif ay out.del k then none else match al out.gz k with
  |some b=>some (xC out k b)
  |none=>match h k with
   |some b=>some (bH out.new b)
   |none=>none
def St.put(st:St)(d:Option Nat)(out:Out):St:=
 {st with
  t:=match d with
   |some d=>λi=>bif Nat.beq i d then out.res else nS out.new (st.t i)
   |none=>λi=>nS out.new (st.t i)
  h:=xD st.h out
  cn:=out.gz.map (·.1)++(out.del++(out.new.map (·.1)++st.cn))
  news:=st.news++out.new.map λx=>.one x.1
  JJ:=out.del++st.JJ}
def JL:M Prop->Prop
 |[]=>True
 |[p]=>p
 |p::ps=>p/\JL ps
def dJ {α:Type}(R:M Value->α->Prop):M Value->M α->Prop
 |cs,[]=>cs=[]
 |cs,x::l=>∃c1 c2,cs=c1++c2/\R c1 x/\dJ R c2 l
mutual
def Rd(w:World)(A:Nat->Prop):(t:Ty)->Value->D t->Prop
 |.int k,v,x=>v= .int k (DI.toInt k x)/\lo k<=DI.toInt k x/\DI.toInt k x<=hi k
 |.bool,v,b=>v= .bool b
 |.str,v,s=>v= .string ⟨s.toArray⟩/\s.length<=maxLen
 |.slice row,v,l=>∃a cap cs,v= .slice a l.length cap/\l.length<=cap/\cap<=maxLen/\dJ (bx w A row) cs l/\
     (cs≠ []->∃b o,a=some ⟨b,o,none⟩/\A b/\w.rangeAt b o cs)
def bx(w:World)(A:Nat->Prop):(ts:M Ty)->M Value->Row ts->Prop
 |[],vs,_=>vs=[]
 |t::ts,vs,x=>∃v b7,vs=v::b7/\Rd w A t v (Row.hd x)/\bx w A ts b7 (Row.tl x)
end
mutual
def aa(w:World)(A:Nat->Prop)(β:Nat->Value):Value->AV->Prop
 |_,.cF=>True
 |v,.undef=>v=undef
 |v,.int k n=>v= .int k n/\lo k<=n/\n<=hi k
 |v,.bool b=>v= .bool b
 |v,.tt=>v= .bool true
 |v,.ff=>v= .bool false
 |v,.str s=>v= .string ⟨s.toArray⟩/\s.length<=maxLen
 |v,.nil=>v= .slice none 0 0
 |v,.lb=>v= .pointer none
 |v,.mi=>v= .nilFunc
 |v,.sl row l=>Rd w A (.slice row) v l
 |v,.full row l=>Rd w A (.slice row) v l/\∃a,v= .slice a l.length l.length
 |v,.cQ row x j=>∃b o cs,v= .pointer (some ⟨b,o+j,none⟩)/\A b/\w.rangeAt b o cs/\bx w A row cs x
 |v,.qW row l=>∃b o cs,v= .pointer (some ⟨b,o,none⟩)/\A b/\w.rangeAt b o cs/\dJ (bx w A row) cs l
 |v,.own k=>v=β k/\v.oneCell'=true
 |v,.pre k n=>(β k= .slice none 0 0/\v= .slice none 0 0/\n=0)\/
    ∃b m cap,β k= .slice (some ⟨b,0,none⟩) m cap/\v= .slice (some ⟨b,0,none⟩) n cap/\n<=m
 |v,.view k sz off n=>(n=0/\∃a cap,v= .slice a 0 cap/\cap<=maxLen)\/
    ∃b m cap j7,β k= .slice (some ⟨b,0,none⟩) m cap/\v= .slice (some ⟨b,off*sz,none⟩) n j7/\n<=j7/\off+j7<=cap/\off+n<=m
 |v,.ref k off=>∃b,β k= .pointer (some ⟨b,0,none⟩)/\v= .pointer (some ⟨b,off,none⟩)
 |v,.elem k sz i j=>∃b m cap,β k= .slice (some ⟨b,0,none⟩) m cap/\v= .pointer (some ⟨b,i*sz+j,none⟩)
 |v,.agg cs=>∃arr:Array Value,v= .agg arr/\ae w A β arr.toList cs
 |v,.bf vs=>∃arr:Array Value,v= .tuple arr/\ae w A β arr.toList vs
 |v,.pW _ l=>∃b,v= .bool b/\(b=true->l=[])
 |v,.fn f first aW=>∃a1 a2:Array Value,v= .func f a1 a2/\ae w A β a1.toList first/\ae w A β a2.toList aW
 |v,.iz ks cs=>∃(b:Nat) (es:Array MapEntry) (clock:Nat),v= .map (some b)/\A b/\(∃yD,w.heap[b]? =some (.map yD clock)/\yD.toList.Perm es.toList)/\es.toList.map (·.key)=ks.map (Value.int .i64)/\ae w A β (es.toList.map (·.val)) cs
def ae(w:World)(A:Nat->Prop)(β:Nat->Value):M Value->M AV->Prop
 |vs,[]=>vs=[]
 |vs,a::as_=>∃v b7,vs=v::b7/\aa w A β v a/\ae w A β b7 as_
end
def ai:Value->Option Nat
 |.pointer (some a)=>some a.block
 |.slice (some a) _ _=>some a.block
 |_=>none
def cg(w w':World)(A A':Nat->Prop):Prop:=∀b,A b->A' b/\w'.heap[b]? =w.heap[b]?
def cV(P:Program)(f:FuncId):Prop:=∀(args:Array Value) (w:World),(callFunc f args).run P w= .ok (.enter f args) w
def aaY(P:Program)(f g:FuncId):Prop:=cV P f/\∀(w:World) (y:FuncId) (p:Value),Calls P f #[.func (.func y) #[] #[],p] w λe w'=>∃ty,e= .returned (.func (.func g) #[] #[p,.pointer (some ⟨w.heap.size,0,none⟩)])/\w'=w.alloc (.cells #[.func (.func y) #[] #[]] ty)
class HP where
 is:Program->Prop
 nx:Nat->Option Nat
 S8:∀P,is P->∀f g,nx f=some g->aaY P f g
end Go.Vg
namespace Go.Vg
open Go
variable [HP]
def pa(w:World)(S:Nat->Prop)(e:Nat):M Value->M U->Prop
 |[],[]=>True
 |v::vs,x::l=>w.ownsRow 0 e 1 v x.length (x.map (Value.int .i64))/\(∀n∈x,lo .i64<=n/\n<=hi .i64)/\(∀b,ai v=some b->S b/\∀u∈vs,ai u≠some b)/\pa w S e vs l
 |_,_=>False
def HB(w:World)(S:Nat->Prop)(p:Value):Z->Prop
 |.n=>True
 |.s t=>∃b e,p= .pointer (some ⟨b,0,none⟩)/\w.heap[b]? =some (.cells #[.string ⟨t.toArray⟩] e (0,0))/\t.length<=maxLen/\S b
 |.g e ei l=>∃b e0 v xs,p= .pointer (some ⟨b,0,none⟩)/\w.heap[b]? =some (.cells #[v] e0 (0,0))/\S b/\v.oneCell'=true/\w.ownsRow 0 e 1 v l.length xs/\
     (∀g,ai v=some g->S g/\g≠b/\∀u∈xs,ai u≠some g)/\(∀u∈xs,ai u≠some b)/\pa w S ei xs l
def aye(w:World)(p v:Value):Prop:=∃b e,p= .pointer (some ⟨b,0,none⟩)/\w.heap[b]? =some (.cells #[v] e (0,0))
def ZR(w:World)(p:Value)(w':World):Z->Z->Prop
 |.n,.n=>True
 |.s _,.s _=>True
 |.g e ei _,.g e' ei' _=>e=e'/\ei=ei'/\∀v,aye w p v->aye w' p v
 |_,_=>False
structure sV (w:World) (A S:Nat->Prop) (z:Z) (w':World) (A' S':Nat->Prop) (p v:Value) (r:AV×Z):Prop where
 kin:ZR w p w' z r.2
 os:w'.os=w.os
 tape:w'.tape=w.tape
 output:w'.output=w.output
 size:w.heap.size<=w'.heap.size
 same:∀b,b<w.heap.size->¬S b->w'.heap[b]? =w.heap[b]?
 mono:∀b,A b->A' b
 iP:∀b,b<w.heap.size->A' b->A b
 bound:∀b,A' b->b<w'.heap.size
 Ml:∀b,S' b->(S b\/w.heap.size<=b)/\¬A' b/\b<w'.heap.size
 res:∀β,aa w' A' β v r.1
 hb:HB w' S' p r.2
def JM(w:World)(A:Nat->Prop)(p v:Value)(F:CF):Prop:=
 v.oneCell'=true/\∃f a2,v= .func (.func f) #[] a2/\∀P,HP.is P->cV P f/\∀w' A' z S,cg w w' A A'->(∀b,A' b->b<w'.heap.size)->(∀b,S b->¬A' b/\b<w'.heap.size)->HB w' S p z->(F z).1->
  Calls P f a2 w' λe Qk=>∃v',e= .returned v'/\∃A'' S',sV w' A' S z Qk A'' S' p v' (F z).2
def tS(w:World)(A:Nat->Prop)(p:Value):M Value->M CF->Prop
 |[],[]=>True
 |v::vs,F::l=>JM w A p v F/\tS w A p vs l
 |_,_=>False
variable {A A' A1:Nat->Prop}{v vi vx z v' vp:Value}{w w':World}{cs xs:List Value}{o j n off sz e b cap bytes dCap:Nat}{β az pU:Nat->Value}{ab:AB}{a:Act}{d dst:Option Nat}{K:Act->World->Prop}{P:Program}{Q:Exit->Act->World->Prop}{st:St}{c l:List Prop}{r x res:AV}{T:b9}{t s t' ty:TypeId}{te:TE}{i:TypeInfo}{α:Type}{out:Out}{fr:Bool}{arr:Array Value}{m:Int}{op:BinOp}{y:Operand}{es yD:List MapEntry}{vh vl:Option Value}{row:List Ty}{h:aQ}{u:B8}{fz:List Nat}{E:Env}
theorem JM.mono{p:Value}{F:CF}(hK:cg w w' A A')(h:JM w A p v F):JM w' A' p v F:=by
 obtain⟨h0,f,a2,h1,h2⟩:=h;exact⟨h0,f,a2,h1,λP hP=>⟨(h2 P hP).1,λw2 A2 z S Ql=>(h2 P hP).2 w2 A2 z S λb hb=>⟨(Ql b (hK b hb).1).1,(Ql b (hK b hb).1).2.trans (hK b hb).2⟩⟩⟩
theorem tS.mono {w w':World}{A A':Nat->Prop}{p:Value}(hK:cg w w' A A'):∀ {xs:M Value} {l:M CF},tS w A p xs l->tS w' A' p xs l
 |[],[],_=>trivial
 |_::_,_::_,h=>⟨h.1.mono hK,tS.mono hK h.2⟩
def BR(w:World)(A:Nat->Prop)(β:Nat->Value)(k:Nat):AB->Prop
 |.cells cs=>∃b arr e,β k= .pointer (some ⟨b,0,none⟩)/\w.heap[b]? =some (.cells arr e (0,0))/\¬A b/\
     ae w A β arr.toList cs/\∀v∈arr.toList,v.oneCell'=true
 |.row e row l fr=>∃xs,w.ownsRow 0 e row.length (β k) l.length xs/\dJ (bx w A row) xs l/\
     ∀b,ai (β k)=some b->if fr then A b else ¬A b
 |.arr row l=>∃b arr e,β k= .pointer (some ⟨b,0,none⟩)/\w.heap[b]? =some (.cells arr e (0,0))/\¬A b/\dJ (bx w A row) arr.toList l
 |.iu e j row l i=>∃xs v0,w.ownsRow 0 e row.length (β k) l.length xs/\(∀b,ai (β k)=some b->¬A b)/\dJ (bx w A row) (xs.set (i*row.length+(row.length-1)) v0) l/\
     ∀j',j=some j'->xs[i*row.length+(row.length-1)]? =some (β j')
 |.views e j n m sz=>∃xs,w.ownsRow 0 e 1 (β k) n xs/\(∀b,ai (β k)=some b->¬A b)/\
     ∀j',j=some j'->∀i,i<m->∃v,xs[i]? =some v/\aa w A β v (.view j' 1 (i*sz) sz)
 |.fo e j l=>∃xs,w.ownsRow 0 e 1 (β k) l.length xs/\(∀b,ai (β k)=some b->¬A b)/\∀p,(∀j',j=some j'->p=β j')->tS w A p xs l
 |.eF e j xs i=>∃ys,w.ownsRow 0 e 1 (β k) xs.length ys/\(∀b,ai (β k)=some b->¬A b)/\(∀m,m≠i->ys[m]? =xs[m]?)/\∀j',j=some j'->ys[i]? =some (β j')/\(β j').oneCell'=true
 |.fvar row x=>∃b arr e,β k= .pointer (some ⟨b,0,none⟩)/\w.heap[b]? =some (.cells arr e (0,0))/\A b/\bx w A row arr.toList x
 |.bc e sz n cs=>∃xs,w.ownsRow 0 e sz (β k) n xs/\(∀b,ai (β k)=some b->¬A b)/\∀az,ae w A az xs cs
 |.mp b es ck=>β k= .pointer (some ⟨b,0,none⟩)/\w.heap[b]? =some (.map es ck)/\¬A b
def oB(w:World)(A:Nat->Prop)(i:Nat)(d:GD):Prop:=A i/\∃cs,w.rangeAt i 0 cs/\dJ (bx w A d.row) cs d.l
structure Ctx where
 w0:World
 A0:Nat->Prop
 M0:Nat->Prop
 G:Nat->Option GD
 F0:Nat->Value
structure Fr (C:Ctx) (w:World):Prop where
 os:w.os=C.w0.os
 tape:w.tape=C.w0.tape
 output:w.output=C.w0.output
 size:C.w0.heap.size<=w.heap.size
 block:∀b,b<C.w0.heap.size->¬C.M0 b->w.heap[b]? =C.w0.heap[b]?
structure aw (C:Ctx) (A:Nat->Prop) (β:Nat->Value) (st:St) (a:Act) (w:World):Prop where
 defers:a.defers=[]
 size:a.tmps.size=st.n
 tmps:∀i,aa w A β (a.tmps.getD i undef) (st.t i)
 blocks:∀k ab,st.h k=some ab->BR w A β k ab
 apart:∀k k' b,(st.h k).isSome->(st.h k').isSome->ai (β k)=some b->ai (β k')=some b->k=k'
 bound:∀b,A b->b<w.heap.size
 frame:Fr C w
 iP:∀b,b<C.w0.heap.size->A b->C.A0 b\/C.M0 b
 base:∀b,C.A0 b->A b
 mO:∀k b,(st.h k).isSome->ai (β k)=some b->C.w0.heap.size<=b\/C.M0 b
 pj:∀i d,st.g i=some d->C.G i=some d
 laid:∀i d,C.G i=some d->oB w A i d
 held:∀k,rl k=true->β k=C.F0 k
def Rel(C:Ctx)(st:St)(a:Act)(w:World):Prop:=∃A β,aw C A β st a w
def rS {w:World}{b:Nat}(h:w'.heap[b]? =w.heap[b]?)(hr:w.rangeAt b o cs):w'.rangeAt b o cs:=by
 intro j v hj;have:=hr j v hj;grind[World.cell?_of_block]
theorem br {α:Type}{R R':M Value->α->Prop}(h:∀c x,R c x->R' c x):∀(l:M α) (cs:M Value),dJ R cs l->dJ R' cs l
 |[],_,hr=>hr
 |_::l,_,⟨c1,c2,hc,h1,h2⟩=>⟨c1,c2,hc,h _ _ h1,br h l c2 h2⟩
mutual
theorem F3 {w w':World}{A A':Nat->Prop}(h:cg w w' A A'):∀(t:Ty) (v:Value) (x:D t),Rd w A t v x->Rd w' A' t v x
 |.int _,_,_,hr|.bool,_,_,hr|.str,_,_,hr=>by simpa only [Rd] using hr
 |.slice row,v,l,hr=>by
   simp only [Rd] at hr |-;obtain⟨a,cap,cs,h1,h2,h3,h4,h5⟩:=hr;refine⟨a,cap,cs,h1,h2,h3,br (λc x hx=>bz h row c x hx) l cs h4,λfh=>?_⟩;obtain⟨b,o,ha,hA,pD⟩:=h5 fh;exact⟨b,o,ha,(h b hA).1,rS (h b hA).2 pD⟩
theorem bz {w w':World}{A A':Nat->Prop}(h:cg w w' A A'):∀(ts:M Ty) (vs:M Value) (x:Row ts),bx w A ts vs x->bx w' A' ts vs x
 |[],_,_,hr=>by simpa only [bx] using hr
 |t::ts,vs,x,hr=>by
  simp only [bx] at hr |-;obtain⟨v,b7,h1,h2,h3⟩:=hr;exact⟨v,b7,h1,F3 h t v _ h2,bz h ts b7 _ h3⟩
end
theorem oB.mono{i:Nat}{d:GD}(hd:oB w A i d)(h:cg w w' A A'):oB w' A' i d:=by
 obtain⟨h1,cs,h2,h3⟩:=hd;exact⟨(h i h1).1,cs,rS (h i h1).2 h2,br (λc x hx=>bz h _ _ _ hx) _ _ h3⟩
def VO(v:Value):aa w A β v .cF:=by simp [aa]
mutual
theorem jf {w w':World}{A A':Nat->Prop}{β:Nat->Value}(h:cg w w' A A'):∀(a:AV) (v:Value),aa w A β v a->aa w' A' β v a
 |.cF,_,hr=>by simp [aa]
 |.undef,_,hr|.int _ _,_,hr|.bool _,_,hr|.tt,_,hr|.ff,_,hr|.str _,_,hr|.nil,_,hr|.lb,_,hr|.pW _ _,_,hr|.mi,_,hr=>by simpa only [aa] using hr
 |.sl row l,v,hr=>by
   simp only [aa] at hr |-;exact F3 h _ _ _ hr
 |.full row l,v,hr=>by
   simp only [aa] at hr |-;exact⟨F3 h _ _ _ hr.1,hr.2⟩
 |.cQ row x j,v,hr=>by
   simp only [aa] at hr |-;obtain⟨b,o,cs,h1,h2,h3,h4⟩:=hr;exact⟨b,o,cs,h1,(h b h2).1,rS (h b h2).2 h3,bz h _ _ _ h4⟩
 |.qW row l,v,hr=>by
   simp only [aa] at hr |-;obtain⟨b,o,cs,h1,h2,h3,h4⟩:=hr;exact⟨b,o,cs,h1,(h b h2).1,rS (h b h2).2 h3,br (λc x hx=>bz h _ _ _ hx) _ _ h4⟩
 |.own _,_,hr|.pre _ _,_,hr|.view _ _ _ _,_,hr|.ref _ _,_,hr|.elem _ _ _ _,_,hr=>by simpa only [aa] using hr
 |.agg cs,v,hr=>by
   simp only [aa] at hr |-;obtain⟨arr,h1,h2⟩:=hr;exact⟨arr,h1,cJ h cs _ h2⟩
 |.bf cs,v,hr=>by
   simp only [aa] at hr |-;obtain⟨arr,h1,h2⟩:=hr;exact⟨arr,h1,cJ h cs _ h2⟩
 |.fn f first aW,v,hr=>by
   simp only [aa] at hr |-;obtain⟨a1,a2,h1,h2,h3⟩:=hr;exact⟨a1,a2,h1,cJ h first _ h2,cJ h aW _ h3⟩
 |.iz ks cs,v,hr=>by
   simp only [aa] at hr |-;obtain⟨b,es,ck,h1,h2,h3,h4,h5⟩:=hr;exact⟨b,es,ck,h1,(h b h2).1,by rw [(h b h2).2];exact h3,h4,cJ h cs _ h5⟩
theorem cJ {w w':World}{A A':Nat->Prop}{β:Nat->Value}(h:cg w w' A A'):∀(as_:M AV) (vs:M Value),ae w A β vs as_->ae w' A' β vs as_
 |[],_,hr=>by simpa only [ae] using hr
 |a::as_,vs,hr=>by
  simp only [ae] at hr |-;obtain⟨v,b7,h1,h2,h3⟩:=hr;exact⟨v,b7,h1,jf h a v h2,cJ h as_ b7 h3⟩
end
theorem aP {k d:Nat}(h:¬k=d):Nat.beq k d=false:=by
 grind[Nat.eq_of_beq_eq_true]
theorem cT(k:Nat):Nat.beq k k=true:=Nat.beq_refl k
def bl(β:Nat->Value)(d:Nat)(v:Value):Nat->Value:=λk=>if k=d then v else β k
mutual
theorem yE {w:World}{A:Nat->Prop}{β:Nat->Value}(d:Nat)(u:Value):∀(a:AV) (v:Value),aa w A β v a->aa w A (bl β d u) v (eH d a)
 |.cF,_,hr=>by simp [eH,aa]
 |.undef,_,hr|.int _ _,_,hr|.bool _,_,hr|.tt,_,hr|.ff,_,hr|.str _,_,hr|.nil,_,hr|.lb,_,hr|.pW _ _,_,hr|.mi,_,hr|.sl _ _,_,hr|.full _ _,_,hr|.cQ _ _ _,_,hr|.qW _ _,_,hr=>by simpa only [eH,aa] using hr
 |.own k,v,hr=>by
   simp only [eH];by_cases hk:k=d
   . subst hk;simp [aa]
   . have :Nat.beq k d=false:=aP hk;simp only [this,O!];simpa only [aa,bl,J! hk] using hr
 |.pre k n,v,hr=>by
   simp only [eH];by_cases hk:k=d
   . subst hk;simp [aa]
   . have :Nat.beq k d=false:=aP hk;simp only [this,O!];simpa only [aa,bl,J! hk] using hr
 |.view k sz off n,v,hr=>by
   simp only [eH];by_cases hk:k=d
   . subst hk;simp [aa]
   . have :Nat.beq k d=false:=aP hk;simp only [this,O!];simpa only [aa,bl,J! hk] using hr
 |.ref k off,v,hr=>by
   simp only [eH];by_cases hk:k=d
   . subst hk;simp [aa]
   . have :Nat.beq k d=false:=aP hk;simp only [this,O!];simpa only [aa,bl,J! hk] using hr
 |.elem k sz i j,v,hr=>by
   simp only [eH];by_cases hk:k=d
   . subst hk;simp [aa]
   . have :Nat.beq k d=false:=aP hk;simp only [this,O!];simpa only [aa,bl,J! hk] using hr
 |.agg cs,v,hr=>by
   simp only [eH,aa] at hr |-;obtain⟨arr,h1,h2⟩:=hr;exact⟨arr,h1,jg d u cs _ h2⟩
 |.bf cs,v,hr=>by
   simp only [eH,aa] at hr |-;obtain⟨arr,h1,h2⟩:=hr;exact⟨arr,h1,jg d u cs _ h2⟩
 |.fn f first aW,v,hr=>by
   simp only [eH,aa] at hr |-;obtain⟨a1,a2,h1,h2,h3⟩:=hr;exact⟨a1,a2,h1,jg d u first _ h2,jg d u aW _ h3⟩
 |.iz ks cs,v,hr=>by
   simp only [eH,aa] at hr |-;obtain⟨b,es,ck,h1,h2,h3,h4,h5⟩:=hr;exact⟨b,es,ck,h1,h2,h3,h4,jg d u cs _ h5⟩
theorem jg {w:World}{A:Nat->Prop}{β:Nat->Value}(d:Nat)(u:Value):∀(as_:M AV) (vs:M Value),ae w A β vs as_->ae w A (bl β d u) vs (gx d as_)
 |[],_,hr=>by simpa only [gx,ae] using hr
 |a::as_,vs,hr=>by
  simp only [gx,ae] at hr |-;obtain⟨v,b7,h1,h2,h3⟩:=hr;exact⟨v,b7,h1,yE d u a v h2,jg d u as_ b7 h3⟩
end
theorem Y8(h:∀k,az k=β k){a:AV}(hr:aa w A β v a):aa w A az v a:=by
 simp_all[funext]
def Dy {w:World}{A:Nat->Prop}:∀(new:M (Nat×AB)) (β az:Nat->Value) (v:Value) (a:AV),(∀k,al new k=none->az k=β k)->aa w A β v a->aa w A az v (nS new a)
 |[],β,az,v,a,h,hr=>by
   grind[nS,Y8,al]
 |(d,b)::r,β,az,v,a,h,hr=>by
  refine Dy r (bl β d (az d)) az v (eH d a) (λk hk=>?_) (yE d (az d) a v hr);by_cases hkd:k=d
  . grind[bl]
  simp_all[bl,J!,al,aP,O!]
def Ao(new:M (Nat×AB))(cs:M AV):M AV:=match new with
 |[]=>cs
 |(k,_)::r=>Ao r (gx k cs)
def Ap {w:World}{A:Nat->Prop}:∀(new:M (Nat×AB)) (β az:Nat->Value) (vs:M Value) (as_:M AV),(∀k,al new k=none->az k=β k)->ae w A β vs as_->ae w A az vs (Ao new as_)
 |[],β,az,v,a,h,hr=>by
   simp_all[Ao,funext,al]
 |(d,b)::r,β,az,v,a,h,hr=>by
  refine Ap r (bl β d (az d)) az v (gx d a) (λk hk=>?_) (jg d (az d) a v hr);by_cases hkd:k=d
  . grind[bl]
  simp_all[bl,J!,al,aP,O!]
def Aq:∀(new:M (Nat×AB)) (cs:M AV),bH new (.cells cs)= .cells (Ao new cs)
 |[],_=>rfl
 |(k,_)::r,cs=>by simp [bH,mM,Ao,Aq r]
theorem nT:∀(new:M (Nat×AB)) (e:Nat) (row:M Ty) (l:M (Row row)) (fr:Bool),bH new (.row e row l fr)= .row e row l fr
 |[],_,_,_,_=>rfl
 |(k,_)::r,e,row,l,fr=>by simp [bH,mM,nT r]
def F4:∀(new:M (Nat×AB)) (row:M Ty) (l:M (Row row)),bH new (.arr row l)= .arr row l
 |[],_,_=>rfl
 |(k,_)::r,row,l=>by simp [bH,mM,F4 r]
def oL(new:M (Nat×AB))(j:Option Nat):Option Nat:=match new with
 |[]=>j
 |(k,_)::r=>oL r (rQ k j)
theorem tT:∀(new:M (Nat×AB)) (e:Nat) (j:Option Nat) (n m sz:Nat),bH new (.views e j n m sz)= .views e (oL new j) n m sz
 |[],_,_,_,_,_=>rfl
 |(k,_)::r,e,j,n,m,sz=>by simp [bH,mM,oL,tT r]
theorem F5:∀(new:M (Nat×AB)) (e:Nat) (j:Option Nat) (row:M Ty) (l:M (Row row)) (i:Nat),bH new (.iu e j row l i)= .iu e (oL new j) row l i
 |[],_,_,_,_,_=>rfl
 |(k,_)::r,e,j,row,l,i=>by simp [bH,mM,oL,F5 r]
def F6:∀(new:M (Nat×AB)) (e sz n:Nat) (cs:M AV),bH new (.bc e sz n cs)= .bc e sz n cs
 |[],_,_,_,_=>rfl
 |_::r,e,sz,n,cs=>F6 r e sz n cs
def Dz:∀(new:M (Nat×AB)) (e:Nat) (j:Option Nat) (xs:M Value) (i:Nat),bH new (.eF e j xs i)= .eF e (oL new j) xs i
 |[],_,_,_,_=>rfl
 |(d,_)::r,e,j,xs,i=>Dz r e (rQ d j) xs i
def DA:∀(new:M (Nat×AB)) (row:M Ty) (x:Row row),bH new (.fvar row x)= .fvar row x
 |[],_,_=>rfl
 |_::r,row,x=>DA r row x
def JN:∀(new:M (Nat×AB)) (b:Nat) (es:Array MapEntry) (ck:Nat),bH new (.mp b es ck)= .mp b es ck
 |[],_,_,_=>rfl
 |_::r,b,es,ck=>JN r b es ck
def Ar:∀(new:M (Nat×AB)) (e:Nat) (l:M CF),bH new (.fo e none l)= .fo e none l
 |[],_,_=>rfl
 |_::r,e,l=>Ar r e l
theorem rT:∀(new:M (Nat×AB)),oL new none=none
 |[]=>rfl
 |(k,_)::r=>by simp [oL,rQ,rT r]
theorem rU:∀(new:M (Nat×AB)) (j:Option Nat) (j':Nat),oL new j=some j'->j=some j'/\al new j'=none
 |[],j,j',h=>⟨h,rfl⟩
 |(k,_)::r,none,j',h=>by grind[rT]
 |(k,_)::r,some i,j',h=>by
  simp [oL,rQ] at h;cases hb:Nat.beq i k with
  |true=>simp_all[L!,rT]
  |false=>
   rw [hb] at h;obtain⟨h1,h2⟩:=rU r (some i) j' h;simp at h1;subst h1;exact⟨rfl,by simp_all[al,O!]⟩
def DB:∀(new:M (Nat×AB)) (e j:Nat) (l:M CF),(bH new (.fo e (some j) l)= .fo e (some j) l/\al new j=none)\/bH new (.fo e (some j) l)= .views e none l.length 0 0
 |[],_,_,_=>.inl ⟨rfl,rfl⟩
 |(d,b)::r,e,j,l=>by
  cases h:Nat.beq j d with
  |true=>exact .inr (by simp only [bH,mM,yy,h,L!,tT,rT])
  |false=>
   simp only [bH,mM,yy,al,h,O!];exact DB r e j l
theorem As(h:az j=β j)(hr:aa w A β v (.view j sz off n)):aa w' A' az v (.view j sz off n):=by
 grind[aa]
theorem c9{size:Nat}(h:w.ownsRow 0 e size v n xs)(hb:∀b,ai v=some b->w'.heap[b]? =w.heap[b]?):w'.ownsRow 0 e size v n xs:=by
 refine⟨h.1,?_⟩;rcases h.2 with hn|⟨g,cap,cur,rfl,h0,hg,rest⟩
 . grind
 . refine .inr ⟨g,cap,cur,rfl,h0,?_,rest⟩;rw [hb g rfl];omega
def xE {w w':World}{A A':Nat->Prop}{β:Nat->Value}{new:M (Nat×AB)}{k:Nat}(bJ:∀k,al new k=none->az k=β k)(hk:az k=β k)
  (hblk:∀b,ai (β k)=some b->w'.heap[b]? =w.heap[b]? /\(A' b->A b)) (hK:cg w w' A A') (h:BR w A β k ab):BR w' A' az k (bH new ab):=by
 cases ab with
 |cells cs=>
  rw [Aq];obtain⟨b,arr,e,h1,h2,h3,h4,h5⟩:=h;have hb:=hblk b (by rw [h1];rfl);exact⟨b,arr,e,hk.trans h1,hb.1.trans h2,λhA=>h3 (hb.2 hA),Ap new β az _ _ bJ (cJ hK _ _ h4),h5⟩
 |row e row l fr=>
  rw [nT];obtain⟨xs,h1,h2,h3⟩:=h;simp [BR,hk];refine⟨xs,c9 h1 (λb hb=>(hblk b hb).1),br (λc x hx=>bz hK row c x hx) l xs h2,λb hb=>?_⟩;have:=h3 b hb;cases fr with
  |true=>exact(hK b this).1
  |false=>grind
 |arr row l=>
  rw [F4];obtain⟨b,arr,e,h1,h2,h3,h4⟩:=h;have hb:=hblk b (by rw [h1];rfl);exact⟨b,arr,e,hk.trans h1,hb.1.trans h2,λhA=>h3 (hb.2 hA),br (λc x hx=>bz hK row c x hx) l _ h4⟩
 |views e j n m sz=>
  rw [tT];obtain⟨xs,h1,h2,h3⟩:=h;simp [BR,hk];refine⟨xs,c9 h1 (λb hb=>(hblk b hb).1),λb hb hA=>h2 b hb ((hblk b hb).2 hA),λj' gn i hi=>?_⟩;obtain⟨hj,fp⟩:=rU new j j' gn;grind[As]
 |iu e j row l i=>
  grind[F5,BR,c9,br,bz,rU]
 |mp b es ck=>
  rw [JN];obtain⟨h1,h2,h3⟩:=h;have hb:=hblk b (by rw [h1];rfl);exact⟨hk.trans h1,hb.1.trans h2,λhA=>h3 (hb.2 hA)⟩
 |fvar row x=>
  rw [DA];obtain⟨b,arr,e,h1,h2,h3,h4⟩:=h;exact⟨b,arr,e,hk.trans h1,(hblk b (by rw [h1];rfl)).1.trans h2,(hK b h3).1,bz hK _ _ _ h4⟩
 |eF e j xs i=>
  rw [Dz];obtain⟨ys,h1,h2,h3,h4⟩:=h;simp only [BR,hk];refine⟨ys,c9 h1 (λb hb=>(hblk b hb).1),λb hb hA=>h2 b hb ((hblk b hb).2 hA),h3,λj' gn=>?_⟩;obtain⟨hj,hn⟩:=rU new j j' gn;rw [bJ j' hn];exact h4 j' hj
 |bc e sz n cs=>
  rw [F6];obtain⟨xs,h1,h2,h3⟩:=h;simp only [BR,hk];exact⟨xs,c9 h1 (λb hb=>(hblk b hb).1),λb hb hA=>h2 b hb ((hblk b hb).2 hA),λfa=>cJ hK _ _ (h3 fa)⟩
 |fo e j l=>
  obtain⟨xs,h1,h2,h3⟩:=h;have g1:=c9 h1 (λb hb=>(hblk b hb).1);have g2:∀b,ai (β k)=some b->¬A' b:=λb hb hA=>h2 b hb ((hblk b hb).2 hA);cases j with
  |none=>
   rw [Ar];simp only [BR,hk];exact⟨xs,g1,g2,λp hp=>(h3 p (λ_ h=>by cases h)).mono hK⟩
  |some j=>
   rcases DB new e j l with⟨h,h'⟩|h<;>rw [h]<;>simp only [BR,hk]
   . exact⟨xs,g1,g2,λp hp=>(h3 p (λj' hj=>(hp j' hj).trans (by cases hj;exact bJ j h'))).mono hK⟩
   . exact⟨xs,g1,g2,λ_ h=>by cases h⟩
def oM(st:St)(out:Out)(k:Nat):Prop:=(st.h k).isSome/\((al out.gz k).isSome\/ay out.del k=true)
variable {C:Ctx}
def aw.ah{β az:Nat->Value}{st:St}{w w':World}{out:Out}
  (hB:aw C A β st a w) (hd:∀t,d=some t->t<st.n)
  (H9:∀k b,al out.new k=some b->st.h k=none/\rl k=false)
  (Ia:∀k b,al out.gz k=some b->(st.h k).isSome)
  (bJ:∀k,al out.new k=none->az k=β k)
  (hK:cg w w' A A')
  (hos:w'.os=w.os) (Y9:w'.tape=w.tape) (vG:w'.output=w.output) (oC:w.heap.size<=w'.heap.size)
  (Au:∀b,b<w.heap.size->(∀k,oM st out k->ai (β k)≠some b)->w'.heap[b]? =w.heap[b]?)
  (hbound:∀b,A' b->b<w'.heap.size)
  (hA:∀b,A' b->A b\/w.heap.size<=b\/∃k,oM st out k/\ai (β k)=some b)
  (Mm:∀k ab,al out.gz k=some ab->ay out.del k=false->BR w' A' az k (xC out k ab))
  (fp:∀k ab,al out.new k=some ab->BR w' A' az k ab)
  (Av:∀k b ab,al out.new k=some ab->ai (az k)=some b->w.heap.size<=b\/∃k0,ay out.del k0=true/\(st.h k0).isSome/\ai (β k0)=some b)
  (En:∀k k' b,(al out.new k).isSome->(al out.new k').isSome->ai (az k)=some b->ai (az k')=some b->k=k')
  (xF:aa w' A' az v out.res):aw C A' az (st.put d out) (a.put d v) w':=by
 have jU:∀k b,(st.h k).isSome->ai (β k)=some b->b<w.heap.size:=by
  intro k b hk hb;obtain⟨ab,lQ⟩:=R!.1 hk;have fi:=hB.blocks k ab lQ;cases ab with
  |mp b' es ck=>
   obtain⟨h1,h2,_⟩:=fi;grind[ai,Option.some.injEq,Array.getElem?_eq_some_iff]
  |arr _ _|fvar _ _=>
   obtain⟨b',arr,e,h1,h2,_⟩:=fi;grind[ai,Option.some.injEq,Array.getElem?_eq_some_iff]
  |cells cs=>
   obtain⟨b',arr,e,h1,h2,_⟩:=fi;grind[ai,Option.some.injEq,Array.getElem?_eq_some_iff]
  |row e row l fr=>
   obtain⟨xs,h1,_⟩:=fi;rcases h1.2 with⟨hn,_⟩|⟨g,cap,cur,hv,_,hg,_⟩
   . grind[ai]
   grind[ai,Option.some.injEq,Array.getElem?_eq_some_iff]
  |iu e j row l i=>
   obtain⟨xs,v0,h1,_⟩:=fi;rcases h1.2 with⟨hn,_⟩|⟨g,cap,cur,hv,_,hg,_⟩
   . rw [hn] at hb;simp [ai] at hb
   . rw [hv] at hb;simp only [ai,A!] at hb;subst hb;exact(Q!.1 hg).1
  |views _ _ _ _ _|fo _ _ _|bc _ _ _ _|eF _ _ _ _=>
   obtain⟨xs,h1,_⟩:=fi;rcases h1.2 with⟨hn,_⟩|⟨g,cap,cur,hv,_,hg,_⟩
   . rw [hn] at hb;simp [ai] at hb
   . rw [hv] at hb;simp only [ai,A!] at hb;subst hb;exact(Q!.1 hg).1
 have ai8:∀k Df,(st.put d out).h k=some Df->(∃ab,al out.new k=some ab/\ab=Df)\/(al out.new k=none/\ay out.del k=false/\
   ((∃ab,al out.gz k=some ab/\Df=xC out k ab)\/(al out.gz k=none/\∃ab,st.h k=some ab/\Df=bH out.new ab))):=by
  intro k Df hk;simp only [St.put,xD] at hk;cases hn:al out.new k with
  |some ab=>simp only [hn,A!] at hk;exact .inl ⟨ab,rfl,hk⟩
  |none=>
   simp only [hn] at hk;cases ayf:ay out.del k with
   |true=>simp [ayf] at hk
   |false=>
    simp only [ayf,O!] at hk;cases hu:al out.gz k with
    |some ab=>simp only [hu,A!] at hk;exact .inr ⟨rfl,rfl,.inl ⟨ab,rfl,hk.symm⟩⟩
    |none=>
     simp only [hu] at hk;cases hs:st.h k with
     |none=>simp [hs] at hk
     |some ab=>simp only [hs,A!] at hk;exact .inr ⟨rfl,rfl,.inr ⟨rfl,ab,rfl,hk.symm⟩⟩
 have fH:∀k,((st.put d out).h k).isSome->(al out.new k).isSome\/(al out.new k=none/\ay out.del k=false/\(st.h k).isSome):=by
  intro k hk;obtain⟨Df,aFB⟩:=R!.1 hk;rcases ai8 k Df aFB with⟨ab,h,_⟩|⟨h1,h2,⟨ab,h,_⟩|⟨_,ab,h,_⟩⟩
  . exact .inl (by simp [h])
  . exact .inr ⟨h1,h2,Ia k ab h⟩
  . exact .inr ⟨h1,h2,by simp [h]⟩
 have ayg:∀v a,aa w A β v a->aa w' A' az v (nS out.new a):=λv a h=>Dy out.new β az v a bJ (jf hK a v h)
 refine⟨?_,?_,?_,?_,?_,hbound,?_,?_,?_,?_,hB.pj,λi d hd=>(hB.laid i d hd).mono hK,λk hk=>by
  rw [bJ k (by
   cases hn:al out.new k with
   |none=>rfl
   |some ab=>rw [(H9 k ab hn).2] at hk;cases hk)]
  exact hB.held k hk⟩
 . cases d<;>exact hB.defers
 . cases d with
   |none=>exact hB.size
   |some t=>show(a.put (some t) v).tmps.size=st.n;simp [Act.put,hB.size]
 . intro i;cases d with
   |none=>exact ayg _ _ (hB.tmps i)
   |some t=>
    have ht:=hd t rfl;simp only [St.put,Act.put];by_cases hi:i=t
    . subst hi;simp only [cT,L!];rw [A?,Array.getElem?_setIfInBounds_self_of_lt (by rw [hB.size];exact ht)];exact xF
    . simp only [aP hi,O!];have:=ayg _ _ (hB.tmps i);rw [A?,Array.getElem?_setIfInBounds_ne (λh=>hi h.symm),<-A?];exact this
 . intro k Df hk;rcases ai8 k Df hk with⟨ab,h,rfl⟩|⟨h1,h2,⟨ab,h,rfl⟩|⟨h3,ab,h,rfl⟩⟩
   . exact fp k _ h
   . exact Mm k ab h h2
   . have S9:=hB.blocks k ab h;refine xE bJ (bJ k h1) (λb hb=>?_) hK S9
     have hnt:∀k',oM st out k'->ai (β k')≠some b:=by
      intro k' ht fb;have :k'=k:=hB.apart k' k b ht.1 (by simp [h]) fb hb;subst this;rcases ht.2 with hu|hu
      . simp [h3] at hu
      . simp [h2] at hu
     refine⟨Au b (jU k b (by simp [h]) hb) hnt,λMn=>?_⟩;rcases hA b Mn with hh|hh|⟨k',ht,fb⟩
     . exact hh
     . exact absurd (jU k b (by simp [h]) hb) w!
     . exact absurd fb (hnt k' ht)
 . intro k k' b hk fj hb fb;rcases fH k hk with h1|⟨h1,h2,h3⟩<;>rcases fH k' fj with g1|⟨g1,g2,g3⟩
   . exact En k k' b h1 g1 hb fb
   . obtain⟨ab,lQ⟩:=R!.1 h1;rw [bJ k' g1] at fb;rcases Av k b ab lQ hb with hh|⟨k0,hd0,Ta,Eo⟩
     . exact absurd (jU k' b g3 fb) w!
     . have :k0=k':=hB.apart k0 k' b Ta g3 Eo fb;subst this;rw [hd0] at g2;cases g2
   . obtain⟨ab,lQ⟩:=R!.1 g1;rw [bJ k h1] at hb;rcases Av k' b ab lQ fb with hh|⟨k0,hd0,Ta,Eo⟩
     . exact absurd (jU k b h3 hb) w!
     . have :k0=k:=hB.apart k0 k b Ta h3 Eo hb;subst this;rw [hd0] at h2;cases h2
   . rw [bJ k h1] at hb;rw [bJ k' g1] at fb;exact hB.apart k k' b h3 g3 hb fb
 . refine⟨hos.trans hB.frame.os,Y9.trans hB.frame.tape,vG.trans hB.frame.output,X? hB.frame.size oC,λb hb hM=>?_⟩;rw [Au b (I? hb hB.frame.size) (λk ht S9=>?_)]
   . exact hB.frame.block b hb hM
   . rcases hB.mO k b ht.1 S9 with h|h
     . omega
     . exact hM h
 . intro b hb Mn;rcases hA b Mn with hh|hh|⟨k,ht,S9⟩
   . exact hB.iP b hb hh
   . exact absurd hB.frame.size w!
   . rcases hB.mO k b ht.1 S9 with h|h
     . omega
     . exact .inr h
 . exact λb hb=>(hK b (hB.base b hb)).1
 . intro k b hk hb;rcases fH k hk with h1|⟨h1,h2,h3⟩
   . obtain⟨ab,lQ⟩:=R!.1 h1;rcases Av k b ab lQ hb with hh|⟨k0,hd0,Ta,Eo⟩
     . exact .inl (X? hB.frame.size hh)
     . exact hB.mO k0 b Ta Eo
   . rw [bJ k h1] at hb;exact hB.mO k b h3 hb
theorem aw.step{β az:Nat->Value}{st:St}{w w':World}{out:Out}
  (hB:aw C A β st a w) (hd:∀t,d=some t->t<st.n)
  (H9:∀k b,al out.new k=some b->st.h k=none/\rl k=false)
  (Ia:∀k b,al out.gz k=some b->(st.h k).isSome)
  (bJ:∀k,al out.new k=none->az k=β k)
  (hK:cg w w' A A')
  (hos:w'.os=w.os) (Y9:w'.tape=w.tape) (vG:w'.output=w.output) (oC:w.heap.size<=w'.heap.size)
  (Au:∀b,b<w.heap.size->(∀k,oM st out k->ai (β k)≠some b)->w'.heap[b]? =w.heap[b]?)
  (hbound:∀b,A' b->b<w'.heap.size)
  (hA:∀b,A' b->A b\/w.heap.size<=b\/∃k,oM st out k/\ai (β k)=some b)
  (Mm:∀k ab,al out.gz k=some ab->ay out.del k=false->BR w' A' az k (bH out.new ab))
  (fp:∀k ab,al out.new k=some ab->BR w' A' az k ab)
  (Av:∀k b ab,al out.new k=some ab->ai (az k)=some b->w.heap.size<=b\/∃k0,ay out.del k0=true/\(st.h k0).isSome/\ai (β k0)=some b)
  (En:∀k k' b,(al out.new k).isSome->(al out.new k').isSome->ai (az k)=some b->ai (az k')=some b->k=k')
  (xF:aa w' A' az v out.res) (hr:out.raw=[]:=by rfl):aw C A' az (st.put d out) (a.put d v) w':=
 hB.ah hd H9 Ia bJ hK hos Y9 vG oC Au hbound hA (λk ab h1 h2=>by
  grind[xC,bH,ay]) fp Av En xF
def Za(P:Program)(t:TypeId):TypeDesc->Prop
 | .struct fs=>P.stoodInHeld t=false/\P.eqGuardType P.depth t=false/\(fs.toList.all λf=>f.name != "_")=true
 |_=>True
structure bA (T:b9) (P:Program):Prop where
 ok:∀t te,T.find t=some te->P.underlying t=some te.desc/\∃i,P.info? t=some i/\i.size=te.size/\i.bytes=te.bytes/\i.zero=some te.zero
 held:∀t te,T.find t=some te->Za P t te.desc
theorem bB {o:Oper}{v:Value}{w':World}(h:(execOp a.eval o).run P w= .ok (.value v) w')(hk:K (a.put o.dst v) w'):o.wp P a w K Q:=by
 unfold Oper.wp;rw [h];exact hk
theorem nU {o:Oper}{w':World}(h:(execOp a.eval o).run P w= .ok .skip w')(hk:K (a.put o.dst undef) w'):o.wp P a w K Q:=by
 unfold Oper.wp;rw [h];exact hk
theorem VP(v:Value):aa w A β v (Cy v):=by
 unfold Cy;split
 . split
   . simp_all[aa,trivial]
   grind[aa]
 . grind[aa]
 . rename_i s;cases hb:Nat.ble s.data.toList.length 1000000 with
   |false=>simp [aa]
   |true=>
    have:=Nat.le_of_ble_eq_true hb;simp only [cond_true,aa];grind[maxLen]
 . rfl
 . rfl
 . rfl
 grind[aa]
theorem JO(f:Value->AV)(hf:∀v,aa w A β v (f v)):∀(vs:M Value),ae w A β vs (vs.map f)
 |[]=>by rfl
 |v::vs=>by
  exact⟨v,vs,rfl,hf v,JO f hf vs⟩
def yF(v:Value):aa w A β v (ofConst v):=by
 unfold ofConst;grind[aa,JO,VP]
theorem aG(hB:aw C A β st a w)(x:Operand):aa w A β (a.eval x) (ev st x):=by
 cases x with
 |tmp i=>exact hB.tmps i
 |const v=>exact yF v
 |global g=>
  simp [ev,Act.eval];cases hg:st.g g with
  |none=>simp [aa]
  |some d=>
   obtain⟨h1,cs,h2,h3⟩:=hB.laid g d (hB.pj g d hg);grind[aa]
 |func f=>
  exact⟨#[], #[],rfl,by rfl,by rfl⟩
theorem cg.refl(w:World)(A:Nat->Prop):cg w w A A:=λ_ h=>⟨h,rfl⟩
def aw.pure(hB:aw C A β st a w)(hd:∀t,d=some t->t<st.n)(h:aa w A β v r):
  aw C A β (st.put d {cond:=c,res:=r}) (a.put d v) w:=
 hB.step (out:={cond:=c,res:=r}) hd (by simp [al]) (by simp [al]) (λ_ _=>rfl) (cg.refl w A) rfl rfl rfl (S! _) (λ_ _ _=>rfl) hB.bound
  (λb h=>.inl h) (by simp [al]) (by simp [al]) (by simp [al]) (by simp [al]) h
theorem Rel.jP(h:aw C A β st a w):Rel C st a w:=⟨A,β,h⟩
theorem yG(b:Bool):∀(x y:AV),(if b then aa w A β v x else aa w A β v y)->aa w A β v (FV b x y):=by
 intro x y h
 have hb:∀x y p q,vE x=some p->vE y=some q->(if b then aa w A β v x else aa w A β v y)->aa w A β v (.bool (bif b then p else q)):=by
  intro x y p q hx hy h;cases b<;>cases x<;>simp_all [vE,aa]<;>cases y<;>simp_all [aa]
 unfold FV;split
 . grind[aa]
 . grind
 . grind[fG,aa,Ty.nc,Option.some.injEq]
 . cases b with
   |true=>grind
   |false=>
    simp only [aa,L?,n?] at h;simp only [aa,Rd,O!];exact⟨none,0,[],w!,z!,z!,by rfl,z!⟩
 . cases b with
   |false=>grind
   |true=>
    simp only [aa,Q?] at h;simp only [aa,Rd,L!];exact⟨none,0,[],w!,z!,z!,by rfl,z!⟩
 . grind
 . grind
 . grind[Nat.beq,aa,Nat.eq_of_beq_eq_true]
 grind[aa]
theorem dZ:∀(as_:M AV) (vs:M Value),ae w A β vs as_->vs.length=as_.length
 |[],vs,h=>by grind[ae]
 |a::as_,vs,h=>by
  obtain⟨v,b7,rfl,_,h2⟩:=h;simp [dZ as_ b7 h2]
theorem kC(b:Bool):∀(xs ys:M AV) (vs:M Value),xs.length=ys.length->(if b then ae w A β vs xs else ae w A β vs ys)->ae w A β vs (tI b xs ys)
 |[],[],vs,_,h=>by grind[tI]
 |x::xs,y::ys,vs,hl,h=>by
  cases b with
  |true=>
   obtain⟨v,b7,rfl,h1,h2⟩:=h;exact⟨v,b7,rfl,yG true x y (by simpa using h1),kC true xs ys b7 (by simpa using hl) (by simpa using h2)⟩
  |false=>
   obtain⟨v,b7,rfl,h1,h2⟩:=h;exact⟨v,b7,rfl,yG false x y (by simpa using h1),kC false xs ys b7 (by simpa using hl) (by simpa using h2)⟩
 |[],_::_,_,hl,_|_::_,[],_,hl,_=>by grind
theorem DC(b:Bool)(x y:AV)(h:if b then aa w A β v x else aa w A β v y):aa w A β v (FW b x y):=by
 unfold FW;split
 . rename_i xs ys;cases hl:Nat.beq xs.length ys.length with
   |false=>simp [aa]
   |true=>
    have hl:=C! hl;simp [L!,aa];cases b with
    |true=>
     simp [if_true,aa] at h;grind[kC]
    |false=>
     simp [Bool.false_eq_true,if_false,aa] at h;grind[kC]
 . rename_i xs ys;cases hl:Nat.beq xs.length ys.length with
   |false=>simp [aa]
   |true=>
    have hl:=C! hl;simp [L!,aa];cases b with
    |true=>
     simp [if_true,aa] at h;grind[kC]
    |false=>
     simp [Bool.false_eq_true,if_false,aa] at h;grind[kC]
 grind[yG]
theorem jh:∀(ts:M Ty) (vs:M Value) (x:Row ts),bx w A ts vs x->vs.length=ts.length
 |[],vs,_,h=>by grind[bx]
 |t::ts,vs,x,h=>by
  obtain⟨v,b7,rfl,_,h2⟩:=h;simp [jh ts b7 _ h2]
theorem gp {row:M Ty}:∀(l:M (Row row)) (cs:M Value),dJ (bx w A row) cs l->cs.length=l.length*row.length
 |[],cs,h=>by grind[dJ]
 |x::l,cs,⟨c1,c2,hc,h1,h2⟩=>by
  subst hc;simp [jh row c1 x h1,gp l c2 h2,u?,Nat.add_comm]
def sd {row:M Ty}:∀(l:M (Row row)) (cs:M Value) (i:Nat) (hi:i<l.length),dJ (bx w A row) cs l->
  ∃c1 c c2,cs=c1++(c++c2)/\c1.length=i*row.length/\bx w A row c l[i]/\dJ (bx w A row) c1 (l.take i)/\dJ (bx w A row) c2 (l.drop (i+1))
 |[],_,_,hi,_=>by grind
 |x::l,cs,0,_,⟨c1,c2,hc,h1,h2⟩=>⟨[],c1,c2,x!,z!,x!,by rfl,x!⟩
 |x::l,cs,i+1,hi,⟨c1,c2,hc,h1,h2⟩=>by
  obtain⟨d1,d,d2,e1,e2,e3,e4,e5⟩:=sd l c2 i x! h2;subst hc;subst e1;exact⟨c1++d1,d,d2,z!,by grind[jh,Nat.add_mul,Nat.add_comm],by simpa using e3,⟨c1,d1,rfl,h1,e4⟩,by simpa using e5⟩
theorem j8 {α:Type}{R:M Value->α->Prop}:∀(l m:M α) (cs ds:M Value),dJ R cs l->dJ R ds m->dJ R (cs++ds) (l++m)
 |[],m,cs,ds,h,h'=>by grind[dJ]
 |x::l,m,cs,ds,⟨c1,c2,hc,h1,h2⟩,h'=>by
  subst hc;exact⟨c1,c2++ds,z!,h1,j8 l m c2 ds h2 h'⟩
theorem fI {row:M Ty}:∀(l:M (Row row)) (cs:M Value) (i:Nat),dJ (bx w A row) cs l->
  dJ (bx w A row) (cs.take (i*row.length)) (l.take i)/\dJ (bx w A row) (cs.drop (i*row.length)) (l.drop i)
 |[],cs,i,h=>by grind[dJ]
 |x::l,cs,0,h=>by grind[dJ]
 |x::l,cs,i+1,⟨c1,c2,hc,h1,h2⟩=>by
  subst hc;have hl:=jh row c1 x h1;have ih:=fI l c2 i h2;have e:(i+1)*row.length=c1.length+i*row.length:=by grind
  rw [e];refine⟨⟨c1,c2.take (i*row.length),?_,h1,ih.1⟩,?_⟩
  . grind
  . rw [List.drop_length_add_append];grind
theorem yH{c1 c c2:M Value}(h:w.rangeAt b o (c1++(c++c2))):w.rangeAt b (o+c1.length) c:=by
 intro j v hj
 have:=h (c1.length+j) v (by
  grind)
 grind
theorem rV(h:w.rangeAt b o cs):w.rangeAt b (o+n) (cs.drop n):=by
 intro j v hj;have:=h (n+j) v x!;grind
theorem kD(h:w.rangeAt b o cs):w.rangeAt b o (cs.take n):=by
 intro j v hj;refine h j v ?_;grind
theorem VQ:∀(t:Ty) (v:Value) (x:D t),Rd w A t v x->aa w A β v (FO t x)
 |.int k,v,x,h=>by grind[FO,aa,Rd]
 |.bool,v,x,h|.str,v,x,h=>by grind[FO,aa,Rd]
 |.slice row,v,x,h=>by grind[FO,aa]
theorem gZ:∀(ts:M Ty) (vs:M Value) (x:Row ts),bx w A ts vs x->ae w A β vs (aB ts x)
 |[],vs,_,h=>by grind[aB,ae,bx]
 |t::ts,vs,x,h=>by
  obtain⟨v,b7,rfl,h1,h2⟩:=h;exact⟨v,b7,rfl,VQ t v _ h1,gZ ts b7 _ h2⟩
theorem fu:∀(ts:M Ty) (x:Row ts),(aB ts x).length=ts.length
 |[],_=>rfl
 |t::ts,x=>by simp [aB,fu ts]
def my:∀(as_:M AV) (vs:M Value) (n:Nat),ae w A β vs as_->ae w A β (vs.take n) (as_.take n)/\ae w A β (vs.drop n) (as_.drop n)
 |[],vs,n,h=>by grind[ae]
 |a::as_,vs,0,h=>by grind[ae]
 |a::as_,vs,n+1,h=>by
  obtain⟨v,b7,rfl,h1,h2⟩:=h;have ih:=my as_ b7 n h2;exact⟨⟨v,_,rfl,h1,ih.1⟩,ih.2⟩
def vI:∀(as_:M AV) (vs:M Value) (i:Nat) (r:AV),ae w A β vs as_->as_[i]? =some r->∃v,vs[i]? =some v/\aa w A β v r
 |[],vs,i,r,h,hr=>by grind
 |a::as_,vs,0,r,h,hr=>by
  grind[ae]
 |a::as_,vs,i+1,r,h,hr=>by
  obtain⟨v,b7,rfl,h1,h2⟩:=h;obtain⟨u,hu,p9⟩:=vI as_ b7 i r h2 (by simpa using hr);exact⟨u,by simpa using hu,p9⟩
theorem Qm(d:TypeDesc):d.nR=d.isRow:=by rfl
def kF(hT:bA T P)(ht:T.find t=some te){as_:M AV}(hrel:ae w A β cs as_)(hp:pick te as_ off=some r)
  (hr:w.rangeAt b o cs):∃v,(Instr.loadAt t (.pointer (some ⟨b,o+off,none⟩))).run P w= .ok v w/\aa w A β v r:=by
 obtain⟨hu,i,hi,hs,_,_⟩:=hT.ok t te ht;unfold pick at hp;cases VR:te.desc.nR with
 |true=>
  simp [VR,L!] at hp;cases hle:Nat.ble (off+te.size) as_.length with
  |false=>grind
  |true=>
   have hle:=N! hle;simp [hle,Nat.ble_eq_true_of_le,L!,A!] at hp;subst hp;have hlen:=dZ as_ cs hrel;refine⟨.agg ((cs.drop off).take te.size).toArray,?_,?_⟩
   . refine run_loadAt_mid w b (o+off) t ((cs.drop off).take te.size) te.desc (kD (rV hr)) hu (by grind[Qm]) ?_;grind
   . exact⟨_,rfl,by simp_all[my]⟩
 |false=>
  simp [VR,O!] at hp;obtain⟨v,hv,hrv⟩:=vI as_ cs off r hrel hp;have hc:=hr off v hv
  have hia:(isAgg t).run P w= .ok false w:=by
   unfold isAgg;rw [Sem.run_bind,run_underlying hu w];cases hd:te.desc<;>simp_all [TypeDesc.nR]
  simp_all[Instr.loadAt,Instr.sureAddr,loadVar]
def fk(hT:bA T P)(h:bh T t n=true):∃e i,P.underlying t=some (.slice e)/\P.info? e=some i/\i.size=n/\0<n:=by
 unfold bh mN at h;cases ht:T.find t with
 |none=>grind
 |some te=>
  simp [ht] at h;cases hd:te.desc with
  |slice e=>
   simp [hd] at h;cases he:T.find e with
   |none=>grind
   |some ee=>
    simp only [he,B!] at h;obtain⟨_,i,hi,hs,_⟩:=hT.ok e ee he;exact⟨e,i,by rw [(hT.ok t te ht).1,hd],hi,hs.trans (C! h.1),by simp_all⟩
  |_=>grind
theorem iX {e:TypeId}(hu:P.underlying t=some (.slice e))(hi:P.info? e=some i)(b o len cap:Nat)(k:IntKind)(n:Int)(h0:0<=n)(h1:n<(len:Int)):
  (Instr.indexAt t (.slice (some ⟨b,o,none⟩) len cap) (.int k n)).run P w= .ok (.pointer (some ⟨b,o+n.toNat*i.size,none⟩)) w:=by
 simp [Instr.indexAt,asIntOf,run_underlying hu,sizeOf,typeInfo,hi,h0,h1,Addr.add_mid]
def Q1(hT:bA T P)(h:Mf T t=some (n,sz)):∃e i,P.underlying t=some (.array n e)/\P.info? e=some i/\i.size=sz:=by
 unfold Mf at h;split at h
 . rename_i te jv;obtain⟨hu,_⟩:=hT.ok t te jv;split at h
   . rename_i k e hd;split at h
     . rename_i ee wQ;obtain⟨_,i,hi,hs,_⟩:=hT.ok e ee wQ;grind
     grind
   grind
 grind
theorem DD {e:TypeId}{len:Nat}(hu:P.underlying t=some (.array len e))(hi:P.info? e=some i)(b o:Nat)(k:IntKind)(n:Int)(h0:0<=n)(h1:n<(len:Int)):
  (Instr.indexAt t (.pointer (some ⟨b,o,none⟩)) (.int k n)).run P w= .ok (.pointer (some ⟨b,o+n.toNat*i.size,none⟩)) w:=by
 simp [Instr.indexAt,Instr.sureAddr,asIntOf,run_underlying hu,sizeOf,typeInfo,hi,h0,h1,Addr.add_mid]
theorem Aw:∀(xs ys:M AV) (us vs:M Value),ae w A β us xs->ae w A β vs ys->ae w A β (us++vs) (xs++ys)
 |[],ys,us,vs,h,g=>by
   grind[ae]
 |a::as_,ys,us,vs,h,g=>by
  obtain⟨v,Ib,rfl,h1,h2⟩:=h;exact⟨v,Ib++vs,rfl,h1,Aw as_ ys Ib vs h2 g⟩
def Q2(row:M Ty):∀(l:M (Row row)) (cs:M Value),dJ (bx w A row) cs l->ae w A β cs (l.flatMap (aB row))
 |[],cs,h=>by grind[dJ,ae]
 |x::l,cs,⟨c1,c2,hc,h1,h2⟩=>by
  subst hc;exact Aw _ _ _ _ (gZ row c1 x h1) (Q2 row l c2 h2)
theorem getD_eq(l:M α)(i:Nat)(d:α)(h:i<l.length):l.getD i d=l[i]:=by
 grind
def Q3(row:M Ty)(l:M (Row row))(v:Value)(n:Int)(hR:Rd w A (.slice row) v l)(h0:0<=n)(h1:n<(l.length:Int)):
  row≠ []->∃b o cap,v= .slice (some ⟨b,o,none⟩) l.length cap/\aa w A β (.pointer (some ⟨b,o+n.toNat*row.length,none⟩)) (.cQ row (l.getD n.toNat (Row.zero row)) 0):=by
 intro mP;obtain⟨a,cap,cs,hv,_,_,hL,dX⟩:=hR;have hn:n.toNat<l.length:=by omega
 obtain⟨c1,c,c2,e1,e2,e3,_,_⟩:=sd l cs n.toNat hn hL;have hc:=jh row c _ e3
 have fh:cs≠ []:=by
  intro h;rw [h] at e1;have:=congrArg List.length e1;simp at this;exact mP (V! w!)
 obtain⟨b,o,ha,hA,pD⟩:=dX fh;refine⟨b,o,cap,by rw [hv,ha],?_⟩;refine⟨b,o+n.toNat*row.length,c,z!,hA,?_,?_⟩
 . rw [e1] at pD;have:=yH pD;rwa [e2] at this
 . rw [getD_eq l _ _ hn];exact e3
def vJ(T:b9)(h:aQ)(t:TypeId)(n:Option Int)(x y:AV):tQ T h t n x y=gS T h t x y:=by
 unfold tQ;grind[gS,QZ]
theorem eT {x:Prop}(h:∀p∈(x::l),p):x:=h _ (List.Mem.head _)
def ayh {x y:Prop}(h:∀p∈(x::y::l),p):y:=h _ (List.Mem.tail _ (List.Mem.head _))
def Out.quiet(out:Out):Prop:=out.gz=[]/\out.del=[]/\out.new=[]
theorem aw.quiet(hB:aw C A β st a w)(hd:∀t,d=some t->t<st.n)(hq:out.quiet)(h:aa w A β v out.res):
  aw C A β (st.put d out) (a.put d v) w:=by
 obtain⟨c,r,u,dl,nw,rw'⟩:=out;obtain⟨h1,h2,h3⟩:=hq;subst h1 h2 h3;exact hB.pure (c:=c) hd h
def Reads(P:Program)(A:Nat->Prop)(β:Nat->Value)(w:World)(s:Sem Value)(out:Out):Prop:=out.quiet/\∃v,s.run P w= .ok v w/\aa w A β v out.res
theorem gI(hB:aw C A β st a w){k:Nat}{row:M Ty}{l:M (Row row)}(h:st.h k=some (.row e row l fr)):
  (β k= .slice none 0 0/\l=[])\/∃b cap cur,β k= .slice (some ⟨b,0,none⟩) l.length cap/\w.heap[b]? =some (.cells cur e (0,0))/\l.length<=cap/\cap<=maxLen/\cur.size=cap*row.length/\
    dJ (bx w A row) (cur.toList.take (l.length*row.length)) l/\(if fr then A b else ¬A b):=by
 obtain⟨xs,h1,h2,h3⟩:=hB.blocks k _ h;rcases h1.2 with⟨hv,hn⟩|⟨g,cap,cur,hv,_,hg,h4,h5,h6,h7⟩
 . grind
 . exact .inr ⟨g,cap,cur,hv,hg,h4,h5,h6,x!,h3 g (by rw [hv];rfl)⟩
def Ic(hT:bA T P)(hB:aw C A β st a w){i:AV}(hx:aa w A β vx x)(hi:aa w A β vi i)
  (h:gS T st.h t x i=some out) (hc:∀p∈out.cond,p):Reads P A β w (Instr.indexAt t vx vi) out:=by
 unfold gS at h;split at h
 . rename_i row l k n;cases hs:bh T t row.length with
   |false=>grind
   |true=>
    simp only [hs,cond_true,Option.some.injEq] at h;subst h;obtain⟨h0,h1⟩:=eT hc;obtain⟨e,ii,hu,jx,dQ,mQ⟩:=fk hT hs;simp only [aa] at hx hi;obtain⟨b,o,cap,hv,hr⟩:=Q3 (β:=β) row l vx n hx h0 h1 x!;refine⟨⟨rfl,rfl,rfl⟩,_,?_,hr⟩;grind[iX]
 . rename_i row l k n;cases hs:bh T t row.length with
   |false=>grind
   |true=>
    simp only [hs,cond_true,Option.some.injEq] at h;subst h;obtain⟨h0,h1⟩:=eT hc;obtain⟨e,ii,hu,jx,dQ,mQ⟩:=fk hT hs;simp only [aa] at hx hi;obtain⟨b,o,cap,hv,hr⟩:=Q3 (β:=β) row l vx n hx.1 h0 h1 x!;refine⟨⟨rfl,rfl,rfl⟩,_,?_,hr⟩;grind[iX]
 . rename_i k kk n;split at h
   . rename_i e' row l fr hk;cases hs:bh T t row.length with
     |false=>grind
     |true=>
      simp only [hs,L!,A!] at h;subst h;obtain⟨h0,h1⟩:=eT hc;obtain⟨e,ii,hu,jx,dQ,mQ⟩:=fk hT hs;simp only [aa] at hx hi;rcases gI hB hk with⟨_,hl⟩|⟨b,cap,cur,hv,_⟩
      . grind
      . refine⟨⟨rfl,rfl,rfl⟩,.pointer (some ⟨b,0+n.toNat*row.length,none⟩),?_,?_⟩
        . simp_all[hi,iX]
        grind[aa]
   grind
 . rename_i k m kk n;split at h
   . rename_i e' row l fr hk;cases hs:bh T t row.length with
     |false=>grind
     |true=>
      simp only [hs,L!,A!] at h;subst h;obtain⟨h0,h1⟩:=eT hc;obtain⟨e,ii,hu,jx,dQ,mQ⟩:=fk hT hs;simp only [aa] at hx hi;rcases hx with⟨_,_,hl⟩|⟨b,mm,cap,hv,VS,_⟩
      . omega
      . refine⟨⟨rfl,rfl,rfl⟩,.pointer (some ⟨b,0+n.toNat*row.length,none⟩),?_,?_⟩
        . simp_all[hi,iX]
        grind[aa]
   grind
 . rename_i k sz off m kk n;cases hs:bh T t sz with
   |false=>grind
   |true=>
    simp only [hs,L!,A!] at h;subst h;obtain⟨h0,h1⟩:=eT hc;obtain⟨e,ii,hu,jx,dQ,mQ⟩:=fk hT hs;simp only [aa] at hx hi;rcases hx with⟨hm,_⟩|⟨b,mm,cap,j7,hv,VS,_⟩
    . omega
    . refine⟨⟨rfl,rfl,rfl⟩,.pointer (some ⟨b,off*sz+n.toNat*sz,none⟩),?_,?_⟩
      . grind[iX]
      grind[aa,Nat.add_mul]
 . rename_i row l k n;split at h
   . rename_i m sz ha;cases hb:Nat.beq sz row.length with
     |false=>grind
     |true=>
      rw [hb] at h;simp only [L!,A!] at h;subst h;have hm:=eT hc;have hz:=C! hb;obtain⟨h0,h1⟩:=ayh hc;obtain⟨e,ii,hu,jx,dQ⟩:=Q1 hT ha;simp only [aa] at hx hi;obtain⟨b,o,cs,rfl,hA,hr,hL⟩:=hx;have hn:n.toNat<l.length:=by omega
      obtain⟨c1,c,c2,e1,e2,e3,_,_⟩:=sd l cs n.toNat hn hL;refine⟨⟨rfl,rfl,rfl⟩,.pointer (some ⟨b,o+n.toNat*row.length,none⟩),?_,?_⟩
      . grind[DD]
      grind[aa,yH,getD_eq]
   grind
 . rename_i k off kk n;split at h
   . rename_i m sz ha;simp only [A!] at h;subst h;obtain⟨h0,h1⟩:=eT hc;obtain⟨e,ii,hu,jx,dQ⟩:=Q1 hT ha;simp only [aa] at hx hi;obtain⟨b,bJ,rfl⟩:=hx;refine⟨⟨rfl,rfl,rfl⟩,.pointer (some ⟨b,off+n.toNat*sz,none⟩),?_,?_⟩
     . rw [hi.1,DD hu jx b off kk n h0 h1,dQ]
     . simp only [aa];exact⟨b,bJ,rfl⟩
   grind
 grind
def Ax(hT:bA T P)(hB:aw C A β st a w)(hx:aa w A β vx x)
  (h:pY T st.h t x=some out) (hc:∀p∈out.cond,p):Reads P A β w (Instr.loadAt t vx) out:=by
 unfold pY at h;split at h
 . rename_i row x j;split at h
   . rename_i te ht;split at h
     . rename_i r hp;simp only [A!] at h;subst h;simp only [aa] at hx;obtain⟨b,o,cs,rfl,hA,hr,hv⟩:=hx;obtain⟨v,h1,h2⟩:=kF (β:=β) hT ht (gZ row cs x hv) hp hr;exact⟨⟨rfl,rfl,rfl⟩,v,h1,h2⟩
     grind
   grind
 . rename_i row l;split at h
   . rename_i te ht;split at h
     . rename_i r hp;simp only [A!] at h;subst h;simp only [aa] at hx;obtain⟨b,o,cs,rfl,hA,hr,hv⟩:=hx;obtain⟨v,h1,h2⟩:=kF (β:=β) hT ht (Q2 row l cs hv) hp hr;exact⟨⟨rfl,rfl,rfl⟩,v,w!,h2⟩
     grind
   grind
 . rename_i k off;split at h
   . rename_i te cs ht hk;split at h
     . rename_i r hp;simp only [A!] at h;subst h;simp only [aa] at hx;obtain⟨b,bJ,rfl⟩:=hx;obtain⟨b',arr,e,h1,h2,_,h4,_⟩:=hB.blocks k _ hk;rw [bJ] at h1;simp at h1;subst h1
       have hr:w.rangeAt b 0 arr.toList:=λj v hj=>by
        grind[World.cell?]
       obtain⟨v,g1,g2⟩:=kF (β:=β) hT ht h4 hp hr;exact⟨⟨rfl,rfl,rfl⟩,v,x!,g2⟩
     grind
   grind
 . rename_i k sz i j;split at h
   . rename_i te e row l fr ht hk;cases dQ:Nat.beq sz row.length with
     |false=>grind
     |true=>
      have dQ:=C! dQ;subst dQ;simp only [cT,L!] at h;split at h
      . rename_i r hp;simp only [A!] at h;subst h;have hi:i<l.length:=eT hc;obtain⟨b,m,cap,bJ,rfl⟩:=hx;rcases gI hB hk with⟨_,hl⟩|⟨b',j7,cur,hv,hg,_,_,dX,hL,_⟩
        . grind
        . rw [bJ] at hv;simp at hv;obtain⟨Mo,_,_⟩:=hv;subst Mo;obtain⟨c1,c,c2,e1,e2,e3,_,_⟩:=sd l _ i hi hL
          have hr:w.rangeAt b 0 (cur.toList.take (l.length*row.length)):=λj v hj=>by
           grind[World.cell?]
          rw [e1] at hr;have hr:=yH hr;rw [e2] at hr;rw [getD_eq l _ _ hi] at hp;obtain⟨v,g1,g2⟩:=kF (β:=β) hT ht (gZ row c _ e3) hp hr;exact⟨⟨rfl,rfl,rfl⟩,v,x!,g2⟩
      grind
   grind
 grind
def JP(hT:bA T P){f ft:Nat}(h:FP T s f=some (ft,o)):∃fs fd,P.underlying s=some (.struct fs)/\fs[f]? =some fd/\fd.type=ft/\fd.offset=o:=by
 unfold FP at h;cases ht:T.find s with
 |none=>grind
 |some te=>
  simp [ht] at h;cases hd:te.desc with
  |struct fs=>
   simp [hd] at h;cases hf:fs[f]? with
   |none=>grind
   |some fd=>
    simp [hf,A!,Prod.mk.injEq] at h;exact⟨fs,fd,by rw [(hT.ok s te ht).1,hd],hf,h.1,h.2⟩
  |_=>grind
def VT(hT:bA T P)(h:FQ T t=true):∃i,P.info? t=some i/\i.size≠0:=by
 unfold FQ at h;cases ht:T.find t with
 |none=>grind
 |some te=>
  simp only [ht] at h;obtain⟨_,i,hi,hs,_⟩:=hT.ok t te ht;have:=Nat.le_of_ble_eq_true h;grind
theorem yI {s f:Nat}{fs:Array Field}{fd:Field}(hu:P.underlying s=some (.struct fs))(hf:fs[f]? =some fd)(hi:P.info? fd.type=some i)(hs:i.size≠0)(b o:Nat):
  (Instr.fieldAt s (.pointer (some ⟨b,o,none⟩)) f).run P w= .ok (.pointer (some ⟨b,o+fd.offset,none⟩)) w:=by
 simp [Instr.fieldAt,run_underlying hu,hf,Instr.sureAddr,fieldPlace,sizeOf,typeInfo,hi,hs,Addr.add_mid]
def Ie(hT:bA T P){s f:Nat}(hx:aa w A β vx x)
  (h:wN T s f x=some out):Reads P A β w (Instr.fieldAt s vx f) out:=by
 unfold wN at h;split at h
 . rename_i ft o hf;obtain⟨fs,fd,hu,hfd,e1,e2⟩:=JP hT hf;cases hs:FQ T ft with
   |false=>grind
   |true=>
    simp [hs,L!] at h;obtain⟨i,hi,fh⟩:=VT hT hs;rw [<-e1] at hi;split at h
    . simp at h;subst h;obtain⟨b,h1,rfl⟩:=hx;refine⟨⟨rfl,rfl,rfl⟩,_,yI hu hfd hi fh b _,?_⟩;grind[aa]
    . simp at h;subst h;obtain⟨b,oo,cs,rfl,h2,h3,h4⟩:=hx;refine⟨⟨rfl,rfl,rfl⟩,_,yI hu hfd hi fh b _,?_⟩;grind[aa,Nat.add_assoc]
    . simp at h;subst h;obtain⟨b,m,cap,h1,rfl⟩:=hx;refine⟨⟨rfl,rfl,rfl⟩,_,yI hu hfd hi fh b _,?_⟩;grind[aa,Nat.add_assoc]
    grind
 grind
def xG(hT:bA T P)(ht:T.find t=some te){cs:M AV}(hrel:ae w A β arr.toList cs)(hp:pick te cs off=some r):
  ∃v,(part t arr off).run P w= .ok v w/\aa w A β v r:=by
 obtain⟨hu,i,hi,hs,_,_⟩:=hT.ok t te ht;unfold pick at hp;cases VR:te.desc.nR with
 |true=>
  simp [VR,L!] at hp;cases hle:Nat.ble (off+te.size) cs.length with
  |false=>grind
  |true=>
   simp [hle,Nat.ble_eq_true_of_le,L!,A!] at hp;subst hp
   have hia:(isAgg t).run P w= .ok true w:=by
    unfold isAgg;rw [Sem.run_bind,run_underlying hu w];cases hd:te.desc<;>simp_all [TypeDesc.nR]
   refine⟨.agg (arr.extract off (off+te.size)),?_,?_⟩
   . simp_all[part,sizeOf,typeInfo,hi]
   . simp [aa];simp_all[my,Array.toList_extract,List.extract]
 |false=>
  simp [VR,O!] at hp;obtain⟨v,hv,hrv⟩:=vI cs _ off r hrel hp
  have hia:(isAgg t).run P w= .ok false w:=by
   unfold isAgg;rw [Sem.run_bind,run_underlying hu w];cases hd:te.desc<;>simp_all [TypeDesc.nR]
  simp_all[part]
variable {n:Int}{d:Nat}{b:AB}{o:Oper}
def Zb(hB:aw C A β st a w)(hx:aa w A β vx x)(h:H4 st.h x=some n):
  (∃ad l c,vx= .slice ad l c/\n=(l:Int)/\l<=maxLen)\/(∃s,x= .str s/\n=(s.length:Int)):=by
 unfold H4 at h;grind[Option.some.injEq,aa,Rd,gI,trans,Value.slice.injEq]
theorem Ay {k:IntKind}(h:lo k<=n/\n<=hi k):k.wrap n=n:=by
 cases k<;>simp [lo,hi] at h<;>simp [IntKind.wrap,IntKind.signed,IntKind.bits]<;>omega
def Zc {k:IntKind}{c:Int}(h:qV k=some c):k.wrap n=n%c:=by
 cases k<;>simp [qV] at h<;>subst h<;>simp [IntKind.wrap,IntKind.signed,IntKind.bits]
def VU {k:IntKind}{c:Int}(h:qV k=some c):lo k<=n%c/\n%c<=hi k:=by
 cases k<;>simp [qV] at h<;>subst h<;>simp [lo,hi]<;>omega
def rm {k:IntKind}{cs:M Prop}(h:vD k cs n=some out)(hc:∀p∈out.cond,p):
  out.quiet/\aa w A β (.int k (k.wrap n)) out.res/\∀p∈cs,p:=by
 unfold vD at h;simp at h;subst h;unfold fit at hc |-;cases hk:qV k with
 |none=>
  refine⟨⟨rfl,rfl,rfl⟩,?_,λp hp=>hc p x!⟩;simp_all[Ay,aa,trivial]
 |some c=>
  refine⟨⟨rfl,rfl,rfl⟩,?_,λp hp=>hc p x!⟩;simp_all[Zc,aa,trivial,VU]
variable {x:Operand}
theorem Ig{k k':IntKind}:(eqGuard op t x y (.int k n) (.int k' m)).run P w= .ok () w:=by
 simp_all[eqGuard]
theorem Ih{s u:ByteArray}:(eqGuard op t x y (.string s) (.string u)).run P w= .ok () w:=by
 simp_all[eqGuard]
theorem Ep{p q:Option Addr}{n m n' m':Nat}:(eqGuard op t x y (.slice p n m) (.slice q n' m')).run P w= .ok () w:=by
 simp_all[eqGuard]
def Ii(w:World)(d:Nat)(t e:TypeId)(a:Option Addr)(n c n' c':Nat)(h:P.underlying t=some (.slice e)):
  (Op.equalIn (d+1) t (.slice a n c) (.slice none n' c')).run P w= .ok a.isNone w:=by
 cases a<;>simp [Op.equalIn,run_underlying h]
theorem Tb(w:World)(t e:TypeId)(a:Option Addr)(n c n' c':Nat)(h:P.underlying t=some (.slice e)):
  (binOp .eql t (.slice a n c) (.slice none n' c')).run P w= .ok (.bool a.isNone) w:=by
 simp_all[binOp,Op.equal,Op.maxDepth,Ii]
theorem F7{s u:Bool}:(eqGuard op t x y (.bool s) (.bool u)).run P w= .ok () w:=by
 simp_all[eqGuard]
def se {k:IntKind}(hr:lo k<=n)(h:∀p∈Dx k n,p):0<=n:=by
 unfold Dx at h;cases hc:qV k with
 |none=>simp [hc] at h;exact h _ z!
 |some c=>cases k<;>simp [qV] at hc<;>simpa [lo] using hr
def sf:IntKind->Nat
 |.i8=>7|.i16=>15|.i32=>31|.i64=>63|.u8=>8|.u16=>16|.u32=>32|.u64=>64
theorem toNat_lt {k:IntKind}(h0:0<=n)(h:n<=hi k):n.toNat<2^sf k:=by
 cases k<;>simp [hi] at h<;>simp [sf]<;>omega
def afR {k:IntKind}{n:Nat}(h:n<2^sf k):lo k<=(n:Int)/\(n:Int)<=hi k:=by
 cases k<;>simp [sf] at h<;>simp [lo,hi]<;>omega
def tf {k:IntKind}(h0:0<=n)(h:n<=hi k):(BitVec.ofInt k.bits n).toNat=n.toNat:=by
 cases k<;>simp [hi] at h<;>simp [IntKind.bits]<;>omega
def Mp {k:IntKind}(f:Nat->Nat->Nat)(g:BitVec k.bits->BitVec k.bits->BitVec k.bits)(hfg:∀x y,(g x y).toNat=f x.toNat y.toNat)
  (hf:∀a b,a<2^sf k->b<2^sf k->f a b<2^sf k) (hn:lo k<=n/\n<=hi k) (hm:lo k<=m/\m<=hi k) (h0:0<=n) (h1:0<=m):
  k.wrap ((g (BitVec.ofInt k.bits n) (BitVec.ofInt k.bits m)).toNat:Int)=(f n.toNat m.toNat:Int)/\lo k<=(f n.toNat m.toNat:Int)/\(f n.toNat m.toNat:Int)<=hi k:=by
 rw [hfg,tf h0 hn.2,tf h1 hm.2];have:=afR (hf _ _ (toNat_lt h0 hn.2) (toNat_lt h1 hm.2));exact⟨Ay this,this⟩
theorem DE(s:B8):(⟨s.toArray⟩:ByteArray).toList=s:=by
 simp_all
theorem Az(s:B8):(⟨s.toArray⟩:ByteArray).size=s.length:=by rfl
def Zd(s u:B8):(⟨s.toArray⟩:ByteArray)++⟨u.toArray⟩=⟨(s++u).toArray⟩:=by
 rfl
variable {x:AV}
def Mq{p:Bool}(hx:aa w A β v x)(h:vE x=some p):v= .bool p:=by cases x<;>simp_all [vE,aa]
def Q4 {d:Nat}{E:TypeId->AV->AV->Option Bool}(hT:bA T P)(hE:∀t x y v u r,aa w A β v x->aa w A β u y->E t x y=some r->(Op.equalIn d t v u).run P w= .ok r w)
  {arr pL:Array Value} {xs ys:M AV} (hx:ae w A β arr.toList xs) (hy:ae w A β pL.toList ys):∀(fs:M Field) (r:Bool),(fs.all λf=>f.name != "_")=true->Q0 T E xs ys fs=some r->(Op.eqFields d arr pL fs).run P w= .ok r w
 |[],r,_,h=>by simp_all[Q0,A!,Op.eqFields]
 |f::fs,r,hn,h=>by
  simp only [List.all_cons,Bool.and_eq_true] at hn;have VV:f.name≠ "_":=by grind
  simp [Q0] at h;cases hf:T.find f.type with
  |none=>grind
  |some te=>
   simp [hf] at h;cases ha:pick te xs f.offset with
   |none=>grind
   |some a=>cases hb:pick te ys f.offset with
    |none=>grind
    |some b=>
     simp [ha,hb] at h;cases he:E f.type a b with
     |none=>grind
     |some q=>cases hr:Q0 T E xs ys fs with
      |none=>grind
      |some q'=>
       simp [he,hr,A!] at h;subst h;obtain⟨va,a1,a2⟩:=xG hT hf hx ha;obtain⟨vb,b1,b2⟩:=xG hT hf hy hb;have e1:=hE _ _ _ _ _ _ a2 b2 he;have e2:=Q4 hT hE hx hy fs q' hn.2 hr;simp [Op.eqFields,VV,ne_eq,not_false_eq_true,Q?,Sem.run_bind,a1,b1,e1,Result.andThen_ok];cases fs with
       |nil=>
        cases q<;>simp [Op.eqFields]
       |cons g gs=>cases q<;>simp [e2]
def Q5(hT:bA T P):∀(n d:Nat) (t:TypeId) (x y:AV) (v u:Value) (r:Bool),n<=d->aa w A β v x->aa w A β u y->JK T n t x y=some r->(Op.equalIn d t v u).run P w= .ok r w
 |0,_,_,_,_,_,_,_,_,_,_,h=>by grind[JK]
 |n+1,0,_,_,_,_,_,_,hd,_,_,_=>by omega
 |n+1,d+1,t,x,y,v,u,r,hd,hx,hy,h=>by
  simp [JK] at h;cases hf:T.find t with
  |none=>grind
  |some te=>
   simp [hf] at h;obtain⟨hu,_⟩:=hT.ok t te hf;split at h
   . rename_i fs Ij;split at h
     . obtain⟨arr,rfl,hx⟩:=hx;obtain⟨pL,rfl,hy⟩:=hy;have hh:=hT.held t te hf;rw [Ij] at hh hu;have hfo:P.fieldsOf t=fs:=by grind[Program.fieldsOf]
       rw [run_equalIn_struct w d t arr pL x! hh.1,hfo];exact Q4 hT (λt x y v u r g1 g2 g3=>Q5 hT n d t x y v u r w! g1 g2 g3) hx hy _ _ hh.2.2 h
     grind
   . grind[Option.some.injEq,aa,run_equalIn_int]
   . grind[Option.some.injEq,aa,run_equalIn_string,DE]
   . rename_i Ij;rw [Ij] at hu;split at h
     . rename_i p q hp hq;simp at h;subst h;rw [Mq hx hp,Mq hy hq,run_equalIn_bool' w d t _ _ hu]
     grind
   grind
def VW(hT:bA T P){n:Nat}{xs ys:M AV}{r:Bool}(h:JK T n t (.agg xs) (.agg ys)=some r):P.eqGuardType P.depth t=false:=by
 cases n with
 |zero=>grind[JK]
 |succ n=>
  simp [JK] at h;cases hf:T.find t with
  |none=>grind
  |some te=>
   simp [hf] at h;have hh:=hT.held t te hf;split at h
   . rename_i fs Ij;rw [Ij] at hh;exact hh.2.1
   . cases h
   . cases h
   . grind[vE]
   grind
set_option maxHeartbeats 1000000 in
def Ze(hT:bA T P){ox oy:Operand}{y:AV}{vy:Value}(hx:aa w A β vx x)(hy:aa w A β vy y)
  (h:S7 T t op x y=some out) (hc:∀p∈out.cond,p):Reads P A β w (do eqGuard op t ox oy vx vy;binOp op t vx vy) out:=by
 unfold S7 at h;split at h
 . rename_i k n k' m;simp only [aa] at hx hy;obtain⟨rfl,hn⟩:=hx;obtain⟨rfl,hm⟩:=hy;unfold Reads;simp only [Sem.run_bind,Ig,Result.andThen_ok];split at h
   . obtain⟨hq,hr,dX⟩:=rm (w:=w) (A:=A) (β:=β) h hc;obtain⟨h0,h1⟩:=eT dX;refine⟨hq,_,?_,hr⟩;have ai9:¬m<0:=by omega
     have aja:min m.toNat k.bits=m.toNat:=by
      cases k<;>simp [bitsOf] at h1<;>simp [IntKind.bits]<;>omega
     simp [binOp,Op.shift,ai9,aja]
   . simp only [A!] at h;subst h;obtain⟨h0,h1⟩:=eT hc;have ai9:¬m<0:=by omega
     have aja:min m.toNat k.bits=m.toNat:=by
      cases k<;>simp [bitsOf] at h1<;>simp [IntKind.bits]<;>omega
     refine⟨⟨rfl,rfl,rfl⟩,.int k (n/2^m.toNat),?_,?_⟩
     . simp only [binOp,Op.shift,ai9,aja,if_false,Sem.run_pure];grind
     . simp only [aa];have hp:(1:Int)<=2^m.toNat:=Int.pow_pos w!;refine⟨trivial,?_,?_⟩
       . have h2:lo k<=0:=by cases k<;>simp [lo]
         rcases Int.le_total 0 n with hh|hh
         . exact Int.le_trans h2 (Int.ediv_nonneg hh w!)
         . have :n<=n/2^m.toNat:=by
            rw [Int.le_ediv_iff_mul_le w!];have:=Int.mul_le_mul_of_nonpos_left hh hp;omega
           omega
       . have h2:0<=hi k:=by cases k<;>simp [hi]
         rcases Int.le_total 0 n with hh|hh
         . have :n/2^m.toNat<=n:=Int.ediv_le_self _ hh;omega
         . have :n/2^m.toNat<=0:=Int.ediv_nonpos_of_nonpos_of_neg hh w!;omega
   . rename_i K2 Tc;by_cases uL:k=k'
     . subst uL;simp only [Q?] at h
       have hb:binOp op t (.int k n) (.int k m)=match op with
         |.add|.sub|.mul=>Op.intArith op k n m
         |.quo|.rem=>Op.intDiv op k n m
         |.and|.or|.xor|.andNot=>Op.intBits op k n m
         |_=>Op.intCmp op n m:=by
        cases op<;>first|exact absurd rfl K2|exact absurd rfl Tc|simp [binOp]
       rw [hb];split at h
       . obtain⟨hq,hr,_⟩:=rm (w:=w) (A:=A) (β:=β) h hc;simp_all[Op.intArith]
       . obtain⟨hq,hr,_⟩:=rm (w:=w) (A:=A) (β:=β) h hc;simp_all[Op.intArith]
       . obtain⟨hq,hr,_⟩:=rm (w:=w) (A:=A) (β:=β) h hc;simp_all[Op.intArith]
       . simp only [Option.some.injEq] at h;subst h;have h0:0<=n:=se hn.1 (λp hp=>hc p x!);have h1:0<m:=hc _ z!;have fh:¬m=0:=by omega
         have h2:0<=n/m:=Int.ediv_nonneg h0 w!;have h3:n/m<=n:=Int.ediv_le_self _ h0;have Td:lo k<=0:=by cases k<;>simp [lo]
         have hr:lo k<=n/m/\n/m<=hi k:=⟨w!,w!⟩;refine⟨⟨rfl,rfl,rfl⟩,.int k (n/m),?_,by simp_all[aa,trivial]⟩;simp_all[Op.intDiv,n?,Int.tdiv_eq_ediv_of_nonneg,Ay,Sem.run_pure]
       . simp only [Option.some.injEq] at h;subst h;have h0:0<=n:=se hn.1 (λp hp=>hc p x!);have h1:0<m:=hc _ z!;have fh:¬m=0:=by omega
         have h2:0<=n%m:=Int.emod_nonneg _ fh
         have h3:n%m<=n:=by
          have e1:=Int.emod_def n m;have e2:0<=m*(n/m):=Int.mul_nonneg w! (Int.ediv_nonneg h0 w!);omega
         have Td:lo k<=0:=by cases k<;>simp [lo]
         have hr:lo k<=n%m/\n%m<=hi k:=⟨w!,w!⟩;refine⟨⟨rfl,rfl,rfl⟩,.int k (n%m),?_,by simp_all[aa,trivial]⟩;simp_all[Op.intDiv,n?,Int.tmod_eq_emod_of_nonneg,Sem.run_pure]
       . simp only [Option.some.injEq] at h;subst h;have h0:0<=n:=se hn.1 (λp hp=>hc p x!);have h1:0<=m:=se hm.1 (λp hp=>hc p x!);obtain⟨e1,e2⟩:=Mp (k:=k) (· &&& ·) (· &&& ·) (λx y=>BitVec.toNat_and x y) (λa b ha hb=>Nat.lt_of_le_of_lt Nat.and_le_left ha) hn hm h0 h1;exact⟨⟨rfl,rfl,rfl⟩,_,by simp only [Op.intBits,Sem.run_pure,e1];rfl,by simp only [aa];exact⟨rfl,e2⟩⟩
       . simp only [Option.some.injEq] at h;subst h;have h0:0<=n:=se hn.1 (λp hp=>hc p x!);have h1:0<=m:=se hm.1 (λp hp=>hc p x!);obtain⟨e1,e2⟩:=Mp (k:=k) (· ||| ·) (· ||| ·) (λx y=>BitVec.toNat_or x y) (λa b ha hb=>Nat.or_lt_two_pow ha hb) hn hm h0 h1;exact⟨⟨rfl,rfl,rfl⟩,_,by simp only [Op.intBits,Sem.run_pure,e1];rfl,by simp only [aa];exact⟨rfl,e2⟩⟩
       . simp only [Option.some.injEq] at h;subst h;have h0:0<=n:=se hn.1 (λp hp=>hc p x!);have h1:0<=m:=se hm.1 (λp hp=>hc p x!);obtain⟨e1,e2⟩:=Mp (k:=k) (· ^^^ ·) (· ^^^ ·) (λx y=>BitVec.toNat_xor x y) (λa b ha hb=>Nat.xor_lt_two_pow ha hb) hn hm h0 h1;exact⟨⟨rfl,rfl,rfl⟩,_,by simp only [Op.intBits,Sem.run_pure,e1];rfl,by simp only [aa];exact⟨rfl,e2⟩⟩
       . simp only [A!] at h;subst h;exact⟨⟨rfl,rfl,rfl⟩,.bool (decide (n=m)),by rfl,by rfl⟩
       . simp only [A!] at h;subst h;exact⟨⟨rfl,rfl,rfl⟩,.bool (!decide (n=m)),by rfl,by rfl⟩
       . simp only [A!] at h;subst h;exact⟨⟨rfl,rfl,rfl⟩,.bool (decide (n<m)),by rfl,by rfl⟩
       . simp only [A!] at h;subst h;exact⟨⟨rfl,rfl,rfl⟩,.bool (decide (n<=m)),by rfl,by rfl⟩
       . simp only [A!] at h;subst h;exact⟨⟨rfl,rfl,rfl⟩,.bool (decide (m<n)),by rfl,by rfl⟩
       . simp only [A!] at h;subst h;exact⟨⟨rfl,rfl,rfl⟩,.bool (decide (m<=n)),by rfl,by rfl⟩
       grind
     grind
 . rename_i s u;simp only [aa] at hx hy;obtain⟨rfl,hn⟩:=hx;obtain⟨rfl,hm⟩:=hy;unfold Reads;simp only [Sem.run_bind,Ih,Result.andThen_ok];have hb:binOp op t (.string ⟨s.toArray⟩) (.string ⟨u.toArray⟩)=Op.stringOp op ⟨s.toArray⟩ ⟨u.toArray⟩:=by cases op<;>rfl
   have aFC:(s==u)=decide (s=u):=by
    grind
   rw [hb];split at h
   . simp only [A!] at h;subst h;have h0:=eT hc;refine⟨⟨rfl,rfl,rfl⟩,.string ⟨(s++u).toArray⟩,?_,?_⟩
     . simp_all[IntKind.max,IntKind.signed,IntKind.bits,Op.stringOp,Az,Zd]
     . simp only [aa];refine⟨trivial,?_⟩;grind[List.length_append,maxLen]
   all_goals first|(simp only [A!] at h;subst h;exact⟨⟨rfl,rfl,rfl⟩,_,by simp only [Op.stringOp,Sem.run_pure,DE,aFC];rfl,by rfl⟩)|cases h
 . rename_i r rs l;cases hd:cU T t gG with
   |false=>grind
   |true=>
    simp only [hd,L!] at h
    obtain⟨e,hu⟩:∃e,P.underlying t=some (.slice e):=by
     unfold cU at hd;cases ht:T.find t with
     |none=>grind
     |some te=>
      simp only [ht] at hd;rw [(hT.ok t te ht).1];cases Er:te.desc<;>simp_all [gG]
    simp only [aa,Rd] at hx hy;obtain⟨ad,cap,cs,rfl,h1,h2,h3,h4⟩:=hx;subst hy;split at h
    . simp only [Option.some.injEq] at h;subst h;unfold Reads;simp only [Sem.run_bind,Ep,Result.andThen_ok];refine⟨⟨rfl,rfl,rfl⟩,.bool ad.isNone,Tb w t e ad _ _ _ _ hu,?_⟩;simp only [aa];refine⟨_,rfl,λhn=>?_⟩;cases l with
      |nil=>rfl
      |cons x l=>
       grind[dJ,bx]
    grind
 . rename_i xs ys;split at h
   . rename_i r hr;have hg:=VW hT hr;have hq:=Q5 (w:=w) (A:=A) (β:=β) hT 8 10000 t _ _ _ _ r w! hx hy hr;simp only [aa] at hx hy;obtain⟨arr,rfl,hx⟩:=hx;obtain⟨pL,rfl,hy⟩:=hy;unfold Reads;simp only [Sem.run_bind,run_eqGuard_agg w op t ox oy arr pL hg,Result.andThen_ok];split at h
     . simp only [A!] at h;subst h;exact⟨⟨rfl,rfl,rfl⟩,_,by rw [run_eql_struct,hq];rfl,by rfl⟩
     . simp only [A!] at h;subst h;exact⟨⟨rfl,rfl,rfl⟩,_,by rw [run_neq_struct,hq];rfl,by rfl⟩
     grind
   grind
 . rename_i Qn hy1 hz1;split at h
   . rename_i p q hp hq;have ex:vx= .bool p:=by cases x<;>simp_all [vE,aa]
     have ey:vy= .bool q:=by cases y<;>simp_all [vE,aa]
     subst ex;subst ey;unfold Reads;simp only [Sem.run_bind,F7,Result.andThen_ok];cases hd:cU T t Mg with
     |false=>grind
     |true=>
      simp only [hd,L!] at h
      have hu:P.underlying t=some .bool:=by
       unfold cU at hd;cases ht:T.find t with
       |none=>grind
       |some te=>
        simp only [ht] at hd;rw [(hT.ok t te ht).1];grind[Mg]
      split at h
      . simp only [A!] at h;subst h;exact⟨⟨rfl,rfl,rfl⟩,.bool (p==q),run_eql_bool w t p q hu,by rfl⟩
      . simp only [A!] at h;subst h;exact⟨⟨rfl,rfl,rfl⟩,.bool (!(p==q)),run_neq_bool w t p q hu,by rfl⟩
      grind
   grind
theorem Mr(sz j:Nat):∀(k:Nat) (cs:M AV) (i:Nat),i<k->(every sz j k cs)[i]? =some (cs.getD (i*sz+j) .cF)
 |k+1,cs,0,_=>by simp [every]
 |k+1,cs,i+1,h=>by
  simp [every,List.getElem?_cons_succ];rw [Mr sz j k (cs.drop sz) i w!];simp;rw [show sz+(i*sz+j)=(i+1)*sz+j by rw [u?];omega]
theorem F8:∀(l:M AV) (kd:IntKind) (ns:U),FY l=some (kd,ns)->∀(i:Nat) (a:AV),l[i]? =some a->a= .int kd (ns.getD i 0)
 |[],kd,ns,h,i,a,hi=>by grind
 |x::r,kd,ns,h,i,a,hi=>by
  unfold FY at h;split at h
  . split at h
    . obtain⟨rfl,rfl⟩:=h;cases i with
      |zero=>simp at hi;subst hi;simp
      |succ i=>simp at hi
    . split at h
      . rename_i k' l hl;split at h
        . rename_i hk;subst hk;obtain⟨rfl,rfl⟩:=h;cases i with
          |zero=>simp at hi;subst hi;simp
          |succ i=>
           have:=F8 _ _ _ hl i a hi;rw [this];simp [List.getD]
        . cases h
      . cases h
  . cases h
def AA {sz k:Nat}{cs:M AV}{n:Int}(hn:n.toNat<k):∀(m:Nat) (vs:M AV),FZ sz k cs n m=some vs->vs.length=m/\∀j,j<m->vs[j]? =some (cs.getD (n.toNat*sz+j) .cF)
 |0,vs,h=>by grind[FZ,Option.some.injEq]
 |m+1,vs,h=>by
  simp only [FZ] at h;split at h
  . rename_i us kd l h1 h2;simp only [Option.some.injEq] at h;obtain⟨g1,g2⟩:=AA hn m us h1;refine⟨x!,λj hj=>?_⟩;by_cases hjm:j<m
    . grind
    . have :j=m:=by omega
      grind[F8,Mr]
  grind
def VX(hT:bA T P){k:Nat}{ee:TE}(h:Mj T t=some (k,ee)):∃e i,P.underlying t=some (.array k e)/\T.find e=some ee/\P.info? e=some i/\i.size=ee.size:=by
 unfold Mj at h;split at h
 . rename_i te jv;obtain⟨hu,_⟩:=hT.ok t te jv;split at h
   . rename_i k' e hd;split at h
     . rename_i ee' wQ;obtain⟨_,i,hi,hs,_⟩:=hT.ok e ee' wQ;grind
     grind
   grind
 grind
def K3(hT:bA T P){cs:M AV}{kd:IntKind}(hx:ae w A β arr.toList cs)(hi:vi= .int kd n)
  (h:yB T t cs n=some out) (hc:∀p∈out.cond,p):Reads P A β w (Instr.index t (.agg arr) vi) out:=by
 unfold yB at h;split at h
 . rename_i k ee ha;cases hb:Nat.beq cs.length (k*ee.size) with
   |false=>grind
   |true=>
    rw [hb] at h;simp only [L!] at h;have hlen:=C! hb;obtain⟨e,i,hu,wQ,hie,hs⟩:=VX hT ha
    have gf:∀(h0:0<=n) (h1:n<(k:Int)),(Instr.index t (.agg arr) vi).run P w=(part e arr (n.toNat*ee.size)).run P w:=by
     simp_all[hi,Instr.index,asIntOf,run_underlying,sizeOf,typeInfo]
    split at h
    . rename_i vs hv;cases Te:ee.desc.nR with
      |true=>
       rw [Te] at h;simp only [L!,A!] at h;subst h;obtain⟨h0,h1⟩:=eT hc;obtain⟨g1,g2⟩:=AA w! _ _ hv
       have hle:n.toNat*ee.size+ee.size<=cs.length:=by
        rw [hlen,<-Nat.succ_mul];exact F? _ w!
       have hp:pick ee cs (n.toNat*ee.size)=some (.agg vs):=by
        unfold pick;rw [Te,cond_true,show Nat.ble (n.toNat*ee.size+ee.size) cs.length=true from Nat.ble_eq_true_of_le hle,cond_true];congr 2
        refine List.ext_getElem? λj=>?_;grind
       obtain⟨v,k1,k2⟩:=xG hT wQ hx hp;exact⟨⟨rfl,rfl,rfl⟩,v,x!,k2⟩
      |false=>
       rw [Te] at h;simp only [O!] at h;split at h
       . rename_i a;simp only [Option.some.injEq] at h;subst h;obtain⟨h0,h1⟩:=eT hc;obtain⟨g1,g2⟩:=AA w! _ _ hv;have dQ:ee.size=1:=by grind
         have hp:pick ee cs (n.toNat*ee.size)=some a:=by
          simp_all[pick,O!,c?,A!,Nat.add_zero,D!,List.getD]
         obtain⟨v,k1,k2⟩:=xG hT wQ hx hp;exact⟨⟨rfl,rfl,rfl⟩,v,x!,k2⟩
       grind
    grind
 grind
theorem tJ(n:Int):∀ks,Mk n ks=true↔n∈ks
 |[]=>by simp [Mk]
 |k::r=>by simp [Mk,tJ n r]
theorem AD(n:Int):∀ks,yC n ks↔n∉ks
 |[]=>by simp [yC]
 |k::r=>by simp [yC,AD n r]
def rW(n:Int):∀(es:M MapEntry) (ks:U) (i:Nat),es.map (·.key)=ks.map (Value.int .i64)->n∉ks->Instr.findNow (.int .i64) (.int .i64 n) es i=some none
 |[],_,_,_,_=>rfl
 |e::es,[],_,h,_=>by grind
 |e::es,k::ks,i,h,hn=>by
  simp at h;have hk:n≠k:=λq=>hn (by rw [q];exact I! ..)
  have hs:Instr.sameNow (.int .i64) (.int .i64 n) e.key=some false:=by
   rw [h.1];simp [Instr.sameNow,hk]
  simp [Instr.findNow,hs];exact rW n es ks (i+1) h.2 (λq=>hn (E! _ q))
def AE(n:Int):∀(es:M MapEntry) (ks:U) (i j:Nat),es.map (·.key)=ks.map (Value.int .i64)->gT ks=true->ks[j]? =some n->
  ∃e,es[j]? =some e/\Instr.findNow (.int .i64) (.int .i64 n) es i=some (some (i+j,e.val))
 |[],[],_,j,_,_,hj=>by grind
 |[],_::_,_,_,h,_,_=>by grind
 |e::es,[],_,_,h,_,_=>by grind
 |e::es,k::ks,i,j,h,hd,hj=>by
  simp at h;simp [gT,B!,M?] at hd;cases j with
  |zero=>
   have hs:Instr.sameNow (.int .i64) (.int .i64 k) e.key=some true:=by
    grind[Instr.sameNow]
   exact⟨e,rfl,by grind[Instr.findNow]⟩
  |succ j=>
   have hk:n≠k:=by
    grind[List.mem_of_getElem?,tJ]
   have hs:Instr.sameNow (.int .i64) (.int .i64 n) e.key=some false:=by
    grind[Instr.sameNow]
   obtain⟨e',h1,h2⟩:=AE n es ks (i+1) j h.2 hd.2 hj;grind[Instr.findNow]
def vK:∀(ks:U),gT ks=true↔ks.Nodup
 |[]=>by simp [gT]
 |k::r=>by
  simp only [gT,B!,M?,List.nodup_cons,vK r];rw [<-tJ,Bool.not_eq_true]
def Es {γ:Type}{f:α->γ}{m m':M γ}(h:m.Perm m'):∀(l:M α),m'=l.map f->∃l':M α,l'.Perm l/\m=l'.map f:=by
 induction h with
 |nil=>exact λl h=>⟨[],by simp_all,rfl⟩
 |cons x _ ih=>
  intro l hl;cases l with
  |nil=>cases hl
  |cons a l=>
   simp only [G?,i?] at hl;obtain⟨l',p,q⟩:=ih l hl.2;exact⟨a::l',p.cons a,by rw [G?,q,hl.1]⟩
 |swap x y l0=>
  intro l hl;match l,hl with
  |a::b::r,hl=>
   simp only [G?,i?] at hl;exact⟨b::a::r,.swap a b r,by simp [hl.1,hl.2.1,hl.2.2]⟩
 |trans _ _ ih1 ih2=>
  intro l hl;obtain⟨l2,p2,q2⟩:=ih2 l hl;obtain⟨l1,p1,q1⟩:=ih1 l2 q2;exact⟨l1,p1.trans p2,q1⟩
def VY{ks:U}(hp:yD.Perm es)(hk:es.map (·.key)=ks.map (Value.int .i64)):∃F9:U,F9.Perm ks/\yD.map (·.key)=F9.map (Value.int .i64):=
 Es (hp.map (·.key)) ks hk
def perm_keys{ks:U}(hp:yD.Perm es)(hk:es.map (·.key)=ks.map (Value.int .i64))(hn:n∉ks):∃F9:U,yD.map (·.key)=F9.map (Value.int .i64)/\n∉F9:=by
 obtain⟨F9,p,q⟩:=VY hp hk;exact⟨F9,q,λh=>hn (p.mem_iff.1 h)⟩
def Qo(n:Int){ks:U}(hp:yD.Perm es)(hk:es.map (·.key)=ks.map (Value.int .i64))(hd:gT ks=true)(hj:ks[j]? =some n):
  ∃e,es[j]? =some e/\∃i,Instr.findNow (.int .i64) (.int .i64 n) yD 0=some (some (i,e.val)):=by
 obtain⟨F9,p,q⟩:=VY hp hk;obtain⟨e,h1,_⟩:=AE n es ks 0 j hk hd hj;refine⟨e,h1,?_⟩
 have he:e.key= .int .i64 n:=by
  have :(es.map (·.key))[j]? =(ks.map (Value.int .i64))[j]? :=by rw [hk]
  simpa [B?,h1,hj] using this
 obtain⟨i,hi,hie⟩:=j? (hp.mem_iff.2 (E? h1));have fN:yD[i]? =some e:=by rw [D! hi,hie]
 have hk0:F9[i]? =some n:=by
  have :(yD.map (·.key))[i]? =(F9.map (Value.int .i64))[i]? :=by rw [q]
  rw [B?,fN,B?] at this;cases h:F9[i]? with
  |none=>rw [h] at this;cases this
  |some m=>rw [h] at this;simp [he] at this;rw [this]
 obtain⟨e',g1,g2⟩:=AE n yD F9 0 i q ((vK _).2 (p.nodup_iff.2 ((vK _).1 hd))) hk0;rw [fN] at g1;cases g1;exact⟨_,g2⟩
def Ms:∀(as_:M AV) (vs:M Value) (i:Nat) (x:AV) (v:Value),ae w A β vs as_->as_[i]? =some x->vs[i]? =some v->aa w A β v x
 |[],_,i,x,v,_,h,_=>by grind
 |a::as_,vs,i,x,v,h,hx,hv=>by
  obtain⟨u,b7,rfl,h1,h2⟩:=h;cases i with
  |zero=>
   simp at hx hv;rw [<-hx,<-hv];exact h1
  |succ i=>exact Ms as_ b7 i x v h2 (by simpa using hx) (by simpa using hv)
def Qp(hT:bA T P){ok:Bool}{ks:U}{cs:M AV}{H6:Nat}{vm:Value}(hm:aa w A β vm (.iz ks cs))
  (h:Em T H6 t ok ks cs n=some out) (hc:∀p∈out.cond,p):Reads P A β w (Instr.lookup t vm (.int .i64 n) ok) out:=by
 simp only [aa] at hm;obtain⟨b,es,ck,rfl,hA,⟨yD,hb,hp⟩,hk,hv⟩:=hm;unfold Em at h;split at h
 . rename_i te jv;obtain⟨hu,_⟩:=hT.ok t te jv;split at h
   . rename_i kt et hd;rw [hd] at hu;cases hq:(cU T kt wP&&gT ks) with
     |false=>grind
     |true=>
     rw [hq] at h;simp only [L!] at h;simp only [B!] at hq
     have xH:P.underlying kt=some (.int .i64):=by
      have h1:=hq.1;unfold cU at h1;split at h1
      . rename_i tk AF;obtain⟨hku,_⟩:=hT.ok kt tk AF;grind[wP]
      grind
     have hck:∀e,(Instr.checkKey e 10000 kt (.int .i64 n)).run P w= .ok () w:=λe=>MapKept.run_checkKey xH (by rfl) e 9999;split at h
     . rename_i k c K4 hc1;simp only [Option.some.injEq] at h;subst h;have hn:n=k:=hc _ (List.mem_cons_self ..);subst hn;obtain⟨e,he,j0,hf⟩:=Qo n hp hk hq.2 K4;have hrel:=Ms cs _ H6 c e.val hv hc1 x!;refine⟨⟨rfl,rfl,rfl⟩,(if ok then .tuple #[e.val,.bool true] else e.val),?_,?_⟩
       . simp [Instr.lookup,run_underlying hu,MapKept.run_getObj_map hb,hck,MapKept.run_findKey xH hf,Result.andThen]
       . cases ok
         . grind
         . simp only [L!,Q?,aa];exact⟨_,rfl,by simp only [ae];exact⟨_,_,rfl,hrel,_,_,rfl,by rfl,rfl⟩⟩
     . split at h
       . rename_i ee wQ;cases hz:Y7 ee.zero with
         |false=>grind
         |true=>
         rw [hz] at h;simp only [L!,A!] at h;subst h;have hn:n∉ks:=(AD n ks).1 (hc _ (I! ..));obtain⟨F9,hk0,hn0⟩:=perm_keys hp hk hn;have hf:=rW n yD.toList F9 0 hk0 hn0;obtain⟨_,i,hi,_,_,hzz⟩:=hT.ok et ee wQ
         have hz':ee.zero= .nilFunc:=by
          grind[Y7]
         have hzr:(zeroValue et).run P w= .ok .nilFunc w:=by
          simp_all[zeroValue,typeInfo,hi]
         refine⟨⟨rfl,rfl,rfl⟩,(if ok then .tuple #[.nilFunc,.bool false] else .nilFunc),?_,?_⟩
         . simp [Instr.lookup,run_underlying hu,MapKept.run_getObj_map hb,hck,MapKept.run_findKey xH hf,hzr,Result.andThen]
         . cases ok
           . rfl
           . exact⟨_,rfl,by simp only [ae];exact⟨_,_,rfl,by simp [aa],_,_,rfl,by simp [aa],rfl⟩⟩
       grind
   grind
 grind
def afU {op:UnOp}(hx:aa w A β vx x)(h:Y6 op x=some out)(hc:∀p∈out.cond,p):Reads P A β w (Op.unary op vx) out:=by
 unfold Y6 at h;split at h
 . split at h
   . simp at h;subst h;subst hx;exact⟨⟨rfl,rfl,rfl⟩,_,rfl,by rfl⟩
   grind
 . split at h
   . simp at h;subst h;subst hx;exact⟨⟨rfl,rfl,rfl⟩,_,rfl,by rfl⟩
   grind
 . split at h
   . simp at h;subst h;subst hx;exact⟨⟨rfl,rfl,rfl⟩,_,rfl,by rfl⟩
   grind
 . rename_i k n;obtain⟨rfl,hn⟩:=hx;split at h
   . obtain⟨hq,hr,_⟩:=rm (w:=w) (A:=A) (β:=β) h hc;exact⟨hq,.int k (k.wrap (0-n)),by rfl,hr⟩
   . cases hk:qV k with
     |none=>grind
     |some c=>
      simp [hk,A!] at h;subst h;have hs:k.signed=false:=by cases k<;>simp [qV] at hk<;>rfl
      have h0:0<=n:=by cases k<;>simp [qV] at hk<;>simpa [lo] using hn.1
      have hc1:c-1=hi k:=by cases k<;>simp [qV] at hk<;>subst hk<;>rfl
      have hx:(c-1-n)=k.wrap ((BitVec.ofInt k.bits (hi k)^^^BitVec.ofInt k.bits n).toNat:Int):=by
       rw [BitVec.toNat_xor,tf w! (Int.le_refl _),tf h0 hn.2]
       have e:(hi k).toNat^^^n.toNat=(hi k).toNat-n.toNat:=by
        have e2:(hi k).toNat=2^sf k-1:=by cases k<;>simp [qV] at hk<;>rfl
        rw [e2];apply Nat.eq_of_testBit_eq;grind[Nat.lt_or_ge,Nat.testBit_lt_two_pow,Nat.lt_of_lt_of_le,Nat.pow_le_pow_right]
       have hr:lo k<=(((hi k).toNat-n.toNat:Nat):Int)/\(((hi k).toNat-n.toNat:Nat):Int)<=hi k:=by
        have :lo k=0:=by cases k<;>simp [qV] at hk<;>rfl
        omega
       grind[Ay]
      have aJh:lo k<=c-1-n/\c-1-n<=hi k:=by
       have :lo k=0:=by cases k<;>simp [qV] at hk<;>rfl
       omega
      refine⟨⟨rfl,rfl,rfl⟩,.int k (c-1-n),?_,by simp_all[aa,trivial]⟩;have aaZ:k.max=hi k:=by cases k<;>simp [qV] at hk<;>rfl
      simp_all[Op.unary,Op.intBits,L?,n?,Sem.run_pure]
   grind
 grind
def Ga(s:B8)(x y:Nat)(hy:y<=s.length):(⟨s.toArray⟩:ByteArray).extract x y=⟨((s.take y).drop x).toArray⟩:=by
 apply ByteArray.ext;grind[Array.ext',ByteArray.data_extract,List.drop_take]
def run_sliceBound {k:IntKind}{y:Nat}{code:BoundsCode}(h0:0<=n)(h1:n<=(y:Int)):(Instr.sliceBound (.int k n) y code).run P w= .ok n.toNat w:=by
 simp_all[Instr.sliceBound,asIntOf]
def fJ:Option Int->Nat
 |none=>0
 |some a=>a.toNat
def bE(len:Nat):Option Int->Nat
 |none=>len
 |some b=>b.toNat
def rX(w:World)(A:Nat->Prop)(β:Nat->Value):Option AV->Option Value->Prop
 |none,none=>True
 |some x,some v=>aa w A β v x
 |_,_=>False
theorem iJ {x:Option AV}{n:Option Int}{v:Option Value}(h:vF x=some n)(hr:rX w A β x v):
  (n=none/\v=none)\/∃k m,n=some m/\v=some (.int k m):=by
 cases x with
 |none=>
  grind[vF,rX]
 |some x=>
  cases v with
  |none=>grind[rX]
  |some v=>
   cases x with
   |int k m=>
    grind[vF,Option.some.injEq,rX,aa]
   |_=>grind[vF]
def nV {s:Bool}{len:Nat}{lo hi:Option Int}{vl vh:Option Value}(hl:(lo=none/\vl=none)\/∃k m,lo=some m/\vl=some (.int k m))(hh:(hi=none/\vh=none)\/∃k m,hi=some m/\vh=some (.int k m))
  (hlen:len<=cap) (h0:∀m,hi=some m->0<=m/\m<=(len:Int)) (h1:∀m,lo=some m->0<=m/\m<=(bE len hi:Int)):
  (Instr.sliceBounds s len cap vl vh none).run P w= .ok (fJ lo,bE len hi,cap) w:=by
 rcases hl with⟨rfl,rfl⟩|⟨k,m,rfl,rfl⟩<;>rcases hh with⟨rfl,rfl⟩|⟨k',m',rfl,rfl⟩
 . rfl
 . obtain⟨g0,g1⟩:=h0 m' rfl;simp [Instr.sliceBounds,fJ,bE,run_sliceBound (P:=P) (w:=w) (k:=k') g0 (show m'<=(cap:Int) by omega)]
 . simp_all[bE,Instr.sliceBounds,fJ,run_sliceBound]
 . obtain⟨g0,g1⟩:=h0 m' rfl;obtain⟨f0,f1⟩:=h1 m rfl;simp only [bE] at f1;simp [Instr.sliceBounds,fJ,bE,run_sliceBound (P:=P) (w:=w) (k:=k') g0 (show m'<=(cap:Int) by omega),run_sliceBound (P:=P) (w:=w) (k:=k) f0 f1]
theorem yJ {row:M Ty}{l:M (Row row)}(h:Rd w A (.slice row) v l):∃ad cap,v= .slice ad l.length cap/\l.length<=cap/\cap<=maxLen:=by
 grind[Rd]
theorem VZ {row:M Ty}{ad:Option Addr}{len cap:Nat}{l:M (Row row)}(h:Rd w A (.slice row) (.slice ad len cap) l)(x y:Nat)(hx:x<=y)(hy:y<=l.length)(Ik:Option Addr)
  (had:x<cap->Ik=ad.map (·.add (x*row.length))):Rd w A (.slice row) (.slice Ik (y-x) (cap-x)) ((l.take y).drop x):=by
 obtain⟨a0,aFH,cs,h1,h2,h3,h4,h5⟩:=h;obtain⟨rfl,rfl,rfl⟩:=h1;have hs:=fI (w:=w) (A:=A) l cs y h4;have Tc:=fI (w:=w) (A:=A) (l.take y) _ x hs.1;have hlen:((l.take y).drop x).length=y-x:=by grind
 refine⟨Ik,cap-x,((cs.take (y*row.length)).drop (x*row.length)),x!,w!,w!,Tc.2,λfh=>?_⟩;have dX:cs≠ []:=by grind
 grind[rV,kD,Addr.add_mid]
theorem Il(hu:P.underlying t=some .string)(s:B8){x y c:Nat}(hy:y<=s.length)(hb:(Instr.sliceBounds false s.length s.length vl vh none).run P w= .ok (x,y,c) w):
  (Instr.sliceAt t (.string ⟨s.toArray⟩) vl vh none).run P w= .ok (.string ⟨((s.take y).drop x).toArray⟩) w:=by
 simp_all[Instr.sliceAt,Instr.slice,run_underlying,Az,Ga]
theorem sD {e:TypeId}(hu:P.underlying t=some (.slice e))(hi:P.info? e=some i)(ad:Option Addr)(len cap:Nat){x y:Nat}(hb:(Instr.sliceBounds true len cap vl vh none).run P w= .ok (x,y,cap) w):
  (Instr.sliceAt t (.slice ad len cap) vl vh none).run P w= .ok (.slice (if cap=x then ad else ad.map (·.add (x*i.size))) (y-x) (cap-x)) w:=by
 simp_all[Instr.sliceAt,Instr.slice,run_underlying,sizeOf,typeInfo,hi]
theorem nh(hT:bA T P)(ht:T.find t=some te):P.underlying t=some te.desc:=(hT.ok t te ht).1
def Tf(hT:bA T P)(hB:aw C A β st a w){lo hi mx:Option AV}{vm:Option Value}(hx:aa w A β vx x)
  (hl:rX w A β lo vl)
  (hh:rX w A β hi vh)
  (hm:rX w A β mx vm)
  (h:tF T st.h t x lo hi mx=some out) (hc:∀p∈out.cond,p):Reads P A β w (Instr.sliceAt t vx vl vh vm) out:=by
 unfold tF at h;split at h
 . rename_i s Et fN Td Zf Ac
   have hvm:vm=none:=by
    grind[iJ]
   subst hvm;have lp:=iJ Td hl;have hh':=iJ Zf hh;simp only [aa] at hx;obtain⟨rfl,hs⟩:=hx;cases hd:cU T t tc with
   |false=>grind
   |true=>
    simp only [hd,L!] at h
    have hu:P.underlying t=some .string:=by
     unfold cU at hd;cases ht:T.find t with
     |none=>grind
     |some te=>
      simp only [ht] at hd;rw [(hT.ok t te ht).1];grind[tc]
    have fin:∀(r:B8),(bE s.length fN<=s.length)->(∀m,fN=some m->0<=m/\m<=(s.length:Int))->(∀m,Et=some m->0<=m/\m<=(bE s.length fN:Int))->
      r=((s.take (bE s.length fN)).drop (fJ Et))->∃v,(Instr.sliceAt t (.string ⟨s.toArray⟩) vl vh none).run P w= .ok v w/\aa w A β v (.str r):=by
     intro r h1 h2 h3 h4;have hb:=nV (P:=P) (w:=w) (s:=false) (cap:=s.length) lp hh' (Nat.le_refl _) h2 h3;refine⟨_,Il hu s h1 hb,?_⟩;grind[aa]
    split at h
    . simp only [A!] at h;subst h;exact⟨⟨rfl,rfl,rfl⟩,fin s (by simp [bE]) z! z! (by simp [bE,fJ])⟩
    . rename_i b;simp only [Option.some.injEq] at h;subst h;obtain⟨c0,c1⟩:=eT hc;exact⟨⟨rfl,rfl,rfl⟩,fin _ (by grind[bE]) x! z! (by rfl)⟩
    . rename_i x;simp only [Option.some.injEq] at h;subst h;obtain⟨c0,c1⟩:=eT hc;exact⟨⟨rfl,rfl,rfl⟩,fin _ (by simp [bE]) z! (by grind[Option.some.injEq,bE]) (by simp [bE,fJ])⟩
    . rename_i x b;simp only [Option.some.injEq] at h;subst h;obtain⟨c0,c1,c2⟩:=eT hc;exact⟨⟨rfl,rfl,rfl⟩,fin _ (by grind[bE]) x! (by grind[Option.some.injEq,bE]) (by rfl)⟩
 . rename_i row l Et fN Td Zf Ac
   have hvm:vm=none:=by
    grind[iJ]
   subst hvm;have lp:=iJ Td hl;have hh':=iJ Zf hh;simp only [aa] at hx;cases hs:bh T t row.length with
   |false=>grind
   |true=>
    simp only [hs,L!] at h;obtain⟨e,ii,hu,jx,dQ,mQ⟩:=fk hT hs;obtain⟨ad,cap,rfl,hle,Tg⟩:=yJ hx
    have fin:∀(r:M (Row row)),(bE l.length fN<=l.length)->(fJ Et<=bE l.length fN)->(∀m,fN=some m->0<=m/\m<=(l.length:Int))->(∀m,Et=some m->0<=m/\m<=(bE l.length fN:Int))->
      r=((l.take (bE l.length fN)).drop (fJ Et))->∃v,(Instr.sliceAt t (.slice ad l.length cap) vl vh none).run P w= .ok v w/\aa w A β v (.sl row r):=by
     intro r h1 h1' h2 h3 h4;have hb:=nV (P:=P) (w:=w) (s:=true) (cap:=cap) lp hh' hle h2 h3;refine⟨_,sD hu jx ad l.length cap hb,?_⟩;grind[aa,VZ]
    split at h
    . simp only [A!] at h;subst h;exact⟨⟨rfl,rfl,rfl⟩,fin l (by simp [bE]) (by simp [fJ]) z! z! (by simp [bE,fJ])⟩
    . rename_i b;simp only [Option.some.injEq] at h;subst h;obtain⟨c0,c1⟩:=eT hc;exact⟨⟨rfl,rfl,rfl⟩,fin _ (by grind[bE]) (by simp [fJ]) x! z! (by rfl)⟩
    . rename_i x;simp only [Option.some.injEq] at h;subst h;obtain⟨c0,c1⟩:=eT hc;exact⟨⟨rfl,rfl,rfl⟩,fin _ (by simp [bE]) (by grind[bE,fJ]) z! (by grind[Option.some.injEq,bE]) (by simp [bE,fJ])⟩
    . rename_i x b;simp only [Option.some.injEq] at h;subst h;obtain⟨c0,c1,c2⟩:=eT hc;exact⟨⟨rfl,rfl,rfl⟩,fin _ (by grind[bE]) (by grind[bE,fJ]) x! (by simp only [Option.some.injEq,bE];rintro m rfl;omega) (by simp [bE,fJ])⟩
 . rename_i row l b c Td Zf Ac
   have hvl:vl=none:=by
    rcases iJ Td hl with⟨_,h⟩|⟨k,m,h,_⟩
    . exact h
    . cases h
   subst hvl
   obtain⟨kb,rfl⟩:∃kb,vh=some (.int kb b):=by
    rcases iJ Zf hh with⟨h,_⟩|⟨k,m,h,h2⟩
    . cases h
    . cases h;exact⟨k,h2⟩
   obtain⟨kc,rfl⟩:∃kc,vm=some (.int kc c):=by
    rcases iJ Ac hm with⟨h,_⟩|⟨k,m,h,h2⟩
    . cases h
    . cases h;exact⟨k,h2⟩
   simp only [aa] at hx;cases hs:bh T t row.length with
   |false=>simp [hs] at h
   |true=>
    simp only [hs,L!] at h;obtain⟨e,ii,hu,jx,dQ,mQ⟩:=fk hT hs;obtain⟨ad,cap,rfl,hle,Tg⟩:=yJ hx;simp only [A!] at h;subst h;obtain⟨c0,c1,c2⟩:=eT hc;subst c1
    have hb:(Instr.sliceBounds true l.length cap none (some (.int kb b)) (some (.int kc b))).run P w= .ok (0,b.toNat,b.toNat) w:=by
     simp [Instr.sliceBounds,run_sliceBound (P:=P) (w:=w) (k:=kc) (n:=b) (y:=cap) w! w!,run_sliceBound (P:=P) (w:=w) (k:=kb) (n:=b) (y:=b.toNat) w! w!]
    have gf:(Instr.sliceAt t (.slice ad l.length cap) none (some (.int kb b)) (some (.int kc b))).run P w=
      .ok (.slice (if b.toNat=0 then ad else ad.map (·.add (0*ii.size))) (b.toNat-0) (b.toNat-0)) w:=by
     simp [Instr.sliceAt,Instr.slice,run_underlying hu,sizeOf,typeInfo,jx,hb]
    have hR:=VZ hx 0 b.toNat w! w! (if b.toNat=0 then ad else ad.map (·.add (0*ii.size))) (λ_=>by
     by_cases hz:b.toNat=0
     . rw [M! hz];cases ad<;>simp [Addr.add]
     . rw [J! hz];cases ad<;>simp [Addr.add])
    have hlen:((l.take b.toNat).drop 0).length=b.toNat:=by rw [List.drop_zero,J?];omega
    simp only [Rd] at hR;obtain⟨a0,aFH,cs,g1,g2,g3,g4,g5⟩:=hR;simp only [Value.slice.injEq] at g1;obtain⟨g6,g7,g8⟩:=g1;rw [List.drop_zero] at hlen g4;rw [g6,Nat.sub_zero] at gf;refine⟨⟨rfl,rfl,rfl⟩,.slice a0 b.toNat b.toNat,gf,?_⟩;simp only [aa,Rd];refine⟨⟨a0,b.toNat,cs,?_,w!,w!,g4,g5⟩,a0,?_⟩<;>rw [hlen]
 . rename_i k Et fN Td Zf Ac
   have hvm:vm=none:=by
    rcases iJ Ac hm with⟨_,h⟩|⟨k,m,h,_⟩
    . exact h
    . cases h
   subst hvm;have lp:=iJ Td hl;have hh':=iJ Zf hh;split at h
   . rename_i e' row l fr hk;cases hs:bh T t row.length with
     |false=>simp [hs] at h
     |true=>
      simp only [hs,L!] at h;obtain⟨e,ii,hu,jx,dQ,mQ⟩:=fk hT hs;simp only [aa] at hx;obtain⟨rfl,_⟩:=hx
      have fin:(bE l.length fN<=l.length)->(fJ Et<=bE l.length fN)->(∀m,fN=some m->0<=m/\m<=(l.length:Int))->(∀m,Et=some m->0<=m/\m<=(bE l.length fN:Int))->
        (β k= .slice none 0 0/\l=[]/\(Instr.sliceAt t (β k) vl vh none).run P w= .ok (.slice none 0 0) w)\/∃b cap Ik,β k= .slice (some ⟨b,0,none⟩) l.length cap/\(l.length<=cap/\cap<=maxLen)/\
          (Instr.sliceAt t (β k) vl vh none).run P w= .ok (.slice Ik (bE l.length fN-fJ Et) (cap-fJ Et)) w/\(fJ Et<cap->Ik=some ⟨b,fJ Et*row.length,none⟩)/\(fJ Et=0->Ik=some ⟨b,0,none⟩):=by
       intro h1 h1' h2 h3;rcases gI hB hk with⟨g1,g2⟩|⟨b,cap,cur,g1,_,g3,g4,_⟩
       . subst g2;have hb:=nV (P:=P) (w:=w) (s:=true) (cap:=0) lp hh' (S! _) h2 h3;have hz:bE 0 fN=0:=by simpa using h1
         have hz2:fJ Et=0:=by simp only [List.length_nil] at h1';omega
         refine .inl ⟨g1,rfl,?_⟩;rw [g1,sD hu jx none 0 0 hb,hz,hz2];simp
       . have hb:=nV (P:=P) (w:=w) (s:=true) (cap:=cap) lp hh' g3 h2 h3;refine .inr ⟨b,cap,_,g1,⟨g3,g4⟩,by rw [g1];exact sD hu jx (some ⟨b,0,none⟩) l.length cap hb,λjU=>?_,λhz=>?_⟩
         . rw [J! w!,dQ];simp [Addr.add_mid]
         . split
           . rfl
           . rw [hz];simp [Addr.add]
      split at h
      . simp only [A!] at h;subst h;rcases fin (by simp [bE]) (by simp [fJ]) z! z! with⟨g1,g2,g3⟩|⟨b,cap,Ik,g1,g2,g3,_,g5⟩
        . exact⟨⟨rfl,rfl,rfl⟩,_,g3,by simp only [aa];exact⟨g1.symm,rfl⟩⟩
        . refine⟨⟨rfl,rfl,rfl⟩,_,g3,?_⟩;simp only [aa];rw [g5 rfl,g1];simp [bE,fJ,Value.oneCell']
      . rename_i b;simp only [A!] at h;subst h;obtain⟨c0,c1⟩:=eT hc;rcases fin (by simp only [bE];omega) (by simp [fJ]) (by simp only [A!];rintro m rfl;exact⟨c0,c1⟩) z! with⟨g1,g2,g3⟩|⟨bb,cap,Ik,g1,g2,g3,_,g5⟩
        . refine⟨⟨rfl,rfl,rfl⟩,_,g3,?_⟩;simp only [aa];refine .inl ⟨g1,trivial,?_⟩;subst g2;simp at c1;omega
        . refine⟨⟨rfl,rfl,rfl⟩,_,g3,?_⟩;simp only [aa];rw [g5 rfl];exact .inr ⟨bb,_,cap,g1,by simp [bE,fJ],w!⟩
      . rename_i x;simp only [A!] at h;subst h;obtain⟨c0,c1⟩:=eT hc;rcases fin (by simp [bE]) (by simp only [bE,fJ];omega) z! (by simp only [A!,bE];rintro m rfl;exact⟨c0,c1⟩) with⟨g1,g2,g3⟩|⟨bb,cap,Ik,g1,g2,g3,g4,_⟩
        . refine⟨⟨rfl,rfl,rfl⟩,_,g3,?_⟩;simp only [aa];subst g2;exact .inl ⟨z!,none,0,rfl,z!⟩
        . refine⟨⟨rfl,rfl,rfl⟩,_,g3,?_⟩;simp only [aa,bE,fJ] at g4 |-;by_cases hz:l.length-x.toNat=0
          . exact .inl ⟨hz,Ik,_,by rw [hz],w!⟩
          . exact .inr ⟨bb,_,cap,cap-x.toNat,g1,by rw [g4 w!],w!,w!,w!⟩
      . rename_i x b;simp only [A!] at h;subst h;obtain⟨c0,c1,c2⟩:=eT hc;rcases fin (by simp only [bE];omega) (by simp only [bE,fJ];omega) (by simp only [A!];rintro m rfl;exact⟨w!,c2⟩) (by simp only [A!,bE];rintro m rfl;omega) with⟨g1,g2,g3⟩|⟨bb,cap,Ik,g1,g2,g3,g4,_⟩
        . refine⟨⟨rfl,rfl,rfl⟩,_,g3,?_⟩;simp only [aa];subst g2;exact .inl ⟨by simp at c2;omega,none,0,rfl,z!⟩
        . refine⟨⟨rfl,rfl,rfl⟩,_,g3,?_⟩;simp only [aa,bE,fJ] at g4 |-;by_cases hz:b.toNat-x.toNat=0
          . exact .inl ⟨hz,Ik,_,by rw [hz],w!⟩
          . exact .inr ⟨bb,_,cap,cap-x.toNat,g1,by rw [g4 w!],w!,w!,w!⟩
   . cases h
 grind
theorem Th:∀(t:Ty) (v:Value) (x:D t),Rd w A t v x->v.oneCell'=true
 |.int _,v,x,h=>by rw [h.1];rfl
 |.bool,v,x,h=>by rw [h];rfl
 |.str,v,x,h=>by rw [h.1];rfl
 |.slice _,v,x,h=>by obtain⟨_,_,_,h1,_⟩:=h;rw [h1];rfl
theorem AG:∀(ts:M Ty) (vs:M Value) (x:Row ts),bx w A ts vs x->∀v∈vs,v.oneCell'=true
 |[],vs,_,h=>by grind[bx]
 |t::ts,vs,x,h=>by
  obtain⟨v,b7,rfl,h1,h2⟩:=h;intro u hu;rcases P!.1 hu with rfl|hu
  . exact Th t _ _ h1
  . exact AG ts b7 _ h2 u hu
def AH {row:M Ty}:∀(l:M (Row row)) (cs:M Value),dJ (bx w A row) cs l->∀v∈cs,v.oneCell'=true
 |[],cs,h=>by grind[dJ]
 |x::l,cs,⟨c1,c2,hc,h1,h2⟩=>by
  subst hc;intro u hu;rcases F!.1 hu with hu|hu
  . exact AG row c1 x h1 u hu
  . exact AH l c2 h2 u hu
theorem jn {r r':M Ty}{l:M (Row r)}{l':M (Row r')}(h:fG r r' l=some l'):∃e:r=r',e▸l=l':=by
 grind[fG,Option.some.injEq,Ty.nc]
structure Src (P:Program) (w:World) (A:Nat->Prop) (row:List Ty) (m:List (Row row)) (v:Value) (cs:List Value):Prop where
 rd:dJ (bx w A row) cs m
 len:(Builtin.lenOf v).run P w= .ok m.length w
 first :∀w':World,w'.heap=w.heap->∀n,n<=m.length->(Builtin.firstCells row.length n v).run P w'= .ok (cs.take (n*row.length)).toArray w'
 max:m.length<=maxLen
theorem Eu(h:w'.heap=w.heap)(p:Addr):w'.cell? p=w.cell? p:=by grind[World.cell?]
def rn {row:M Ty}{m:M (Row row)}{cs:M Value}{ad:Option Addr}(sh:dJ (bx w A row) cs m)(dX:cs≠ []->∃b o,ad=some ⟨b,o,none⟩/\w.rangeAt b o cs)(aaZ:m.length<=maxLen):
  Src P w A row m (.slice ad m.length cap) cs:=by
 refine⟨sh,by rfl,λw' hw n hn=>?_,aaZ⟩;have hlen:=gp m cs sh;by_cases h0:cs=[]
 . subst h0
   have hz:n*row.length=0:=by
    grind[Nat.eq_zero_or_pos,Nat.mul_eq_zero]
   cases ad with
   |none=>simp [Builtin.firstCells]
   |some p=>simp [Builtin.firstCells,hz,loadCells,loadCellsFrom]
 . obtain⟨b,o,rfl,hr⟩:=dX h0
   have jU:(cs.take (n*row.length)).length=n*row.length:=by
    simp_all
   have:=run_loadCells_list (P:=P) w' ⟨b,o,none⟩ (cs.take (n*row.length)) (λj v hv=>by
    rw [Addr.add_mid,Eu hw];exact kD hr j v hv)
   grind[Builtin.firstCells]
theorem Mt:Src P w A row ([]:M (Row row)) (.slice none 0 0) []:=
 rn (m:=([]:M (Row row))) (by rfl) (λh=>absurd rfl h) z!
theorem Ti {row:M Ty}{l:M (Row row)}(h:Rd w A (.slice row) v l):∃cs,Src P w A row l v cs:=by
 obtain⟨ad,cap,cs,rfl,h2,h3,h4,h5⟩:=h;exact⟨cs,rn h4 (λfh=>let⟨b,o,h1,_,h2⟩:=h5 fh;⟨b,o,h1,h2⟩) w!⟩
theorem Mu(s:B8):dJ (bx w A [.int .u8]) (s.map λb=>Value.int .u8 (b.toNat:Int)) s:=by
 induction s with
 |nil=>rfl
 |cons b s ih=>
  refine⟨[.int .u8 (b.toNat:Int)],s.map λb=>Value.int .u8 (b.toNat:Int),rfl,?_,ih⟩;refine⟨_,[],rfl,⟨rfl,?_,?_⟩,rfl⟩
  . simp [lo,Row.hd,DI.toInt]
  . have:=b.toNat_lt;grind[hi,Row.hd,DI.toInt]
def ajg(s:B8)(hs:s.length<=maxLen):Src P w A [.int .u8] s (.string ⟨s.toArray⟩) (s.map λb=>Value.int .u8 (b.toNat:Int)):=by
 refine⟨Mu s,by rfl,λw' hw n hn=>?_,hs⟩;simp_all[Builtin.firstCells,C?,Nat.mul_one,Sem.run_pure,Ga,Array.ext',List.map_take]
theorem pn {k:Nat}{row:M Ty}{l:M (Row row)}(hB:aw C A β st a w)(h:st.h k=some (.row e row l fr)):
  (β k= .slice none 0 0/\l=[])\/∃b cap cs,β k= .slice (some ⟨b,0,none⟩) l.length cap/\l.length<=cap/\cap<=maxLen/\dJ (bx w A row) cs l/\w.rangeAt b 0 cs:=by
 rcases gI hB h with h|⟨b,cap,cur,h1,h2,h3,h4,h5,h6,_⟩
 . grind
 . refine .inr ⟨b,cap,_,h1,h3,h4,h6,λj v hj=>?_⟩;grind[World.cell?]
def Lx(hB:aw C A β st a w)(hx:aa w A β v x){row:M Ty}{m:M (Row row)}(h:oA st.h row x=some m):∃cs,Src P w A row m v cs:=by
 unfold oA at h;split at h
 . rename_i s;obtain⟨e,h⟩:=jn h;subst e;simp only at h;subst h;simp only [aa] at hx;obtain⟨rfl,hs⟩:=hx;exact⟨_,ajg s hs⟩
 . simp only [A!] at h;subst h;simp only [aa] at hx;subst hx;exact⟨[],Mt⟩
 . rename_i h1 h2
   have key:∀r (l:M (Row r)),(je st.h x).1= .sl r l->fG r row l=some m->∃cs,Src P w A row m v cs:=by
    intro r l hp hc;obtain⟨e,hc⟩:=jn hc;subst e;simp only at hc;subst hc;unfold je at hp;split at hp
    . rename_i k;simp only [aa] at hx;split at hp
      . rename_i e' ng l' fr hk;simp only [AV.sl.injEq] at hp;obtain⟨rfl,hp⟩:=hp;simp only [heq_eq_eq] at hp;subst hp;rcases pn hB hk with⟨g1,g2⟩|⟨b,cap,cs,g1,g2,g3,g4,g5⟩
        . subst g2;rw [hx.1,g1];exact⟨[],Mt⟩
        . rw [hx.1,g1];exact⟨cs,rn g4 (λ_=>⟨b,0,rfl,g5⟩) w!⟩
      grind
    . rename_i k n;simp only [aa] at hx;split at hp
      . rename_i e' ng l' fr hk;simp only [AV.sl.injEq] at hp;obtain⟨rfl,hp⟩:=hp;simp only [heq_eq_eq] at hp;subst hp;rcases pn hB hk with⟨g1,g2⟩|⟨b,cap,cs,g1,g2,g3,g4,g5⟩
        . subst g2;rcases hx with⟨_,hv,hn⟩|⟨b,m,cap,hv,_⟩
          . subst hn;rw [hv];exact⟨[],by grind[Mt]⟩
          grind
        . rcases hx with⟨hv,_,_⟩|⟨b',m,j7,hv,VS,hle⟩
          . grind
          . rw [g1] at hv;obtain⟨rfl,rfl,rfl⟩:=hv;have hl:(l'.take n).length=n:=by grind
            rw [VS];have:=rn (P:=P) (ad:=some ⟨b,0,none⟩) (cap:=cap) (fI l' cs n g4).1 (λ_=>⟨b,0,rfl,kD g5⟩) w!;grind
      grind
    . rename_i k sz off n;simp only [aa] at hx;split at hp
      . rename_i e' ng l' fr hk;cases dQ:Nat.beq sz ng.length with
        |false=>grind
        |true=>
         have dQ:=C! dQ;subst dQ;simp only [cT,L!,AV.sl.injEq] at hp;obtain⟨rfl,hp⟩:=hp;simp only [heq_eq_eq] at hp;subst hp;rcases hx with⟨hn,ad,cap,hv,_⟩|⟨b',m,j7,Ew,hv,VS,hle,aLr,aJu⟩
         . subst hn;rw [hv];have:=rn (P:=P) (w:=w) (A:=A) (row:=ng) (m:=[]) (ad:=ad) (cap:=cap) (cs:=[]) (by rfl) (λh=>absurd rfl h) z!;grind
         . rcases pn hB hk with⟨g1,g2⟩|⟨b,cap,cs,g1,g2,g3,g4,g5⟩
           . grind
           . rw [g1] at hv;simp only [Value.slice.injEq,Option.some.injEq,Addr.mk.injEq,and_true] at hv;obtain⟨rfl,rfl,rfl⟩:=hv;have hl:((l'.drop off).take n).length=n:=by grind
             rw [VS];have:=rn (P:=P) (ad:=some ⟨b,off*ng.length,none⟩) (cap:=Ew) (fI _ _ n (fI l' cs off g4).2).1 (λ_=>⟨b,_,rfl,by have:=kD (n:=n*ng.length) (rV (n:=off*ng.length) g5);grind⟩) w!;grind
      grind
    simp_all[aa,Ti]
   split at h
   . grind
   . rename_i r l hp
     have Dg:x= .full r l:=by
      unfold je at hp;grind
     grind[aa,jn,Ti]
   grind
structure V0 (P:Program) (t t' e:TypeId) (size bytes:Nat) (z:Value):Prop where
 under:P.underlying t=some (.slice e)
 aJi:∃d,P.underlying t'=some d/\(d= .string\/∃e',d= .slice e')
 info:∃i,P.info? e=some i/\i.size=size/\i.bytes=bytes/\i.zero=some z
 ajh:z.cells.size=size
 pos:0<size
def qa {e:TypeId}{size:Nat}(hE:V0 P t t' e size bytes z){base:Option Addr}{n cap:Nat}{ayi:M Value}{x:Value}{m:Nat}{news:M Value}
  (hold:∀w':World,w'.heap=w.heap->(Builtin.firstCells size n (.slice base n cap)).run P w'= .ok ayi.toArray w')
  (hlen:(Builtin.lenOf x).run P w= .ok m w) (kY:∀w':World,w'.heap=w.heap->(Builtin.firstCells size m x).run P w'= .ok news.toArray w')
  (hg:cap<n+m) (Zg:n+m<=maxLen) (CB:(n+m)*bytes<=140737488355328):
  (Builtin.append_ #[t,t'] ty #[.slice base n cap,x]).run P w=
    .ok (.slice (some ⟨w.heap.size,0,none⟩) (n+m) (grownCap w (n+m) cap e))
      (w.drew.alloc (.cells (ayi.toArray++(news.toArray++Builtin.zeroCells z.cells (grownCap w (n+m) cap e-(n+m)))) e)):=by
 obtain⟨hu,⟨d',ni,po⟩,⟨i,hi,hs,hb,hz⟩,hzs,mQ⟩:=hE;subst hs;subst hb;have hn:¬(n+m<=cap):=by omega
 have ayj:¬(9223372036854775807<((n:Int)+(m:Int))):=by grind[maxLen]
 have h48:=growslice_fits hg CB;have ayk:¬(281474976710656<Builtin.nextslicecap (n+m) cap*i.bytes):=by omega
 have hfo:=hold w.drew rfl;have hf:=kY w.drew rfl;rcases po with rfl|⟨e',rfl⟩
 . simp [Builtin.append_,run_underlying hu,run_underlying ni,sizeOf,typeInfo,zeroValue,hi,hz,hlen,hn,ayj,ayk,Question.forced,hf,hfo,newRow,grownCap]
 . simp [Builtin.append_,run_underlying hu,run_underlying ni,sizeOf,typeInfo,zeroValue,hi,hz,hlen,hn,ayj,ayk,Question.forced,hf,hfo,newRow,grownCap]
variable {n:Nat}
def Gb {e:TypeId}{size:Nat}(hE:V0 P t t' e size bytes z){g:Nat}{cur:Array Value}(hg:w.heap[g]? =some (.cells cur e (0,0))){x:Value}{m:Nat}{news:M Value}
  (hlen:(Builtin.lenOf x).run P w= .ok m w) (kY:∀w':World,w'.heap=w.heap->(Builtin.firstCells size m x).run P w'= .ok news.toArray w')
  (hl:news.length=m*size) (h1:∀u∈news,u.oneCell'=true) (Mv:n+m<=cap) (dX:cur.size=cap*size):
  (Builtin.append_ #[t,t'] ty #[.slice (some ⟨g,0,none⟩) n cap,x]).run P w=
    .ok (.slice (some ⟨g,0,none⟩) (n+m) cap) (w.setRow g (cur.toList.take (n*size)++news++cur.toList.drop (n*size+news.length)).toArray):=by
 obtain⟨hu,⟨d',ni,po⟩,⟨i,hi,hs,hb,hz⟩,hzs,mQ⟩:=hE;subst hs;have JQ:n*i.size+news.length<=cur.size:=by rw [hl,dX,<-u?];simp_all[F?]
 have sE:=run_storeCells_at P g (n*i.size) e news 0 cur w hg w! h1;have hf:=kY w rfl;rcases po with rfl|⟨e',rfl⟩
 . simp [Builtin.append_,run_underlying hu,run_underlying ni,sizeOf,typeInfo,hi,hlen,Mv,hf,Addr.add_lit,sE]
 . simp [Builtin.append_,run_underlying hu,run_underlying ni,sizeOf,typeInfo,hi,hlen,Mv,hf,Addr.add_lit,sE]
def nX {e:TypeId}{size:Nat}(hE:V0 P t t' e size bytes z)(j9:w.ownsRow 0 e size v n xs){x:Value}{m:Nat}{news:M Value}
  (hlen:(Builtin.lenOf x).run P w= .ok m w) (kY:∀w':World,w'.heap=w.heap->(Builtin.firstCells size m x).run P w'= .ok news.toArray w')
  (hl:news.length=m*size) (h1:∀u∈news,u.oneCell'=true) (Zg:n+m<=maxLen) (CB:(n+m)*bytes<=140737488355328):
  ∃v' w',(Builtin.append_ #[t,t'] ty #[v,x]).run P w= .ok v' w'/\w'.ownsRow 0 e size v' (n+m) (xs++news)/\w.grownBy w' v.ownBlock/\∀b,ai v'=some b->ai v=some b\/w.heap.size<=b:=by
 have Tj:(xs++news).length=(n+m)*size:=by rw [K!,j9.1,hl,u?]
 have grown:∀(iP:Nat) (row:Option Nat),
   (w.drew.alloc (.cells (xs.toArray++(news.toArray++Builtin.zeroCells z.cells (grownCap w (n+m) iP e-(n+m)))) e)).ownsRow 0 e size
     (.slice (some ⟨w.heap.size,0,none⟩) (n+m) (grownCap w (n+m) iP e)) (n+m) (xs++news)/\
   w.grownBy (w.drew.alloc (.cells (xs.toArray++(news.toArray++Builtin.zeroCells z.cells (grownCap w (n+m) iP e-(n+m)))) e)) row:=by
  intro iP row;have Qq:=grownCap_ge w (n+m) iP e;have Ey:grownCap w (n+m) iP e<=maxLen:=grownCap_le_maxLen w (n+m) iP e Zg;refine⟨⟨Tj,.inr ⟨w.heap.size,_,_,rfl,w!,heap_alloc_new w.drew _,Qq,Ey,?_,?_⟩⟩,⟨rfl,rfl,rfl,z!,λk hk _=>heap_alloc_old w.drew _ k hk⟩⟩
  . simp only [Array.size_append,List.size_toArray,size_zeroCells,hE.ajh,j9.1,hl,<-Nat.add_mul];grind
  grind
 rcases j9.2 with⟨rfl,rfl⟩|⟨g,cap,cur,rfl,hbg,hg,hnc,Ey,dX,aJw⟩
 . have hx:xs=[]:=List.eq_nil_of_length_eq_zero x!;subst hx;by_cases hm:m=0
   . subst hm;have hn:news=[]:=List.eq_nil_of_length_eq_zero w!;subst hn;refine⟨.slice none 0 0,w,?_,x!,⟨rfl,rfl,rfl,Nat.le_refl _,λ_ _ _=>rfl⟩,x!⟩;obtain⟨hu,⟨d',ni,po⟩,⟨i,hi,hs,hb,hz⟩,hzs,mQ⟩:=hE;subst hs;have hf:=kY w rfl;rcases po with rfl|⟨e',rfl⟩
     . simp [Builtin.append_,run_underlying hu,run_underlying ni,sizeOf,typeInfo,hi,hlen,hf]
     . simp [Builtin.append_,run_underlying hu,run_underlying ni,sizeOf,typeInfo,hi,hlen,hf]
   . have hold:∀w':World,w'.heap=w.heap->(Builtin.firstCells size 0 (.slice none 0 0)).run P w'= .ok ([]:M Value).toArray w':=λw' _=>by rfl
     have hr:=qa (ty:=ty) hE hold hlen kY w! Zg CB;have hgr:=grown 0 (Value.ownBlock (.slice none 0 0));grind[ai,Option.some.injEq]
 . by_cases Mv:n+m<=cap
   . have JQ:n*size+news.length<=cur.size:=by rw [hl,dX,<-u?];simp_all[F?]
     have hr:=Gb (ty:=ty) hE hg hlen kY hl h1 Mv dX;refine⟨_,_,hr,⟨Tj,.inr ⟨g,cap,_,rfl,hbg,setRow_heap w g cur _ e _ hg,Mv,Ey,?_,?_⟩⟩,⟨rfl,rfl,rfl,z!,λk _ hk=>setRow_other w g k _ (λe=>hk (by grind[Value.ownBlock]))⟩,λb hb=>.inl hb⟩
     . grind
     grind
   . have holds:=j9.cells (g:=g) rfl
     have hold:∀w':World,w'.heap=w.heap->(Builtin.firstCells size n (.slice (some ⟨g,0,none⟩) n cap)).run P w'= .ok xs.toArray w':=λw' hw'=>by
      grind[run_loadCells_list,Eu,Builtin.firstCells]
     have hr:=qa (ty:=ty) hE hold hlen kY w! Zg CB;have hgr:=grown cap (Value.ownBlock (.slice (some ⟨g,0,none⟩) n cap));grind[ai,Option.some.injEq]
theorem aw.newRow(hB:aw C A β st a w)(hd:∀t,dst=some t->t<st.n){row:M Ty}{l:M (Row row)}{cond:M Prop}{del:M Nat}{rw :Option Nat}{xs:M Value}
  (gJ:st.h d=none/\rl d=false) (hg:w.grownBy w' rw) (mP:∀b,rw=some b->∃k,ay del k=true/\(st.h k).isSome/\ai (β k)=some b) (lR:∀b,rw=some b->¬A b)
  (j9:w'.ownsRow 0 e row.length v' l.length xs) (sh:dJ (bx w A row) xs l) (hblk:∀b,ai v'=some b->rw=some b\/w.heap.size<=b):
  aw C A (bl β d v') (st.put dst {cond:=cond,res:=.own d,del:=del,new:=[(d,.row e row l false)]}) (a.put dst v') w':=by
 have hK:cg w w' A A:=λb hb=>⟨hb,hg.block b (hB.bound b hb) (λh=>lR b h.symm hb)⟩
 have hf:∀k b,al [(d,AB.row e row l false)] k=some b->k=d/\b= .row e row l false:=by
  grind[al,aP]
 refine hB.step (out:={cond:=cond,res:=.own d,del:=del,new:=[(d,.row e row l false)]}) hd ?_ (by simp [al]) ?_ hK hg.os hg.tape hg.output hg.size ?_ (λb hb=>I? (hB.bound b hb) hg.size) (λb hb=>.inl hb) (by simp [al]) ?_ ?_ ?_ ?_
 . grind
 . intro k h;have :k≠d:=by rintro rfl;simp [al] at h
   grind[bl]
 . intro b hb ht;refine hg.block b hb (λh=>?_);obtain⟨k,h1,h2,h3⟩:=mP b h.symm;exact ht k ⟨h2,.inr h1⟩ h3
 . intro k ab h;obtain⟨rfl,rfl⟩:=hf k ab h;refine⟨xs,by simpa [bl] using j9,br (λc x hx=>bz hK row c x hx) l xs sh,λb hb=>?_⟩;simp [bl,Q?] at hb;rcases hblk b hb with h|h
   . exact lR b h
   . intro hA;exact absurd (hB.bound b hA) w!
 . intro k b ab h hb;obtain⟨rfl,_⟩:=hf k ab h;simp [bl,Q?] at hb;rcases hblk b hb with h|h
   . exact .inr (let⟨k,h1,h2,h3⟩:=mP b h;⟨k,h1,h2,h3⟩)
   . exact .inl h
 . intro k k' b h h' _ _;obtain⟨x,hx⟩:=R!.1 h;obtain⟨y,hy⟩:=R!.1 h';rw [(hf k x hx).1,(hf k' y hy).1]
 . simp [aa,bl,Q?,true_and]
   obtain⟨ad,l',c,rfl⟩:∃ad l c,v'= .slice ad l c:=by
    rcases j9.2 with⟨rfl,_⟩|⟨g,cap,cur,rfl,_⟩
    . exact⟨_,_,_,rfl⟩
    . exact⟨_,_,_,rfl⟩
   rfl
def tU(hT:bA T P){e:TypeId}(h1:o9 T t=some e)(h2:mN T t=some te):P.underlying t=some (.slice e)/\T.find e=some te/\∃i,P.info? e=some i/\i.size=te.size/\i.bytes=te.bytes/\i.zero=some te.zero:=by
 unfold o9 at h1;unfold mN at h2;cases ht:T.find t with
 |none=>grind
 |some tt=>
  simp [ht] at h1 h2;cases hd:tt.desc with
  |slice e'=>
   simp [hd,Option.some.injEq] at h1 h2;subst h1;exact⟨by grind[nh],h2,(hT.ok _ _ h2).2⟩
  |_=>grind
theorem qb(z:Value):(ofConst z).cells.length=z.cells.size:=by
 unfold ofConst;split
 . simp [AV.cells,Value.cells]
 . rename_i h
   have h1:(Cy z).cells.length=1:=by
    unfold Cy;split
    . split<;>rfl
    . split<;>rfl
    . rename_i s;cases Nat.ble s.data.toList.length 1000000<;>rfl
    all_goals rfl
   rw [h1];cases z<;>first|rfl|grind
theorem tV {k x:Nat}(h:n<=x/k):n*k<=x:=X? (F? _ h) (Nat.div_mul_le_self x k)
def pq(hT:bA T P){f:TypeDesc->Bool}(h:cU T t f=true):∃d,P.underlying t=some d/\f d=true:=by
 grind[cU,nh]
theorem Mw {d:TypeDesc}(h:Cz d=true):d= .string\/∃e,d= .slice e:=by
 cases d<;>simp_all [Cz]
def Mx(hB:aw C A β st a w){k:Nat}{row:M Ty}{l:M (Row row)}(h:st.h k=some (.row e row l false)):
  ∃xs,w.ownsRow 0 e row.length (β k) l.length xs/\dJ (bx w A row) xs l/\∀b,ai (β k)=some b->¬A b:=by
 obtain⟨xs,h1,h2,h3⟩:=hB.blocks k _ h;grind
theorem yK(h:(∃ad l c,v= .slice ad l c)):v.ownBlock=ai v:=by
 obtain⟨ad,l,c,rfl⟩:=h;cases ad<;>rfl
theorem jy{size:Nat}(h:w.ownsRow 0 e size v n xs):∃ad l c,v= .slice ad l c:=by
 rcases h.2 with⟨rfl,_⟩|⟨g,cap,cur,rfl,_⟩
 . grind
 grind
def Qr(hT:bA T P)(hB:aw C A β st a w)(hd:∀t,dst=some t->t<st.n)(gJ:st.h d=none/\rl d=false){s:AV}{vs:Value}(hs:aa w A β vs s)(hx:aa w A β vx x)
  (h:rk T st.h d t t' s x=some out) (hc:∀p∈out.cond,p):∃v' w',(Builtin.append_ #[t,t'] ty #[vs,vx]).run P w= .ok v' w'/\Rel C (st.put dst out) (a.put dst v') w':=by
 unfold rk at h;split at h
 . rename_i e te he jv;split at h
   . rename_i row mP;obtain⟨hu,Dh,i,hi,si,My,Im⟩:=tU hT he jv;cases hq:(Nat.beq row.length te.size&&Nat.blt 0 te.size&&Nat.beq (ofConst te.zero).cells.length te.size&&cU T t' Cz) with
     |false=>grind
     |true=>
      simp only [hq,cond_true] at h;simp only [Bool.and_eq_true] at hq;obtain⟨⟨⟨q1,q2⟩,q3⟩,q4⟩:=hq;have q1:=Nat.eq_of_beq_eq_true q1;have q2:=Nat.le_of_ble_eq_true q2;have q3:=Nat.eq_of_beq_eq_true q3;obtain⟨d',ni,po⟩:=pq hT q4;have hE:V0 P t t' e row.length te.bytes te.zero:=⟨hu,⟨d',ni,Mw po⟩,⟨i,hi,w!,My,Im⟩,by grind[qb],w!⟩;split at h
      . rename_i m hm;obtain⟨cs,iQ⟩:=Lx (P:=P) hB hx hm;have hlen:=gp m cs iQ.rd;have kT:=AH m cs iQ.rd
        have kY:∀w':World,w'.heap=w.heap->(Builtin.firstCells row.length m.length vx).run P w'= .ok cs.toArray w':=λw' hw'=>by
         have:=iQ.first w' hw' m.length (Nat.le_refl _);grind
        split at h
        . 
         simp only [Option.some.injEq] at h;subst h;have pr:=eT hc;simp only [aa] at hs;subst hs;have j9:=World.ownsRow_nil w 0 e row.length;obtain⟨v',w',g1,g2,g3,g4⟩:=nX (ty:=ty) hE j9 iQ.len kY hlen kT (by have:=Nat.le_trans pr (Nat.div_le_self _ _);grind[maxLen]) (by simp_all[tV]);refine⟨v',w',g1,Rel.jP (hB.newRow hd gJ (rw:=none) (by grind[Value.ownBlock]) z! z! x! iQ.rd (λb hb=>?_))⟩;grind[ai]
        . rename_i k;split at h
          . rename_i e' ng l hk;cases wQ:Nat.beq e' e with
            |false=>grind
            |true=>
             have wQ:=C! wQ;subst wQ;simp only [cT,L!] at h;split at h
             . rename_i l' lp;simp only [Option.some.injEq] at h;subst h;have pr:=eT hc;obtain⟨er,lp⟩:=jn lp;subst er;simp only at lp;subst lp;simp only [aa] at hs;obtain⟨rfl,_⟩:=hs;obtain⟨xs,o1,o2,o3⟩:=Mx hB hk;obtain⟨v',w',g1,g2,g3,g4⟩:=nX (ty:=ty) hE o1 iQ.len kY hlen kT (by have:=Nat.le_trans pr (Nat.div_le_self _ _);unfold maxLen;omega) (tV pr);rw [yK (jy o1)] at g3;refine⟨v',w',g1,Rel.jP (hB.newRow hd gJ (rw:=ai (β k)) g3 (λb hb=>⟨k,by simp [ay],by simp [hk],hb⟩) o3 (by simpa using g2) (j8 l m xs cs o2 iQ.rd) (λb hb=>g4 b hb))⟩
             grind
          grind
        . rename_i k n;split at h
          . rename_i e' ng l hk;cases wQ:Nat.beq e' e with
            |false=>simp [wQ] at h
            |true=>
             have wQ:=C! wQ;subst wQ;simp only [cT,L!] at h;split at h
             . rename_i l' lp;simp only [A!] at h;subst h;have pr:=eT hc;obtain⟨er,lp⟩:=jn lp;subst er;simp only at lp;subst lp;obtain⟨xs,o1,o2,o3⟩:=Mx hB hk;have Ez:=fI l xs n o2;simp only [aa] at hs
               have j9:w.ownsRow 0 e' ng.length vs n (xs.take (n*ng.length))/\n<=l.length/\ai vs=ai (β k):=by
                rcases hs with⟨h1,h2,h3⟩|⟨b,mm,cap,h1,h2,h3⟩
                . subst h3;subst h2;rw [h1];exact⟨by simpa using World.ownsRow_nil w 0 e' ng.length,w!,rfl⟩
                . rcases o1.2 with⟨g1,_⟩|⟨g,j7,cur,g1,g2,g3,g4,g5,g6,g7⟩
                  . rw [h1] at g1;cases g1
                  . rw [h1] at g1;simp only [Value.slice.injEq,A!,Addr.mk.injEq,z?] at g1;obtain⟨rfl,rfl,rfl⟩:=g1;refine⟨⟨?_,.inr ⟨b,cap,cur,h2,w!,g3,w!,g5,g6,?_⟩⟩,h3,by rw [h1,h2];rfl⟩
                    . rw [J?,o1.1];exact Nat.min_eq_left (F? _ h3)
                    . rw [<-g7,List.take_take,Nat.min_eq_left (F? _ h3)]
               obtain⟨j9,hnl,hbv⟩:=j9;obtain⟨v',w',g1,g2,g3,g4⟩:=nX (ty:=ty) hE j9 iQ.len kY hlen kT (by have:=Nat.le_trans pr (Nat.div_le_self _ _);unfold maxLen;omega) (tV pr);rw [yK (jy j9),hbv] at g3;refine⟨v',w',g1,Rel.jP (hB.newRow hd gJ (rw:=ai (β k)) g3 (λb hb=>⟨k,by simp [ay],by simp [hk],hb⟩) o3 ?_ (j8 _ m _ cs Ez.1 iQ.rd) (λb hb=>by rw [<-hbv];exact g4 b hb))⟩;have :(l.take n++m).length=n+m.length:=by simp;omega
               rw [this];exact g2
             . cases h
          . cases h
        . rename_i r l;split at h
          . rename_i l' lp;simp only [A!] at h;subst h;have hc0:=eT hc;have pr:=ayh hc;obtain⟨er,lp⟩:=jn lp;subst er;simp only at lp;subst lp;simp only [aa] at hs;obtain⟨sh,ad,rfl⟩:=hs;obtain⟨Gc,Zh⟩:=Ti (P:=P) sh;have Zi:=gp l Gc Zh.rd
            have hold:∀w':World,w'.heap=w.heap->(Builtin.firstCells r.length l.length (.slice ad l.length l.length)).run P w'= .ok Gc.toArray w':=λw' hw'=>by
             have:=Zh.first w' hw' l.length (S! _);rwa [<-Zi,List.take_length] at this
            have Zg:l.length+m.length<=maxLen:=by have:=Nat.le_trans pr (Nat.div_le_self _ _);unfold maxLen;omega
            have hr:=qa (ty:=ty) hE hold iQ.len kY w! Zg (tV pr);refine⟨_,_,hr,Rel.jP (hB.newRow hd gJ (rw:=none) (xs:=Gc++cs) ⟨rfl,rfl,rfl,z!,λk hk _=>heap_alloc_old w.drew _ k hk⟩ z! z! ?_ (j8 l m Gc cs Zh.rd iQ.rd) (λb hb=>.inr (by simp only [ai,A!] at hb;omega)))⟩;have Qq:=grownCap_ge w (l.length+m.length) l.length e;have Ey:=grownCap_le_maxLen w (l.length+m.length) l.length e Zg;have hll:(Gc++cs).length=(l.length+m.length)*r.length:=by rw [K!,Zi,hlen,u?]
            rw [K!];refine⟨hll,.inr ⟨w.heap.size,_,_,rfl,w!,heap_alloc_new w.drew _,Qq,Ey,?_,?_⟩⟩
            . simp only [Array.size_append,List.size_toArray,size_zeroCells,hE.ajh,Zi,hlen,<-u?];congr 1
              omega
            . simp only [Array.toList_append];rw [<-W!,<-hll];exact List.take_left
          . cases h
        grind
      grind
   grind
 grind
def one_cell:∀(x:AV),x.one=true->aa w A β v x->v.oneCell'=true
 |.cF,h,_|.undef,h,_|.agg _,h,_|.bf _,h,_=>by grind[AV.one]
 |.int _ _,_,h=>by rw [h.1];rfl
 |.bool _,_,h|.tt,_,h|.ff,_,h=>by rw [h];rfl
 |.str _,_,h=>by rw [h.1];rfl
 |.nil,_,h|.lb,_,h=>by rw [h];rfl
 |.pW _ _,_,h=>by obtain⟨b,h,_⟩:=h;rw [h];rfl
 |.mi,_,h=>by rw [h];rfl
 |.sl _ _,_,h|.full _ _,_,h=>by grind[aa,Th]
 |.cQ _ _ _,_,h|.qW _ _,_,h=>by obtain⟨b,o,cs,h,_⟩:=h;rw [h];rfl
 |.own _,_,h=>by grind[aa]
 |.pre _ _,_,h=>by
   rcases h with⟨_,h,_⟩|⟨b,m,cap,_,h,_⟩<;>rw [h]<;>rfl
 |.view _ _ _ _,_,h=>by
   rcases h with⟨_,ad,c,h,_⟩|⟨b,m,cap,j7,_,h,_⟩<;>rw [h]<;>rfl
 |.ref _ _,_,h=>by obtain⟨b,_,h⟩:=h;rw [h];rfl
 |.elem _ _ _ _,_,h=>by obtain⟨b,m,cap,_,h⟩:=h;rw [h];rfl
 |.fn _ _ _,_,h=>by obtain⟨_,_,h,_⟩:=h;rw [h];rfl
 |.iz _ _,_,h=>by obtain⟨_,_,_,h,_⟩:=h;rw [h];rfl
theorem cells_one(h:v.oneCell'=true):v.cells= #[v]:=by
 cases v<;>simp_all [Value.oneCell',Value.cells]
theorem Mz:∀(xs:M AV) (vs:M Value),xs.all AV.one=true->ae w A β vs xs->∀v∈vs,v.oneCell'=true
 |[],vs,_,h=>by grind[ae]
 |x::xs,vs,ho,h=>by
  obtain⟨v,b7,rfl,h1,h2⟩:=h;simp only [List.all_cons,B!] at ho;intro u hu;rcases P!.1 hu with rfl|hu
  . exact one_cell x ho.1 h1
  . exact Mz xs b7 ho.2 h2 u hu
def yL(ho:x.cells.all AV.one=true)(h:aa w A β v x):ae w A β v.cells.toList x.cells/\(∀u∈v.cells.toList,u.oneCell'=true)/\v.cells.size=x.cells.length:=by
 by_cases hx:∃cs,x= .agg cs
 . obtain⟨cs,rfl⟩:=hx;obtain⟨arr,rfl,h⟩:=h;have:=dZ cs _ h;grind[Mz,Value.cells,AV.cells]
 . have hc:x.cells=[x]:=by cases x<;>first|rfl|grind
   rw [hc] at ho |-;have ho':x.one=true:=by grind
   have h1:=one_cell x ho' h;rw [cells_one h1];refine⟨by grind[ae],x!,rfl⟩
def fv:∀(xs ys:M AV) (us vs:M Value),ae w A β us xs->ae w A β vs ys->ae w A β (us++vs) (xs++ys)
 |[],ys,us,vs,h,h'=>by grind[ae]
 |x::xs,ys,us,vs,h,h'=>by
  obtain⟨v,Ib,rfl,h1,h2⟩:=h;exact⟨v,Ib++vs,rfl,h1,fv xs ys Ib vs h2 h'⟩
def AI {cs vs:M AV}{arr us:M Value}(h:ae w A β arr cs)(hv:ae w A β us vs):ae w A β (arr.take off++us++arr.drop (off+us.length)) (Lv cs off vs):=by
 have hl:=dZ vs us hv;rw [hl];exact fv _ _ _ _ (fv _ _ _ _ (my cs arr off h).1 hv) (my cs arr _ h).2
def pt(hT:bA T P){t:Nat}(h:iW T t n=true):∃i,P.info? t=some i/\i.size=n:=by
 unfold iW at h;cases ht:T.find t with
 |none=>grind
 |some te=>
  obtain⟨_,i,hi,hs,_⟩:=hT.ok t te ht;simp_all
def lS(hi:P.info? t=some i)(hs:v.cells.size=i.size)(h1:∀u∈v.cells.toList,u.oneCell'=true){b:Nat}{arr:Array Value}{e:TypeId}(hg:w.heap[b]? =some (.cells arr e (0,0)))
  (JQ:off+v.cells.size<=arr.size):(Instr.storeAt t (.pointer (some ⟨b,off,none⟩)) v).run P w= .ok () (w.setRow b (arr.toList.take off++v.cells.toList++arr.toList.drop (off+v.cells.toList.length)).toArray):=by
 have:=run_storeCells_at P b off e v.cells.toList 0 arr w hg w! h1;simp_all[Nat.add_zero,Instr.storeAt,Instr.sureAddr,storeVar,sizeOf,typeInfo,hi]
def wR(b:Nat)(cs:Array Value):(w.setRow b cs).os=w.os/\(w.setRow b cs).tape=w.tape/\(w.setRow b cs).output=w.output/\(w.setRow b cs).heap.size=w.heap.size:=⟨rfl,rfl,rfl,z!⟩
theorem aw.write(hB:aw C A β st a w)(hd:∀t,dst=some t->t<st.n){out:Out}{k b:Nat}{ab:AB}{fz:M Nat}{new:Array Value}{e:Nat}{iP:Array Value}{v:Value}
  (fH:(st.h k).isSome) (hb:ai (β k)=some b) (lR:¬A b) (hg:w.heap[b]? =some (.cells iP e (0,0)))
  (vG:out.new=[]/\out.del=[]/\out.gz=(k,ab)::cM st.h fz) (Di:∀j∈fz,j≠k/\∃e row l fr,st.h j=some (.row e row l fr))
  (lQ:∀A',(∀b',A b'->A' b')->(∀b',A' b'->A b'\/∃j∈fz,ai (β j)=some b')->(∀j∈fz,∀b',ai (β j)=some b'->A' b')->BR (w.setRow b new) A' β k ab)
  (xF:aa (w.setRow b new) A β v out.res) (aFI:out.raw=[]:=by rfl):Rel C (st.put dst out) (a.put dst v) (w.setRow b new):=by
 obtain⟨o1,o2,o3⟩:=vG;let A':Nat->Prop:=λb'=>A b'\/∃j∈fz,ai (β j)=some b'
 have jU:∀j b',(st.h j).isSome->ai (β j)=some b'->b'<w.heap.size:=by
  intro j b' hj fb;obtain⟨ab,lQ⟩:=R!.1 hj;have fi:=hB.blocks j ab lQ;cases ab with
  |mp b2 es ck=>
   obtain⟨h1,h2,_⟩:=fi;grind[ai,Option.some.injEq,Array.getElem?_eq_some_iff]
  |arr _ _|fvar _ _=>
   obtain⟨b'',arr,e,h1,h2,_⟩:=fi;rw [h1] at fb;simp only [ai,A!] at fb;subst fb;exact(Q!.1 h2).1
  |cells cs=>
   obtain⟨b'',arr,e,h1,h2,_⟩:=fi;grind[ai,Option.some.injEq,Array.getElem?_eq_some_iff]
  |row e row l fr=>
   obtain⟨xs,h1,_⟩:=fi;rcases h1.2 with⟨hn,_⟩|⟨g,cap,cur,hv,_,hg,_⟩
   . rw [hn] at fb;simp [ai] at fb
   grind[ai,Option.some.injEq,Array.getElem?_eq_some_iff]
  |iu e j row l i=>
   obtain⟨xs,v0,h1,_⟩:=fi;rcases h1.2 with⟨hn,_⟩|⟨g,cap,cur,hv,_,hg,_⟩
   . grind[ai]
   grind[ai,Option.some.injEq,Array.getElem?_eq_some_iff]
  |views _ _ _ _ _|fo _ _ _|bc _ _ _ _|eF _ _ _ _=>
   obtain⟨xs,h1,_⟩:=fi;rcases h1.2 with⟨hn,_⟩|⟨g,cap,cur,hv,_,hg,_⟩
   . grind[ai]
   grind[ai,Option.some.injEq,Array.getElem?_eq_some_iff]
 have mR:∀b',b'≠b->(w.setRow b new).heap[b']? =w.heap[b']? :=λb' h=>setRow_other w b b' new (λh'=>h h');have hK0:cg w (w.setRow b new) A A:=λb' h=>⟨h,mR b' (λh'=>lR (h'▸h))⟩;have hK:cg w (w.setRow b new) A A':=λb' h=>⟨.inl h,mR b' (λh'=>lR (h'▸h))⟩;have Qs:cg (w.setRow b new) (w.setRow b new) A A':=λb' h=>⟨.inl h,rfl⟩
 have Zj:∀(fz:M Nat) j x,al (cM st.h fz) j=some x->j∈fz/\∃e row l fr,st.h j=some (.row e row l fr)/\x= .row e row l true:=by
  intro fz;induction fz with
  |nil=>grind[cM,al]
  |cons i fz ih=>
   intro j x h;simp only [cM] at h;split at h
   . rename_i e row l fr hi;simp only [al] at h;by_cases V1:j=i
     . grind
     simp_all[aP,O!]
   grind
 have aFJ:∀(fz:M Nat) j,j∈fz->(∃e row l fr,st.h j=some (.row e row l fr))->(al (cM st.h fz) j).isSome:=by
  intro fz;induction fz with
  |nil=>grind
  |cons i fz ih=>
   intro j h hr;simp only [cM];by_cases V1:j=i
   . subst V1;obtain⟨e,row,l,fr,hr⟩:=hr;simp [hr,al]
   . have:=ih j ((P!.1 h).resolve_left V1) hr;split
     . simp only [al,aP V1,O!];exact this
     . exact this
 have Mm:∀j x,al out.gz j=some x->(j=k/\x=ab)\/(j≠k/\j∈fz/\∃e row l fr,st.h j=some (.row e row l fr)/\x= .row e row l true):=by
  intro j x h;rw [o3] at h;simp only [al] at h;by_cases Dj:j=k
  . subst Dj;simp only [cT,L!,A!] at h;exact .inl ⟨rfl,h.symm⟩
  . simp only [aP Dj,O!] at h;obtain⟨h1,h2⟩:=Zj fz j x h;exact .inr ⟨Dj,h1,h2⟩
 have AF:oM st out k:=⟨fH,.inl (by rw [o3];simp [al])⟩;refine⟨A',β,hB.step hd (by rw [o1];simp [al]) ?_ (λ_ _=>rfl) hK rfl rfl rfl z! ?_ ?_ ?_ ?_ (by rw [o1];simp [al]) (by rw [o1];simp [al]) (by rw [o1];simp [al]) (jf Qs _ _ xF) aFI⟩
 . intro j x h;rcases Mm j x h with⟨rfl,_⟩|⟨_,_,e,row,l,fr,h,_⟩
   . exact fH
   . simp [h]
 . intro b' _ ht;exact mR b' (λh=>ht k AF (h▸hb))
 . intro b' h;rw [(wR b new).2.2.2];rcases h with h|⟨j,hj,Zk⟩
   . exact hB.bound b' h
   . obtain⟨_,e,row,l,fr,hr⟩:=Di j hj;exact jU j b' (by simp [hr]) Zk
 . intro b' h;rcases h with h|⟨j,hj,Zk⟩
   . exact .inl h
   . obtain⟨Dj,hr⟩:=Di j hj;refine .inr (.inr ⟨j,⟨by obtain⟨e,row,l,fr,hr⟩:=hr;simp [hr],.inl ?_⟩,Zk⟩);rw [o3];simp only [al,aP Dj,O!];exact aFJ fz j hj hr
 . intro j x h _;rw [o1];simp only [bH];rcases Mm j x h with⟨rfl,rfl⟩|⟨Dj,hj,e',row,l,fr,hr,rfl⟩
   . exact lQ A' (λ_ h=>.inl h) (λ_ h=>h) (λj hj b' h=>.inr ⟨j,hj,h⟩)
   . obtain⟨xs,h1,h2,h3⟩:=hB.blocks j _ hr;have AJ:∀b',ai (β j)=some b'->b'≠b:=λb' h h'=>Dj (hB.apart j k b (by simp [hr]) fH (h'▸h) hb);refine⟨xs,c9 h1 (λb' h=>mR b' (AJ b' h)),br (λc x hx=>bz hK row c x hx) l xs h2,λb' h=>?_⟩;simp only [Q?];exact .inr ⟨j,hj,h⟩
def xI(hT:bA T P)(hB:aw C A β st a w)(hd:∀t,dst=some t->t<st.n){k off:Nat}(hp:aa w A β vp (.ref k off))(hx:aa w A β vx x)
  (h:iA T st.h t (.ref k off) x=some out):∃w',(Instr.storeAt t vp vx).run P w= .ok () w'/\Rel C (st.put dst out) (a.put dst undef) w':=by
 simp [iA] at h;split at h
 . rename_i cs hk;cases hq:(x.cells.all AV.one&&iW T t x.cells.length&&Nat.ble (off+x.cells.length) cs.length) with
   |false=>grind
   |true=>
    simp [hq,L!,A!] at h;subst h;simp only [B!] at hq;obtain⟨⟨q1,q2⟩,q3⟩:=hq;have q3:=N! q3;obtain⟨i,hi,dQ⟩:=pt hT q2;obtain⟨c1,c2,c3⟩:=yL q1 hx;obtain⟨b,bJ,rfl⟩:=hp;obtain⟨b',arr,e,h1,h2,h3,h4,h5⟩:=hB.blocks k _ hk;rw [bJ] at h1;simp at h1;subst h1;have hlen:=dZ cs _ h4;have hb:ai (β k)=some b:=by rw [bJ];rfl
    refine⟨_,lS hi w! c2 h2 x!,?_⟩;refine hB.write hd (k:=k) (fz:=[]) (ab:=.cells (Lv cs off x.cells)) x! hb h3 h2 ⟨rfl,rfl,rfl⟩ z! ?_ (by rfl);intro A' hA1 Zl hA3;have hK:cg w (w.setRow b (arr.toList.take off++vx.cells.toList++arr.toList.drop (off+vx.cells.toList.length)).toArray) A A':=λb' h=>⟨hA1 b' h,setRow_other w b b' _ (λh'=>h3 (h'▸h))⟩;refine⟨b,_,e,bJ,setRow_heap w b arr _ e _ h2,λh=>?_,cJ hK _ _ (AI h4 c1),?_⟩
    . grind
    grind
 grind
theorem Q6 {k:IntKind}{n:Int}(h:lo k<=n/\n<=hi k):DI.toInt k (DI.ofInt k n)=n:=by
 cases k<;>try rfl
 grind[lo,hi,DI.toInt,DI.ofInt,UInt8.toNat_ofNat']
theorem MA:∀(t:Ty) (x:AV) (v:Value) (d:D t),aa w A β v x->VN t x=some d->Rd w A t v d:=by
 intro t x v d h hd;unfold VN at hd;split at hd
 . grind[Option.some.injEq,aa,Rd,Q6]
 . grind[Option.some.injEq,Rd,aa]
 . grind[Option.some.injEq,Rd,aa]
 . grind[Option.some.injEq,Rd,aa]
 . grind[Option.some.injEq,Rd,aa]
 . grind[jn,aa]
 . grind[jn,aa]
 . simp at hd;subst hd;simp [aa] at h;exact⟨none,0,[],w!,z!,z!,by rfl,z!⟩
 grind
theorem wS {t:Ty}:∀(ts:M Ty) (x:D t) (y:Row ts),Row.hd (Row.mk x y:Row (t::ts))=x
 |[],_,_|_::_,_,_=>rfl
theorem AK {t:Ty}:∀(ts:M Ty) (x:D t) (y:Row ts),Row.tl (Row.mk x y:Row (t::ts))=y
 |[],_,_|_::_,_,_=>rfl
theorem nj:∀(ts:M Ty) (xs:M AV) (vs:M Value) (r:Row ts),ae w A β vs xs->lf ts xs=some r->bx w A ts vs r
 |[],[],vs,r,h,_=>by grind[ae,bx]
 |t::ts,x::xs,vs,r,h,hr=>by
  obtain⟨v,b7,rfl,h1,h2⟩:=h;simp [lf] at hr;split at hr
  . rename_i d y hd hy;simp at hr;subst hr;exact⟨v,b7,rfl,by rw [wS];exact MA t x v d h1 hd,by rw [AK];exact nj ts xs b7 y h2 hy⟩
  . cases hr
 |[],_::_,_,_,_,hr|_::_,[],_,_,_,hr=>by grind[lf]
def JR:∀(ts:M Ty) (r:Row ts) (j:Nat) (x:AV) (cs:M Value) (v:Value) (r':Row ts),bx w A ts cs r->aa w A β v x->setRow ts r j x=some r'->bx w A ts (cs.set j v) r'/\j<cs.length
 |[],_,_,_,_,_,_,_,_,hr=>by grind[setRow]
 |t::ts,r,0,x,cs,v,r',h,hx,hr=>by
  simp [bx] at h;simp [setRow] at hr;split at hr
  . simp [bx,List.set_cons_zero];grind[wS,MA,AK]
  grind
 |t::ts,r,j+1,x,cs,v,r',h,hx,hr=>by
  obtain⟨u,fZ,rfl,h1,h2⟩:=h;simp [setRow] at hr;split at hr
  . rename_i y hy;simp at hr;subst hr;obtain⟨g1,g2⟩:=JR ts _ j x fZ v y h2 hx hy;exact⟨⟨u,_,rfl,by rw [wS];exact h1,by rw [AK];exact g1⟩,by simp [g2]⟩
  . cases hr
def V2(cs:M Value)(j:Nat)(v:Value)(us:M Value)(h:j<cs.length):(cs.set j v).take (j+1)++us++(cs.set j v).drop (j+1+us.length)=cs.take j++(v::us)++cs.drop (j+(v::us).length):=by
 grind[List.take_succ_eq_append_getElem,List.take_set_of_le,List.drop_set_of_lt]
theorem yM(ts:M Ty):∀(xs:M AV) (r:Row ts) (j:Nat) (cs us:M Value) (r':Row ts),bx w A ts cs r->ae w A β us xs->oK ts r j xs=some r'->bx w A ts (cs.take j++us++cs.drop (j+us.length)) r'/\(us≠ []->j+us.length<=cs.length)
 |[],r,j,cs,us,r',h,hx,hr=>by
   simp_all[ae,oK,A!]
 |x::xs,r,j,cs,us,r',h,hx,hr=>by
  obtain⟨v,Ib,rfl,h1,h2⟩:=hx;simp [oK] at hr;split at hr
  . rename_i y hy;obtain⟨g1,g2⟩:=JR ts r j x cs v y h h1 hy;obtain⟨f1,f2⟩:=yM ts xs y (j+1) (cs.set j v) Ib r' g1 h2 hr;rw [V2 cs j v Ib g2] at f1;refine⟨f1,λ_=>?_⟩;by_cases hu:Ib=[]
    . subst hu;simp;omega
    . have:=f2 hu;simp at this |-;omega
  . cases hr
theorem tK(hB:aw C A β st a w)(h:aa w A β v x)(hA:∀b,A b->A' b)(oN:∀k∈(je st.h x).2,∀b,ai (β k)=some b->A' b):
  aa w A' β v (je st.h x).1/\∀k∈(je st.h x).2,∃e row l fr,st.h k=some (.row e row l fr):=by
 have hK:cg w w A A':=λb hb=>⟨hA b hb,rfl⟩;unfold je at oN |-;split at oN
 . rename_i k;simp only [aa] at h;split at oN
   . rename_i e row l fr hk;refine⟨?_,λj hj=>by grind⟩;simp only [aa,Rd];rcases pn hB hk with⟨g1,g2⟩|⟨b,cap,cs,g1,g2,g3,g4,g5⟩
     . subst g2;rw [h.1,g1];exact⟨none,0,[],rfl,z!,z!,by rfl,z!⟩
     . rw [h.1,g1];exact⟨_,cap,cs,rfl,g2,g3,br (λc x hx=>bz hK row c x hx) l cs g4,λ_=>⟨b,0,rfl,oN k z! b (by rw [g1];rfl),g5⟩⟩
   grind[aa]
 . rename_i k n;simp only [aa] at h;split at oN
   . rename_i e row l fr hk;refine⟨?_,λj hj=>by grind⟩;simp only [aa,Rd];rcases h with⟨h1,h2,h3⟩|⟨b',m,j7,h1,h2,h3⟩
     . subst h3;rw [h2];exact⟨none,0,[],z!,z!,z!,by rfl,z!⟩
     . rcases pn hB hk with⟨g1,g2⟩|⟨b,cap,cs,g1,g2,g3,g4,g5⟩
       . grind
       . rw [g1] at h1;simp at h1;have hl:(l.take n).length=n:=by grind
         refine⟨_,cap,cs.take (n*row.length),x!,w!,g3,br (λc x hx=>bz hK row c x hx) _ _ (fI l cs n g4).1,λ_=>⟨b,0,rfl,oN k z! b (by rw [g1];rfl),kD g5⟩⟩
   grind[aa]
 . rename_i k sz off n;simp only [aa] at h;split at oN
   . rename_i e row l fr hk;cases dQ:Nat.beq sz row.length with
     |false=>grind[aa]
     |true=>
      simp only [dQ,cond_true] at oN |-;have dQ:=Nat.eq_of_beq_eq_true dQ;subst dQ;refine⟨?_,λj hj=>by grind⟩;rcases h with⟨hn,ad,cap,h2,Ey⟩|⟨b',m,j7,Ew,h1,h2,h3,h4,h5⟩
      . subst hn;rw [h2];exact⟨ad,cap,[],z!,z!,Ey,by rfl,z!⟩
      . rcases pn hB hk with⟨g1,g2⟩|⟨b,cap,cs,g1,g2,g3,g4,g5⟩
        . grind
        . rw [g1] at h1;simp at h1;obtain⟨rfl,rfl,rfl⟩:=h1;have hl:((l.drop off).take n).length=n:=by grind
          refine⟨_,Ew,(cs.drop (off*row.length)).take (n*row.length),by rw [h2,hl],w!,w!,br (λc x hx=>bz hK row c x hx) _ _ (fI _ _ n (fI l cs off g4).2).1,λ_=>⟨b,_,rfl,oN k z! b (by rw [g1];rfl),?_⟩⟩;have:=kD (n:=n*row.length) (rV (n:=off*row.length) g5);grind
   grind[aa]
 grind[jf]
theorem Q7(hB:aw C A β st a w)(hA:∀b,A b->A' b):∀(xs:M AV) (vs:M Value),ae w A β vs xs->(∀k∈(pX st.h xs).2,∀b,ai (β k)=some b->A' b)->
  ae w A' β vs (pX st.h xs).1/\∀k∈(pX st.h xs).2,∃e row l fr,st.h k=some (.row e row l fr)
 |[],vs,h,_=>by grind[ae,pX]
 |x::xs,vs,h,oN=>by
  obtain⟨v,b7,rfl,h1,h2⟩:=h;simp only [pX] at oN |-;obtain⟨p1,p2⟩:=tK hB h1 hA (λk hk=>oN k (by simp [hk]));obtain⟨q1,q2⟩:=Q7 hB hA xs b7 h2 (λk hk=>oN k (by simp [hk]));refine⟨by exact⟨v,b7,rfl,p1,q1⟩,λk hk=>?_⟩;rcases F!.1 hk with hk|hk
  . exact p2 k hk
  . exact q2 k hk
def AL(hB:aw C A β st a w)(hA:∀b,A b->A' b)(x:AV)(v:Value)(h:aa w A β v x)(oN:∀k∈(qT st.h x).2,∀b,ai (β k)=some b->A' b):
  aa w A' β v (qT st.h x).1/\∀k∈(qT st.h x).2,∃e row l fr,st.h k=some (.row e row l fr):=by
 unfold qT at oN |-;split at oN
 . grind[Q7,aa]
 grind[tK]
def Io(hB:aw C A β st a w)(hA:∀b,A b->A' b):∀(xs:M AV) (vs:M Value),ae w A β vs xs->(∀k∈(nd st.h xs).2,∀b,ai (β k)=some b->A' b)->
  ae w A' β vs (nd st.h xs).1/\∀k∈(nd st.h xs).2,∃e row l fr,st.h k=some (.row e row l fr)
 |[],vs,h,_=>by grind[ae,nd]
 |x::xs,vs,h,oN=>by
  obtain⟨v,b7,rfl,h1,h2⟩:=h;simp only [nd] at oN |-;obtain⟨p1,p2⟩:=AL hB hA x v h1 (λk hk=>oN k (by simp [hk]));obtain⟨q1,q2⟩:=Io hB hA xs b7 h2 (λk hk=>oN k (by simp [hk]));refine⟨by exact⟨v,b7,rfl,p1,q1⟩,λk hk=>?_⟩;rcases F!.1 hk with hk|hk
  . exact p2 k hk
  . exact q2 k hk
def Gd {h:aQ}:∀(xs:M AV),(pX h xs).1.length=xs.length
 |[]=>rfl
 |x::xs=>by simp [pX,Gd xs]
theorem Ge(x:AV):(qT h x).1.cells.length=x.cells.length:=by
 unfold qT;split
 . simp [AV.cells,Gd]
 . rename_i hna;have hz:x.cells.length=1:=by cases x<;>first|rfl|grind
   rw [hz];unfold je;split
   . split<;>rfl
   . split<;>rfl
   . split
     . rename_i sz _ _ _ _ rr _ _ _;cases Nat.beq sz rr.length<;>rfl
     . rfl
   omega
def yN(h:aa w A β v x){r r':Row row}(hr:bx w A row cs r)(hs:oK row r j x.cells=some r'):
  ae w A β v.cells.toList x.cells/\bx w A row (cs.take j++v.cells.toList++cs.drop (j+v.cells.toList.length)) r'/\(∀u∈v.cells.toList,u.oneCell'=true)/\(v.cells.toList≠ []->j+v.cells.toList.length<=cs.length)/\v.cells.size=x.cells.length:=by
 have key:∀us,ae w A β us x.cells->bx w A row (cs.take j++us++cs.drop (j+us.length)) r'/\(∀u∈us,u.oneCell'=true)/\(us≠ []->j+us.length<=cs.length):=by
  grind[yM,AG]
 by_cases hx:∃cs,x= .agg cs
 . obtain⟨xs,rfl⟩:=hx;simp [aa] at h;grind[Value.cells,AV.cells,dZ]
 . have hc:x.cells=[x]:=by cases x<;>first|rfl|exact absurd ⟨_,rfl⟩ hx
   have yO:ae w A β [v] x.cells:=by rw [hc];exact⟨v,[],rfl,h,rfl⟩
   obtain⟨k1,k2,k3⟩:=key [v] yO;have h1:=k2 v z!;rw [cells_one h1];exact⟨yO,k1,k2,k3,by rw [hc];rfl⟩
theorem Gf {row:M Ty}{l:M (Row row)}{i j:Nat}{cur:Array Value}{us:M Value}{y:Row row}(hi:i<l.length)(hL:dJ (bx w A row) (cur.toList.take (l.length*row.length)) l)
  (hy:∀c,bx w A row c l[i]->bx w A row (c.take j++us++c.drop (j+us.length)) y/\(us≠ []->j+us.length<=c.length)) (dX:l.length*row.length<=cur.size):
  let new:=(cur.toList.take (i*row.length+j)++us++cur.toList.drop (i*row.length+j+us.length)).toArray
  new.size=cur.size/\dJ (bx w A row) (new.toList.take (l.length*row.length)) (l.set i y)/\i*row.length+j+us.length<=cur.size\/us=[]:=by
 intro new;by_cases yO:us=[]
 . exact .inr yO
 left;obtain⟨c1,c,c2,e1,e2,e3,e4,e5⟩:=sd l _ i hi hL;obtain⟨f1,f2⟩:=hy c e3;have f2:=f2 yO;have hc:=jh row c _ e3
 have jU:i*row.length+row.length<=l.length*row.length:=by
  have :(i+1)*row.length<=l.length*row.length:=F? _ hi;rwa [u?,Nat.one_mul] at this
 have JQ:i*row.length+j+us.length<=cur.size:=by omega
 refine⟨by simp [new];omega,?_,JQ⟩;have Ly:cur.toList=c1++(c++c2)++cur.toList.drop (l.length*row.length):=by rw [<-e1,V?]
 have fp:new.toList=c1++((c.take j++us++c.drop (j+us.length))++c2)++cur.toList.drop (l.length*row.length):=by
  have t1:cur.toList.take (i*row.length+j)=c1++c.take j:=by
   rw [Ly,<-e2,W!,List.take_length_add_append,W!,List.take_append_of_le_length w!]
  have t2:cur.toList.drop (i*row.length+j+us.length)=c.drop (j+us.length)++c2++cur.toList.drop (l.length*row.length):=by
   conv=>lhs;rw [Ly]
   rw [show i*row.length+j+us.length=c1.length+(j+us.length) by omega,W!,List.drop_length_add_append,W!,List.drop_append_of_le_length w!,W!]
  simp only [new,t1,t2];simp
 rw [fp]
 have azO:(c1++((c.take j++us++c.drop (j+us.length))++c2)).length=l.length*row.length:=by
  have:=congrArg List.length e1;simp at this |-;omega
 rw [<-azO,List.take_left]
 have sk:l.set i y=l.take i++(y::l.drop (i+1)):=by
  rw [h?,M! hi]
 rw [sk];exact j8 _ _ _ _ e4 ⟨_,c2,rfl,f1,e5⟩
def Gg(hT:bA T P)(hB:aw C A β st a w)(hd:∀t,dst=some t->t<st.n){k sz i j:Nat}{x:AV}(hp:aa w A β vp (.elem k sz i j))(hx:aa w A β vx x){out:Out}
  (h:iA T st.h t (.elem k sz i j) x=some out) (hc:∀p∈out.cond,p):∃w',(Instr.storeAt t vp vx).run P w= .ok () w'/\Rel C (st.put dst out) (a.put dst undef) w':=by
 simp only [iA] at h;split at h
 . rename_i e row l hk;cases hq:(Nat.beq sz row.length&&iW T t x.cells.length&&Nat.blt 0 x.cells.length) with
   |false=>grind
   |true=>
    simp only [hq,L!] at h;simp only [B!] at hq;obtain⟨⟨q1,q2⟩,q3⟩:=hq;have q3:=N! q3;have q1:=C! q1;subst q1;split at h
    . rename_i y hy;cases Qt:(qT st.h x).2.elem k with
      |true=>grind
      |false=>
       rw [Qt] at h;simp only [O!,A!] at h;subst h;have hi:i<l.length:=eT hc;rw [getD_eq l _ _ hi] at hy;simp only [aa] at hp;obtain⟨b,m,cap,bJ,rfl⟩:=hp;rcases gI hB hk with⟨_,hl⟩|⟨b',j7,cur,hv,hg,hle,Ac,dX,hL,lR⟩
       . grind
       . rw [bJ] at hv;obtain⟨rfl,rfl,rfl⟩:=hv;simp only [L?,n?] at lR;have hb:ai (β k)=some b:=by rw [bJ];rfl
         obtain⟨ii,jx,si⟩:=pt hT q2;let A1:Nat->Prop:=λb'=>A b'\/∃j∈(qT st.h x).2,ai (β j)=some b'
         obtain⟨px,pk⟩:=AL (A':=A1) hB (λb h=>.inl h) x vx hx (λk hk b hb=>.inr ⟨k,hk,hb⟩);have hKA:cg w w A A1:=λb h=>⟨.inl h,rfl⟩;have hL1:dJ (bx w A1 row) (cur.toList.take (l.length*row.length)) l:=br (λc x hx=>bz hKA row c x hx) l _ hL;have tW:l.length*row.length<=cur.size:=by simp_all[F?]
         have hyy:∀c,bx w A1 row c l[i]->bx w A1 row (c.take j++vx.cells.toList++c.drop (j+vx.cells.toList.length)) y/\(vx.cells.toList≠ []->j+vx.cells.toList.length<=c.length):=
          λc hc=>let h:=yN px hc hy;⟨h.2.1,h.2.2.2.1⟩
         obtain⟨c1,c,c2,e1,e2,e3,e4,e5⟩:=sd l _ i hi hL1;have K5:=yN px e3 hy
         have oC:vx.cells.size=ii.size:=by
          grind[Ge]
         rcases Gf hi hL1 hyy tW with⟨g1,g2,g3⟩|yO
         . refine⟨_,lS jx oC K5.2.2.1 hg (by simpa using g3),?_⟩;refine hB.write hd (k:=k) (fz:=(qT st.h x).2) (ab:=.row e row (l.set i y) false) (by simp [hk]) hb lR hg ⟨rfl,rfl,rfl⟩ (λq hq=>⟨?_,pk q hq⟩) ?_ (by simp [aa])
           . rintro rfl;rw [List.elem_eq_mem] at Qt;simp [hq] at Qt
           . intro A2 h1 h2 h3
             have hK:cg w (w.setRow b (cur.toList.take (i*row.length+j)++vx.cells.toList++cur.toList.drop (i*row.length+j+vx.cells.toList.length)).toArray) A1 A2:=by
              intro b' fb;rcases fb with fb|⟨q,hq,Gh⟩
              . exact⟨h1 b' fb,setRow_other w b b' _ (λh'=>lR (h'▸fb))⟩
              . refine⟨h3 q hq b' Gh,setRow_other w b b' _ (λh'=>?_)⟩;subst h';obtain⟨e',ng,l',H7,p9⟩:=pk q hq;have :q=k:=hB.apart q k b' (by simp [p9]) (by simp [hk]) Gh hb;subst this;rw [List.elem_eq_mem] at Qt;simp [hq] at Qt
             refine⟨_,⟨?_,.inr ⟨b,cap,_,by rw [bJ];simp,w!,setRow_heap w b cur _ e _ hg,by simpa using hle,Ac,g1.trans dX,rfl⟩⟩,?_,λb' fb=>?_⟩
             . rw [J?];refine Nat.min_eq_left ?_;rw [m?];exact X? tW (Nat.le_of_eq g1.symm)
             . simp only [m?];exact br (λc x hx=>bz hK row c x hx) _ _ g2
             . rw [hb] at fb;simp only [A!] at fb;subst fb;simp only [L?,n?];intro Zl;rcases h2 _ Zl with h|⟨q,hq,Gh⟩
               . exact lR h
               . obtain⟨e',ng,l',H7,p9⟩:=pk q hq;have :q=k:=hB.apart q k _ (by simp [p9]) (by simp [hk]) Gh hb;subst this;rw [List.elem_eq_mem] at Qt;simp [hq] at Qt
         grind
    grind
 grind
theorem gg {k:Nat}(h:al [(d,ab)] k=some b):k=d/\b=ab:=by
 grind[al,aP]
theorem jz(o:Obj)(k:Nat)(hk:k<w.heap.size):(w.alloc o).heap[k]? =w.heap[k]? :=heap_alloc_old w o k hk
theorem aw.Ip(hB:aw C A β st a w)(hd:∀t,dst=some t->t<st.n){cs:M AV}{cond:M Prop}
  (gJ:st.h d=none/\rl d=false) (hrel:ae w A β arr.toList cs) (kT:∀v∈arr.toList,v.oneCell'=true):
  aw C A (bl β d (.pointer (some ⟨w.heap.size,0,none⟩))) (st.put dst {cond:=cond,res:=.ref d 0,new:=[(d,.cells (gx d cs))]}) (a.put dst (.pointer (some ⟨w.heap.size,0,none⟩))) (w.alloc (.cells arr e)):=by
 have hK:cg w (w.alloc (.cells arr e)) A A:=λb hb=>⟨hb,jz _ b (hB.bound b hb)⟩
 have bJ:∀k,al [(d,AB.cells (gx d cs))] k=none->bl β d (.pointer (some ⟨w.heap.size,0,none⟩)) k=β k:=by
  intro k h;have :k≠d:=by rintro rfl;simp [al] at h
  grind[bl]
 refine hB.step (out:={cond:=cond,res:=.ref d 0,new:=[(d,.cells (gx d cs))]}) hd ?_ (by simp [al]) bJ hK rfl rfl rfl z! (λb hb _=>jz _ b hb) (λb hb=>by have:=hB.bound b hb;simp;omega) (λb hb=>.inl hb) (by simp [al]) ?_ ?_ ?_ ?_
 . grind[gg]
 . intro k ab h;obtain⟨rfl,rfl⟩:=gg h;refine⟨w.heap.size,arr,e,by simp [bl],heap_alloc_new w _,λh=>absurd (hB.bound _ h) w!,jg k _ _ _ (cJ hK _ _ hrel),kT⟩
 . intro k b ab h hb;obtain⟨rfl,_⟩:=gg h;simp_all[bl,Q?,ai,A!]
 . grind[Option.isSome_iff_exists,gg]
 . exact⟨w.heap.size,by simp [bl],rfl⟩
theorem kG:∀(fz:M Nat) j x,al (cM h fz) j=some x->j∈fz/\∃e row l fr,h j=some (.row e row l fr)/\x= .row e row l true:=by
 intro fz;induction fz with
 |nil=>grind[cM,al]
 |cons i fz ih=>
  intro j x h;simp [cM] at h;split at h
  . simp [al] at h;by_cases V1:j=i
    . grind
    simp_all[aP,O!]
  grind
def rY:∀(fz:M Nat) j,j∈fz->(∃e row l fr,h j=some (.row e row l fr))->(al (cM h fz) j).isSome:=by
 intro fz;induction fz with
 |nil=>grind
 |cons i fz ih=>
  intro j h hr;simp [cM];by_cases V1:j=i
  . subst V1;obtain⟨e,row,l,fr,hr⟩:=hr;simp [hr,al]
  . have:=ih j ((P!.1 h).resolve_left V1) hr;split
    . simp_all[al,aP,O!]
    omega
def ct(A:Nat->Prop)(β:Nat->Value)(fz:M Nat):Nat->Prop:=λb=>A b\/∃j∈fz,ai (β j)=some b
def nk(hB:aw C A β st a w){j b':Nat}(hj:(st.h j).isSome)(fb:ai (β j)=some b'):b'<w.heap.size:=by
 obtain⟨ab,lQ⟩:=R!.1 hj;have fi:=hB.blocks j ab lQ;cases ab with
 |mp b2 es ck=>
  obtain⟨h1,h2,_⟩:=fi;grind[ai,Option.some.injEq,Array.getElem?_eq_some_iff]
 |arr _ _|fvar _ _=>
  obtain⟨b'',arr,e,h1,h2,_⟩:=fi;grind[ai,Option.some.injEq,Array.getElem?_eq_some_iff]
 |cells cs=>
  obtain⟨b'',arr,e,h1,h2,_⟩:=fi;grind[ai,Option.some.injEq,Array.getElem?_eq_some_iff]
 |row e row l fr=>
  obtain⟨xs,h1,_⟩:=fi;rcases h1.2 with⟨hn,_⟩|⟨g,cap,cur,hv,_,hg,_⟩
  . grind[ai]
  grind[ai,Option.some.injEq,Array.getElem?_eq_some_iff]
 |iu e j row l i=>
  obtain⟨xs,v0,h1,_⟩:=fi;rcases h1.2 with⟨hn,_⟩|⟨g,cap,cur,hv,_,hg,_⟩
  . grind[ai]
  grind[ai,Option.some.injEq,Array.getElem?_eq_some_iff]
 |views _ _ _ _ _|fo _ _ _|bc _ _ _ _|eF _ _ _ _=>
  obtain⟨xs,h1,_⟩:=fi;rcases h1.2 with⟨hn,_⟩|⟨g,cap,cur,hv,_,hg,_⟩
  . grind[ai]
  grind[ai,Option.some.injEq,Array.getElem?_eq_some_iff]
theorem aw.V3(hB:aw C A β st a w)(hd:∀t,dst=some t->t<st.n){e:Nat}{row:M Ty}{l:M (Row row)}{cond:M Prop}{fz:M Nat}{xs:M Value}
  (gJ:st.h d=none/\rl d=false) (hg:w.grownBy w' none) (Di:∀j∈fz,∃e row l fr,st.h j=some (.row e row l fr))
  (j9:w'.ownsRow 0 e row.length v' l.length xs) (sh:dJ (bx w (ct A β fz) row) xs l) (hblk:∀b,ai v'=some b->w.heap.size<=b):
  aw C (ct A β fz) (bl β d v') (st.put dst {cond:=cond,res:=.own d,gz:=cM st.h fz,new:=[(d,.row e row l false)]}) (a.put dst v') w':=by
 have V4:∀b,ct A β fz b->b<w.heap.size:=by
  intro b h;rcases h with h|⟨j,hj,hb⟩
  . exact hB.bound b h
  . exact nk hB x! hb
 have hK:cg w w' A (ct A β fz):=λb hb=>⟨.inl hb,hg.block b (hB.bound b hb) z!⟩;have Ql:cg w w' (ct A β fz) (ct A β fz):=λb hb=>⟨hb,hg.block b (V4 b hb) z!⟩
 have bJ:∀k,al [(d,AB.row e row l false)] k=none->bl β d v' k=β k:=by
  intro k h;have :k≠d:=by rintro rfl;simp [al] at h
  grind[bl]
 refine hB.step (out:={cond:=cond,res:=.own d,gz:=cM st.h fz,new:=[(d,.row e row l false)]}) hd ?_ ?_ bJ hK hg.os hg.tape hg.output hg.size (λb hb _=>hg.block b hb z!) (λb hb=>I? (V4 b hb) hg.size) ?_ ?_ ?_ ?_ ?_ ?_
 . grind[gg]
 . intro k b h;obtain⟨_,_,_,_,_,h,_⟩:=kG fz k b h;grind
 . intro b h;rcases h with h|⟨j,hj,hb⟩
   . grind
   . have hr:=Di j hj;exact .inr (.inr ⟨j,⟨x!,.inl (rY fz j hj hr)⟩,hb⟩)
 . intro k ab h _;obtain⟨hk,e',ng,l',H7,hr,rfl⟩:=kG fz k ab h;rw [nT];have hkd:k≠d:=by grind
   have S9:bl β d v' k=β k:=by grind[bl]
   obtain⟨xs',h1,h2,h3⟩:=hB.blocks k _ hr;simp only [BR,S9];refine⟨xs',c9 h1 (λb hb=>hg.block b (nk hB x! hb) z!),br (λc x hx=>bz hK ng c x hx) l' xs' h2,λb hb=>?_⟩;simp only [if_true];exact .inr ⟨k,hk,hb⟩
 . intro k ab h;obtain⟨rfl,rfl⟩:=gg h;refine⟨xs,by grind[bl],br (λc x hx=>bz Ql row c x hx) l xs sh,λb hb=>?_⟩;simp only [bl,if_true] at hb;grind
 . intro k b ab h hb;obtain⟨rfl,_⟩:=gg h;simp_all[bl,Q?]
 . grind[Option.isSome_iff_exists,gg]
 . simp only [aa,bl,Q?,true_and];obtain⟨ad,l',c,rfl⟩:=jy j9;rfl
def Tk(hT:bA T P)(hB:aw C A β st a w)(hd:∀t,dst=some t->t<st.n)(gJ:st.h d=none/\rl d=false)(ht:T.find t=some te)(kT:(ofConst te.zero).cells.all AV.one=true):
  ∃v' w',(Instr.alloc t true (.tuple #[])).run P w= .ok v' w'/\Rel C (st.put dst {cond:=[],res:=.ref d 0,new:=[(d,.cells (gx d (ofConst te.zero).cells))]}) (a.put dst v') w':=by
 obtain⟨hu,i,hi,hs,hb,hz⟩:=hT.ok t te ht;obtain⟨c1,c2,c3⟩:=yL kT (yF (w:=w) (A:=A) (β:=β) te.zero);refine⟨.pointer (some ⟨w.heap.size,0,none⟩),w.alloc (.cells te.zero.cells t),?_,Rel.jP (hB.Ip hd gJ c1 c2)⟩;simp_all[Instr.alloc,zeroValue,typeInfo,hi,newVar,newRow]
def Zm(hB:aw C A β st a w)(hd:∀t,dst=some t->t<st.n)(gJ:st.h d=none/\rl d=false)(hx:aa w A β v x)(kT:x.cells.all AV.one=true):
  ∃v' w',(Instr.box t v).run P w= .ok v' w'/\Rel C (st.put dst {cond:=[],res:=.ref d 0,new:=[(d,.cells (gx d x.cells))]}) (a.put dst v') w':=by
 obtain⟨c1,c2,c3⟩:=yL kT hx;refine⟨.pointer (some ⟨w.heap.size,0,none⟩),w.alloc (.cells v.cells t),?_,Rel.jP (hB.Ip hd gJ c1 c2)⟩;rfl
def JS(off:Nat):∀(l:M Value) (k:Nat) (arr:Array Value),off+k+l.length<=arr.size->
  ((l.zipIdx k).foldl (λcs (x:Value×Nat)=>cs.setIfInBounds (off+x.2) x.1) arr).toList=arr.toList.take (off+k)++l++arr.toList.drop (off+k+l.length)
 |[],k,arr,_=>by simp
 |v::l,k,arr,h=>by
  simp;rw [JS off l (k+1) _ (by simp at h |-;omega)];have e:=list_seg_step arr.toList (off+k) v l w!;simpa [Nat.add_assoc] using e
def xJ(place:Nat->Option (Nat×Nat)):∀(parts:M (Nat×AV)) (vparts:M (Nat×Value)) (cs:M AV) (arr:Array Value) (r:M AV),ae w A β arr.toList cs->
  vparts.map (·.1)=parts.map (·.1)->ae w A β (vparts.map (·.2)) (parts.map (·.2))->yA place cs parts=some r->
  ∃ka,Instr.fill place arr vparts=some ka/\ae w A β ka.toList r
 |[],[],cs,arr,r,h,_,_,hr=>by
   simp [yA,A!] at hr;subst hr;exact⟨arr,rfl,h⟩
 |(i,x)::parts,(i',v)::vparts,cs,arr,r,h,hk,hv,hr=>by
  simp at hk;obtain⟨hi,hk⟩:=hk;obtain⟨v0,MB,h0,h1,h2⟩:=hv;obtain⟨rfl,rfl⟩:=h0;simp [yA] at hr;split at hr
  . grind
  . rename_i off size hp;cases hq:(Nat.beq x.cells.length size&&Nat.ble (off+size) cs.length&&x.cells.all AV.one) with
    |false=>grind
    |true=>
     simp [hq,L!] at hr;simp only [B!] at hq;obtain⟨⟨q1,q2⟩,q3⟩:=hq;have q1:=C! q1;have q2:=N! q2;obtain⟨c1,c2,c3⟩:=yL q3 h1;have hlen:=dZ cs _ h;have Ez:=AI (off:=off) h c1
     have aJA:(v.cells.zipIdx.foldl (λcs (x:Value×Nat)=>cs.setIfInBounds (off+x.2) x.1) arr).toList=arr.toList.take off++v.cells.toList++arr.toList.drop (off+v.cells.toList.length):=by
      have:=JS off v.cells.toList 0 arr x!;grind[Array.toList_zipIdx]
     obtain⟨ka,g1,g2⟩:=xJ place parts vparts _ (v.cells.zipIdx.foldl (λcs (x:Value×Nat)=>cs.setIfInBounds (off+x.2) x.1) arr) r x! hk h2 hr;simp_all[Instr.fill,if_neg]
 |[],_::_,_,_,_,_,hk,_,_|_::_,[],_,_,_,_,hk,_,_=>by grind
def run_places(hT:bA T P):∀(fs:M Field) (ps:M (Nat×Nat)),placesOf T fs=some ps->
  (List.mapM (m:=Sem) (λ(f:Field)=>do pure (f.offset,<-sizeOf f.type)) fs).run P w= .ok ps w
 |[],ps,h=>by simp_all[placesOf,A!]
 |f::fs,ps,h=>by
  simp [placesOf] at h;split at h
  . rename_i te ps' ht hp;simp at h;subst h;obtain⟨_,i,hi,hs,_⟩:=hT.ok _ _ ht;have ih:=run_places hT fs ps' hp;have h1:(sizeOf f.type).run P w= .ok te.size w:=by simp [sizeOf,typeInfo,hi,hs]
    simp only [List.mapM_cons,Sem.run_bind,h1,Result.andThen_ok,Sem.run_pure];rw [ih];rfl
  . cases h
theorem lq(z:Value):ae w A β z.cells.toList (ofConst z).cells:=by
 have h:=yF (w:=w) (A:=A) (β:=β) z;by_cases hx:∃cs,ofConst z= .agg cs
 . obtain⟨cs,hc⟩:=hx;rw [hc] at h |-;obtain⟨arr,rfl,h⟩:=h;exact h
 . have hc:(ofConst z).cells=[ofConst z]:=by
    cases hz:ofConst z<;>first|rfl|grind
   have hz:z.cells= #[z]:=by
    cases z<;>first|rfl|exact absurd ⟨_,rfl⟩ hx
   grind[ae]
def Tl(hT:bA T P){parts:M (Nat×AV)}{vparts:Array (Nat×Value)}(hk:vparts.toList.map (·.1)=parts.map (·.1))(hv:ae w A β (vparts.toList.map (·.2)) (parts.map (·.2)))
  (h:H5 T t parts=some out):Reads P A β w (Instr.build t vparts) out:=by
 unfold H5 at h;split at h
 . rename_i te ht;obtain⟨hu,i,hi,hs,hb,hz⟩:=hT.ok t te ht;split at h
   . rename_i fs hd;split at h
     . rename_i ps hp;split at h
       . rename_i cs hf;simp at h;subst h;obtain⟨ka,g1,g2⟩:=xJ (λi=>ps[i]?) parts vparts.toList _ te.zero.cells cs (lq te.zero) hk hv hf;refine⟨⟨rfl,rfl,rfl⟩,.agg ka,?_,by grind[aa]⟩;have hm:=run_places (w:=w) hT fs.toList ps hp;simp only [Instr.build,zeroValue,typeInfo,Sem.run_bind,run_program,Result.andThen_ok,hi,hz,Sem.run_pure,run_underlying hu,Array.mapM_eq_mapM_toList,Sem.run_map,hm];simp_all
       grind
     grind
   . rename_i n e hd;split at h
     . rename_i ee he;split at h
       . rename_i cs hf;simp at h;subst h;obtain⟨_,i2,hi2,Tc,_⟩:=hT.ok e ee he;obtain⟨ka,g1,g2⟩:=xJ (λi=>some (i*ee.size,ee.size)) parts vparts.toList _ te.zero.cells cs (lq te.zero) hk hv hf;refine⟨⟨rfl,rfl,rfl⟩,.agg ka,?_,by grind[aa]⟩;simp_all[Instr.build,zeroValue,typeInfo,hi,run_underlying,sizeOf]
       grind
     grind
   grind
 grind
def qc(z:Array Value)(hz:0<z.size):∀n,(List.range (n*z.size)).map (λi=>z[i%z.size]!)=(List.replicate n z.toList).flatten
 |0=>by simp
 |n+1=>by
  rw [u?,Nat.one_mul,List.range_add,l?,qc z hz n,List.replicate_succ',List.flatten_append];congr 1
  apply List.ext_getElem
  . simp
  simp_all[Nat.add_mod,Nat.mod_eq_of_lt]
theorem qd {vs:M Value}{xs:M AV}(h:ae w A β vs xs):∀n,ae w A β (List.replicate n vs).flatten (List.replicate n xs).flatten
 |0=>by rfl
 |n+1=>by
  exact fv _ _ _ _ h (qd h n)
def AM(ts:M Ty):∀(n:Nat) (xs:M AV) (vs:M Value) (l:M (Row ts)),ae w A β vs xs->yx ts n xs=some l->dJ (bx w A ts) vs l/\l.length=n
 |0,[],vs,l,h,hl=>by
  grind[yx,Option.some.injEq,ae,dJ]
 |0,_::_,_,_,_,hl=>by grind[yx]
 |n+1,xs,vs,l,h,hl=>by
  simp [yx] at hl;split at hl
  . rename_i x l' hx lp;simp at hl;subst hl;obtain⟨s1,s2⟩:=my xs vs ts.length h;obtain⟨g1,g2⟩:=AM ts n _ _ l' s2 lp;exact⟨⟨_,_,(V? _ _).symm,nj ts _ _ x s1 hx,g1⟩,by simp [g2]⟩
  . cases hl
def Q8(hB:aw C A β st a w)(hA:∀b,A b->A' b):∀(ps:M (Nat×AV)) (vs:M Value),ae w A β vs (ps.map (·.2))->(∀k∈(pZ st.h ps).2,∀b,ai (β k)=some b->A' b)->
  ae w A' β vs ((pZ st.h ps).1.map (·.2))/\(pZ st.h ps).1.map (·.1)=ps.map (·.1)/\∀k∈(pZ st.h ps).2,∃e row l fr,st.h k=some (.row e row l fr)
 |[],vs,h,_=>by grind[ae,pZ]
 |(i,x)::ps,vs,h,oN=>by
  obtain⟨v,b7,rfl,h1,h2⟩:=h;simp only [pZ] at oN |-;obtain⟨p1,p2⟩:=AL hB hA x v h1 (λk hk=>oN k (by simp [hk]));obtain⟨q1,q2,q3⟩:=Q8 hB hA ps b7 h2 (λk hk=>oN k (by simp [hk]));refine⟨by exact⟨v,b7,rfl,p1,q1⟩,by simp [q2],λk hk=>?_⟩;rcases F!.1 hk with hk|hk
  . exact p2 k hk
  . exact q3 k hk
def Gi(hT:bA T P)(hB:aw C A β st a w)(hd:∀t,dst=some t->t<st.n)(gJ:st.h d=none/\rl d=false){len:Nat}{parts:M (Nat×AV)}{vparts:Array (Nat×Value)}
  (hk:vparts.toList.map (·.1)=parts.map (·.1)) (hv:ae w A β (vparts.toList.map (·.2)) (parts.map (·.2)))
  (h:lh T st.h d t len parts=some out):∃v' w',(Instr.buildSlice t len vparts).run P w= .ok v' w'/\Rel C (st.put dst out) (a.put dst v') w':=by
 unfold lh at h;split at h
 . rename_i e te he jv;split at h
   . rename_i row mP;obtain⟨hu,Dh,i,hi,si,My,Im⟩:=tU hT he jv;cases hq:(Nat.beq row.length te.size&&Nat.blt 0 te.size&&Nat.beq (ofConst te.zero).cells.length te.size&&Nat.ble (len*te.size) 16777216) with
     |false=>grind
     |true=>
      simp only [hq,L!] at h;simp only [B!] at hq;obtain⟨⟨⟨q1,q2⟩,q3⟩,q4⟩:=hq;have q2:=N! q2;have q3:=C! q3;have q4:=N! q4;split at h
      . rename_i cs hf;split at h
        . rename_i l hl;simp only [Option.some.injEq] at h;subst h;have hzs:te.zero.cells.size=te.size:=by grind[qb]
          obtain⟨p1,p2,p3⟩:=Q8 (A':=ct A β (pZ st.h parts).2) hB (λb h=>.inl h) parts _ hv (λk hk b hb=>.inr ⟨k,hk,hb⟩)
          have aTX:(((Array.range (len*i.size)).map (te.zero.cells[· %te.zero.cells.size]!)).toList)=(List.replicate len te.zero.cells.toList).flatten:=by
           have:=qc te.zero.cells w! len;simp_all
          obtain⟨ka,g1,g2⟩:=xJ (w:=w) (A:=ct A β (pZ st.h parts).2) (β:=β) (λi=>some (i*te.size,te.size)) _ vparts.toList _ ((Array.range (len*i.size)).map (te.zero.cells[· %te.zero.cells.size]!)) cs
           (by grind[qd,lq]) (hk.trans p2.symm) p1 hf
          obtain⟨f1,f2⟩:=AM row len cs _ l g2 hl;have hlen:=gp l _ f1
          have gf:(Instr.buildSlice t len vparts).run P w= .ok (.slice (some ⟨w.heap.size,0,none⟩) len len) (w.alloc (.cells ka e)):=by
           have h24:¬(16777216<len*i.size):=by grind
           by_cases hz:len*i.size=0
           . have hln:len=0:=by
              grind[Nat.mul_eq_zero]
             subst hln;simp [Instr.buildSlice,run_underlying hu,sizeOf,typeInfo,hi,si,newRow];simp_all[Array.range,Array.eq_empty_of_size_eq_zero]
           . rw [<-si] at g1;simp [Instr.buildSlice,run_underlying hu,sizeOf,typeInfo,zeroValue,hi,Im,h24,hz,g1,newRow]
          refine⟨_,_,gf,Rel.jP (hB.V3 hd gJ (xs:=ka.toList) ⟨rfl,rfl,rfl,z!,λk hk _=>heap_alloc_old w _ k hk⟩ p3 ?_ f1 (λb hb=>by grind[ai,Option.some.injEq]))⟩;refine⟨hlen,.inr ⟨w.heap.size,len,ka,by rw [f2],w!,heap_alloc_new w _,w!,?_,?_,?_⟩⟩
          . have :len<=len*te.size:=Nat.le_mul_of_pos_right _ w!;grind[maxLen]
          . grind
          grind
        grind
      grind
   grind
 grind
theorem lr:∀(row:M Ty) (vs:M Value),dO.cR row vs=true->bx w A row vs (Row.zero row)
 |[],[],_=>by rfl
 |.int k::ts,.int k' n::vs,h=>by
   simp [dO.cR,B!,H!] at h;obtain⟨⟨h1,h2⟩,h3⟩:=h;subst h1;subst h2;simp only [bx,Row.zero,wS,AK];refine⟨_,vs,rfl,?_,lr ts vs h3⟩;simp [Rd,D.zero];cases k<;>simp [DI.zero,DI.toInt,lo,hi]
 |.bool::ts,.bool b::vs,h=>by
   cases b with
   |true=>simp [dO.cR] at h
   |false=>
    simp only [bx,Row.zero,wS,AK];exact⟨_,vs,rfl,by simp [Rd,D.zero],lr ts vs h⟩
 |.str::ts,.string s::vs,h=>by
   simp [dO.cR,B!] at h;simp only [bx,Row.zero,wS,AK];refine⟨_,vs,rfl,?_,lr ts vs h.2⟩;simp only [Rd,D.zero];refine⟨?_,z!⟩
   have hs:s=⟨#[]⟩:=by
    apply ByteArray.ext;grind
   rw [hs]
 |.slice r::ts,.slice ad l c::vs,h=>by
   cases ad with
   |some p=>simp [dO.cR] at h
   |none=>
    cases l with
    |succ l=>simp [dO.cR] at h
    |zero=>
     cases c with
     |succ c=>simp [dO.cR] at h
     |zero=>
      simp only [bx,Row.zero,wS,AK];refine⟨_,vs,rfl,?_,lr ts vs h⟩;simp only [Rd,D.zero];exact⟨none,0,[],z!,z!,z!,by simp [dJ],z!⟩
 |[],_::_,h|.int _::_,[],h|.bool::_,[],h|.str::_,[],h|.slice _::_,[],h=>by grind[dO.cR]
 |.int _::_,.bool _::_,h|.int _::_,.string _::_,h|.int _::_,.slice .. ::_,h|.int _::_,.float .. ::_,h|.int _::_,.complex .. ::_,h|.int _::_,.pointer _::_,h
 |.int _::_,.map _::_,h|.int _::_,.chan _::_,h|.int _::_,.func .. ::_,h|.int _::_,.nilFunc::_,h|.int _::_,.iface .. ::_,h|.int _::_,.nilIface::_,h|.int _::_,.agg _::_,h|.int _::_,.tuple _::_,h=>by grind[dO.cR]
 |.bool::_,.int .. ::_,h|.bool::_,.string _::_,h|.bool::_,.slice .. ::_,h|.bool::_,.float .. ::_,h|.bool::_,.complex .. ::_,h|.bool::_,.pointer _::_,h
 |.bool::_,.map _::_,h|.bool::_,.chan _::_,h|.bool::_,.func .. ::_,h|.bool::_,.nilFunc::_,h|.bool::_,.iface .. ::_,h|.bool::_,.nilIface::_,h|.bool::_,.agg _::_,h|.bool::_,.tuple _::_,h=>by grind[dO.cR]
 |.str::_,.int .. ::_,h|.str::_,.bool _::_,h|.str::_,.slice .. ::_,h|.str::_,.float .. ::_,h|.str::_,.complex .. ::_,h|.str::_,.pointer _::_,h
 |.str::_,.map _::_,h|.str::_,.chan _::_,h|.str::_,.func .. ::_,h|.str::_,.nilFunc::_,h|.str::_,.iface .. ::_,h|.str::_,.nilIface::_,h|.str::_,.agg _::_,h|.str::_,.tuple _::_,h=>by grind[dO.cR]
 |.slice _::_,.int .. ::_,h|.slice _::_,.bool _::_,h|.slice _::_,.string .. ::_,h|.slice _::_,.float .. ::_,h|.slice _::_,.complex .. ::_,h|.slice _::_,.pointer _::_,h
 |.slice _::_,.map _::_,h|.slice _::_,.chan _::_,h|.slice _::_,.func .. ::_,h|.slice _::_,.nilFunc::_,h|.slice _::_,.iface .. ::_,h|.slice _::_,.nilIface::_,h|.slice _::_,.agg _::_,h|.slice _::_,.tuple _::_,h=>by grind[dO.cR]
theorem wT(h:dO row z=true):bx w A row z.cells.toList (Row.zero row):=by
 unfold dO at h;split at h
 . exact lr row _ h
 . have hz:z.cells= #[z]:=by cases z<;>first|rfl|grind
   grind[lr]
theorem tX {row:M Ty}{vs:M Value}{x:Row row}(h:bx w A row vs x):∀n,dJ (bx w A row) (List.replicate n vs).flatten (List.replicate n x)
 |0=>by rfl
 |n+1=>by
  exact⟨vs,_,rfl,h,tX h n⟩
def Iq(hT:bA T P)(hB:aw C A β st a w)(hd:∀t,dst=some t->t<st.n)(gJ:st.h d=none/\rl d=false){y:AV}{vy:Value}(hx:aa w A β vx x)(hy:aa w A β vy y)
  (h:wO T d t x y=some out) (hc:∀p∈out.cond,p):∃v' w',(Instr.makeSlice t vx vy).run P w= .ok v' w'/\Rel C (st.put dst out) (a.put dst v') w':=by
 unfold wO at h;split at h
 . rename_i k n k' c;split at h
   . rename_i e te he jv;split at h
     . rename_i row mP;obtain⟨hu,Dh,i,hi,si,My,Im⟩:=tU hT he jv;cases hq:(Nat.beq row.length te.size&&Nat.blt 0 te.size&&dO row te.zero) with
       |false=>grind
       |true=>
        simp only [hq,cond_true,Option.some.injEq] at h;subst h;simp only [Bool.and_eq_true] at hq;obtain⟨⟨q1,q2⟩,q3⟩:=hq;have q1:=Nat.eq_of_beq_eq_true q1;have q2:=Nat.le_of_ble_eq_true q2;obtain⟨c0,c1,c2⟩:=eT hc;simp only [aa] at hx hy;obtain⟨rfl,_⟩:=hx;obtain⟨rfl,K5⟩:=hy;have hz:=wT (w:=w) (A:=A) q3;have hzl:=jh row _ _ hz;have hzs:te.zero.cells.size=te.size:=by grind
        have aFL:(te.bytes:Int)*c<=281474976710656:=by
         grind[Nat.eq_zero_or_pos,Int.le_ediv_iff_mul_le,Int.mul_comm]
        have Ey:c<=9223372036854775807:=by
         have:=Int.ediv_le_self (te.bytes:Int) (show(0:Int)<=140737488355328 by omega);omega
        have hr:=run_make (P:=P) w t e i te.zero hu hi Im k k' n c c0 c1 x! Ey;refine⟨_,_,hr,Rel.jP (hB.V3 hd gJ (fz:=[]) (xs:=(List.replicate n.toNat te.zero.cells.toList).flatten) ⟨rfl,rfl,rfl,z!,λk hk _=>heap_alloc_old w _ k hk⟩ z! ?_ ?_ (λb hb=>by grind[ai,Option.some.injEq]))⟩
        . have aTX:(madeCells te.zero.cells (c.toNat*i.size)).toList=(List.replicate c.toNat te.zero.cells.toList).flatten:=by
           have:=qc te.zero.cells w! c.toNat;simp_all[madeCells]
          have hfl:∀m,(List.replicate m te.zero.cells.toList).flatten.length=m*te.size:=by
           simp_all
          simp only [List.length_replicate];refine⟨x!,.inr ⟨w.heap.size,c.toNat,_,rfl,w!,heap_alloc_new w _,w!,by grind[maxLen],?_,?_⟩⟩
          . grind
          . rw [aTX];have Ez:c.toNat=n.toNat+(c.toNat-n.toNat):=by omega
            rw [Ez,<-List.replicate_append_replicate,List.flatten_append,q1,<-hfl n.toNat,List.take_left]
        grind[tX,wT]
     grind
   grind
 grind
def MC {e:TypeId}{i:TypeInfo}(hu:P.underlying t=some (.slice e))(hi:P.info? e=some i){b dLen:Nat}{cur:Array Value}{be:TypeId}(hg:w.heap[b]? =some (.cells cur be (0,0))){x:Value}{m:Nat}{cs:M Value}
  (hlen:(Builtin.lenOf x).run P w= .ok m w) (kY:(Builtin.firstCells i.size (min m dLen) x).run P w= .ok cs.toArray w) (h1:∀u∈cs,u.oneCell'=true) (JQ:off+cs.length<=cur.size):
  (Builtin.copy_ #[t,t'] ty #[.slice (some ⟨b,off,none⟩) dLen dCap,x]).run P w= .ok (.int .i64 ((min m dLen:Nat):Int)) (w.setRow b (cur.toList.take off++cs++cur.toList.drop (off+cs.length)).toArray):=by
 have sE:=run_storeCells_at P b off be cs 0 cur w hg w! h1;simp_all[Builtin.copy_,run_underlying,sizeOf,typeInfo,hi,goInt]
theorem AN {e:TypeId}(hu:P.underlying t=some (.slice e))(hi:P.info? e=some i){ad:Option Addr}{x:Value}{m:Nat}
  (hlen:(Builtin.lenOf x).run P w= .ok m w) (kY:(Builtin.firstCells i.size 0 x).run P w= .ok #[] w):
  (Builtin.copy_ #[t,t'] ty #[.slice ad 0 dCap,x]).run P w= .ok (.int .i64 0) w:=by
 cases ad<;>simp [Builtin.copy_,run_underlying hu,sizeOf,typeInfo,hi,hlen,kY,goInt,storeCells]
theorem aw.same(hB:aw C A β st a w)(hd:∀t,dst=some t->t<st.n){k:Nat}(hk:st.h k=some ab)(h:aa w A β v r):
  aw C A β (st.put dst {cond:=c,res:=r,gz:=[(k,ab)]}) (a.put dst v) w:=by
 refine hB.step (out:={cond:=c,res:=r,gz:=[(k,ab)]}) hd (by simp [al]) ?_ (λ_ _=>rfl) (cg.refl w A) rfl rfl rfl (S! _) (λ_ _ _=>rfl) hB.bound (λb h=>.inl h) ?_ (by simp [al]) (by simp [al]) (by simp [al]) h
 . grind[gg]
 . intro j b h _;obtain⟨rfl,rfl⟩:=gg h;exact hB.blocks _ _ hk
theorem xK(n:Nat)(h:n<=maxLen):aa w A β (.int .i64 (n:Int)) (.int .i64 (n:Int)):=by
 simp [aa,lo,hi,true_and];grind[maxLen]
theorem Ir(hB:aw C A β st a w)(hd:∀t,dst=some t->t<st.n){k e:Nat}{row:M Ty}{l m':M (Row row)}(hk:st.h k=some (.row e row l false)){b cap:Nat}(bJ:β k= .slice (some ⟨b,0,none⟩) l.length cap)
  {cs:M Value} (dX:dJ (bx w A row) cs m') (JQ:off+m'.length<=l.length) (xF:∀w',aa w' A β v r) {cur:Array Value} (hg:w.heap[b]? =some (.cells cur e (0,0)))
  (dQ:cur.size=cap*row.length) (hle:l.length<=cap) (Ac:cap<=maxLen) (hL:dJ (bx w A row) (cur.toList.take (l.length*row.length)) l) (lR:¬A b):
  Rel C (st.put dst {cond:=c,res:=r,gz:=[(k,.row e row (l.take off++m'++l.drop (off+m'.length)) false)]}) (a.put dst v)
   (w.setRow b (cur.toList.take (off*row.length)++cs++cur.toList.drop (off*row.length+cs.length)).toArray):=by
 have hb:ai (β k)=some b:=by rw [bJ];rfl
 have hlen:=gp m' cs dX;have hlr:l.length*row.length<=cur.size:=by simp_all[F?]
 have Zj:off*row.length+cs.length<=l.length*row.length:=by rw [hlen,<-u?];simp_all[F?]
 refine hB.write hd (k:=k) (fz:=[]) (ab:=.row e row _ false) x! hb lR hg ⟨rfl,rfl,rfl⟩ z! ?_ (xF _);intro A2 h1 h2 h3;have hK:cg w (w.setRow b (cur.toList.take (off*row.length)++cs++cur.toList.drop (off*row.length+cs.length)).toArray) A A2:=λb' fb=>⟨h1 b' fb,setRow_other w b b' _ (λh'=>lR (h'▸fb))⟩;have hll:(l.take off++m'++l.drop (off+m'.length)).length=l.length:=by grind
 have hns:(cur.toList.take (off*row.length)++cs++cur.toList.drop (off*row.length+cs.length)).toArray.size=cur.size:=by grind
 refine⟨_,⟨?_,.inr ⟨b,cap,_,x!,w!,setRow_heap w b cur _ e _ hg,w!,Ac,hns.trans dQ,rfl⟩⟩,?_,λb' fb=>?_⟩
 . grind
 . rw [hll]
   have Ly:(cur.toList.take (off*row.length)++cs++cur.toList.drop (off*row.length+cs.length)).take (l.length*row.length)=
     (cur.toList.take (l.length*row.length)).take (off*row.length)++cs++(cur.toList.take (l.length*row.length)).drop ((off+m'.length)*row.length):=by
    rw [List.take_take,Nat.min_eq_left w!,List.take_append,t? (by simp;omega),u?,<-hlen,List.drop_take];congr 1
    congr 1
    simp;omega
   have e1:(cur.toList.take (off*row.length)++cs++cur.toList.drop (off*row.length+cs.length)).toArray.toList=cur.toList.take (off*row.length)++cs++cur.toList.drop (off*row.length+cs.length):=by simp
   rw [e1,Ly];have s1:=fI l _ off hL;have s2:=fI l _ (off+m'.length) hL;exact br (λc x hx=>bz hK row c x hx) _ _ (j8 _ _ _ _ (j8 _ _ _ _ s1.1 dX) s2.2)
 grind
def V5(hT:bA T P)(hB:aw C A β st a w)(hd:∀t,dst=some t->t<st.n){s:AV}{vs:Value}(hs:aa w A β vs s)(hx:aa w A β vx x)
  (h:tR T st.h t t' s x=some out) (hc:∀p∈out.cond,p):∃v' w',(Builtin.copy_ #[t,t'] ty #[vs,vx]).run P w= .ok v' w'/\Rel C (st.put dst out) (a.put dst v') w':=by
 unfold tR at h;split at h
 . rename_i k;split at h
   . rename_i e row l hk;cases hq:bh T t row.length with
     |false=>grind
     |true=>
      simp only [hq,L!] at h;obtain⟨el,i,hu,hi,dQ,mQ⟩:=fk hT hq;split at h
      . rename_i m hm;simp only [A!] at h;subst h;obtain⟨cs,iQ⟩:=Lx (P:=P) hB hx hm;simp only [aa] at hs;obtain⟨rfl,_⟩:=hs;rcases gI hB hk with⟨g1,g2⟩|⟨b,cap,cur,g1,g2,g3,g4,g5,g6,g7⟩
        . subst g2;have hf:=iQ.first w rfl 0 (Nat.zero_le _);rw [g1];refine⟨_,_,AN (ty:=ty) hu hi iQ.len x!,?_⟩;have:=hB.same (dst:=dst) hd (c:=[]) (r:=.int .i64 0) (v:=.int .i64 0) hk (by simp [aa,lo,Vg.hi]);grind[Rel.jP]
        . simp only [L?,n?] at g7;have hn:min m.length l.length<=m.length:=Nat.min_le_left _ _;have hf:=iQ.first w rfl _ hn;have DF:=(fI m cs (min m.length l.length) iQ.rd).1;have hlen:=gp _ _ DF;have Tg:(m.take (min m.length l.length)).length=min m.length l.length:=by simp
          have hr:=MC (P:=P) (ty:=ty) (t':=t') (dLen:=l.length) (dCap:=cap) (off:=0) hu hi g2 iQ.len x! (AH _ _ DF) (by
           rw [hlen,Tg,g5];have :min m.length l.length*row.length<=cap*row.length:=F? _ w!;omega)
          rw [g1];refine⟨_,_,hr,?_⟩;have V6:=Ir hB hd hk g1 (off:=0) (c:=[]) DF w! (λw'=>xK (w:=w') (min m.length l.length) w!) g2 g5 g3 g4 g6 g7
          have e1:m.take l.length++l.drop m.length=l.take 0++m.take (min m.length l.length)++l.drop (0+(m.take (min m.length l.length)).length):=by
           rw [Tg];rcases Nat.le_total m.length l.length with hh|hh
           . grind
           simp_all
          grind
      grind
   grind
 . rename_i k sz off n;split at h
   . rename_i e row l hk;cases hq:(bh T t row.length&&Nat.beq sz row.length) with
     |false=>grind
     |true=>
      simp only [hq,L!] at h;simp only [B!] at hq;obtain⟨q1,q2⟩:=hq;have q2:=C! q2;subst q2;obtain⟨el,i,hu,hi,dQ,mQ⟩:=fk hT q1;split at h
      . rename_i m hm;simp only [A!] at h;subst h;obtain⟨cs,iQ⟩:=Lx (P:=P) hB hx hm;have hon:=eT hc;simp only [aa] at hs;rcases hs with⟨hn0,ad,cap,hv,Ey⟩|⟨b',mm,j7,Ew,hv,VS,aFM,aFN,aFO⟩
        . subst hn0;have hf:=iQ.first w rfl 0 (Nat.zero_le _);simp only [Nat.zero_mul,List.take_zero] at hf;rw [hv];refine⟨_,_,AN (ty:=ty) hu hi iQ.len x!,?_⟩;have:=hB.same (dst:=dst) hd (c:=[off+0<=l.length]) (r:=.int .i64 0) (v:=.int .i64 0) hk (by simp [aa,lo,Vg.hi]);simpa using Rel.jP this
        . rcases gI hB hk with⟨g1,g2⟩|⟨b,cap,cur,g1,g2,g3,g4,g5,g6,g7⟩
          . grind
          . rw [g1] at hv;obtain⟨rfl,rfl,rfl⟩:=hv;have hn:min m.length n<=m.length:=Nat.min_le_left _ _;have hf:=iQ.first w rfl _ hn;have DF:=(fI m cs (min m.length n) iQ.rd).1;have hlen:=gp _ _ DF;have Tg:(m.take (min m.length n)).length=min m.length n:=by simp
            have hr:=MC (P:=P) (ty:=ty) (t':=t') (dLen:=n) (dCap:=Ew) (off:=off*row.length) hu hi g2 iQ.len x! (AH _ _ DF) (by
             rw [hlen,Tg,g5,<-u?];exact F? _ w!)
            grind[Ir,xK]
      grind
   grind
 grind
def V7 {e:TypeId}(hu:P.underlying t=some (.slice e))(hi:P.info? e=some i){z:Value}(hz:i.zero=some z){b n:Nat}{cur:Array Value}{be:TypeId}(hg:w.heap[b]? =some (.cells cur be (0,0)))
  {cs:M Value} (dX:(Builtin.zeroCells z.cells n).toList=cs) (h1:∀u∈cs,u.oneCell'=true) (JQ:off+cs.length<=cur.size) (hn:0<n):
  (Builtin.clear_ #[t] ty #[.slice (some ⟨b,off,none⟩) n cap]).run P w= .ok (.tuple #[]) (w.setRow b (cur.toList.take off++cs++cur.toList.drop (off+cs.length)).toArray):=by
 have sE:=run_storeCells_at P b off be cs 0 cur w hg w! h1;obtain⟨m,rfl⟩:∃m,n=m+1:=⟨n-1,w!⟩;simp_all[Builtin.clear_,run_underlying,zeroValue,typeInfo,hi]
def Tm(hT:bA T P)(hB:aw C A β st a w)(hd:∀t,dst=some t->t<st.n)(hx:aa w A β vx x)
  (h:tG T st.h t x=some out) (hc:∀p∈out.cond,p):∃v' w',(Builtin.clear_ #[t] ty #[vx]).run P w= .ok v' w'/\Rel C (st.put dst out) (a.put dst v') w':=by
 have ajm:∀w',aa w' A β (.tuple #[]) (.bf []):=λw'=>by simp only [aa];exact⟨#[],rfl,by rfl⟩
 unfold tG at h;split at h
 . rename_i k sz off n;split at h
   . rename_i e row l hk;split at h
     . rename_i el te he jv;obtain⟨hu,Dh,i,hi,si,My,Im⟩:=tU hT he jv;cases hq:(bh T t row.length&&Nat.beq sz row.length&&Nat.beq row.length te.size&&dO row te.zero) with
       |false=>grind
       |true=>
        simp only [hq,cond_true,Option.some.injEq] at h;subst h;simp only [Bool.and_eq_true] at hq;obtain⟨⟨⟨q0,q1⟩,q2⟩,q3⟩:=hq;have q1:=Nat.eq_of_beq_eq_true q1;have q2:=Nat.eq_of_beq_eq_true q2;subst q1;obtain⟨el',i',ni,fN,aLs,mQ⟩:=fk hT q0;have hz:=wT (w:=w) (A:=A) q3;have hzl:=jh row _ _ hz;have hzs:te.zero.cells.size=te.size:=by grind
        rcases hx with⟨hn0,ad,cap,hv,Ey⟩|⟨b',mm,j7,Ew,hv,VS,aFM,aFN,aFO⟩
        . subst hn0;rw [hv];refine⟨.tuple #[],w,by cases ad<;>simp [Builtin.clear_,run_underlying hu],?_⟩;have:=hB.same (dst:=dst) hd (c:=[off+0<=l.length]) (r:=.bf []) (v:=.tuple #[]) hk (ajm w);simpa using Rel.jP this
        . rcases gI hB hk with⟨g1,g2⟩|⟨b,cap,cur,g1,g2,g3,g4,g5,g6,g7⟩
          . grind
          . rw [g1] at hv;obtain⟨rfl,rfl,rfl⟩:=hv
            have aTX:(Builtin.zeroCells te.zero.cells n).toList=(List.replicate n te.zero.cells.toList).flatten:=by
             have:=qc te.zero.cells w! n;simp_all[Builtin.zeroCells]
            have DF:=tX hz n;have hlen:=gp _ _ DF;rw [List.length_replicate] at hlen;rw [VS];by_cases hn:n=0
            . subst hn;refine⟨.tuple #[],w,by simp [Builtin.clear_,run_underlying hu],?_⟩;have:=hB.same (dst:=dst) hd (c:=[off+0<=l.length]) (r:=.bf []) (v:=.tuple #[]) hk (ajm w);simpa using Rel.jP this
            . have hr:=V7 (P:=P) (ty:=ty) (n:=n) (cap:=Ew) (off:=off*row.length) hu hi Im g2 aTX (AH _ _ DF) (by
               rw [hlen,g5,<-u?];exact F? _ w!) w!
              refine⟨_,_,hr,?_⟩;have V6:=Ir hB hd hk g1 (off:=off) (c:=[off+n<=l.length]) (r:=.bf []) (v:=.tuple #[]) DF (by rw [List.length_replicate];omega) ajm g2 g5 g3 g4 g6 g7;rw [List.length_replicate] at V6;exact V6
     grind
   grind
 grind
def Gj:∀(u:B8) (cs:M Value),dJ (bx w A [.int .u8]) cs u->cs=u.map λb=>Value.int .u8 (b.toNat:Int)
 |[],cs,h=>by grind[dJ]
 |b::u,cs,⟨c1,c2,hc,h1,h2⟩=>by
  subst hc;obtain⟨v,vs,rfl,h3,rfl⟩:=h1;rw [Gj u c2 h2];simp;exact h3.1
def foldl_push:∀(u:B8) (r:ByteArray),(u.map λb=>(b.toNat:Int)).foldl (λr n=>r.push (UInt8.ofNat n.toNat)) r=⟨(r.data.toList++u).toArray⟩
 |[],r=>by simp
 |b::u,r=>by
  simp;rw [foldl_push u];simp
def AO(hB:aw C A β st a w){x:AV}(hx:aa w A β v x){u:B8}(h:oA st.h [.int .u8] x=some u)(JT:∀n c,v= .slice none n c->n=0)(Gk:∃ad n c,v= .slice ad n c):
  (Conv.bytesToString v).run P w= .ok (.string ⟨u.toArray⟩) w/\u.length<=maxLen:=by
 obtain⟨cs,iQ⟩:=Lx (P:=P) hB hx h;have dX:=Gj u cs iQ.rd;obtain⟨ad,n,c,rfl⟩:=Gk
 have hn:n=u.length:=by
  have:=iQ.len;simp_all[Builtin.lenOf]
 refine⟨?_,iQ.max⟩;cases ad with
 |none=>
  have:=JT n c rfl;have hu:u=[]:=V! w!;subst hu;rfl
 |some p=>
  have hf:=iQ.first w rfl u.length (S! _);have hl:=gp (row:=[.int .u8]) u cs iQ.rd;rw [<-hl,List.take_length] at hf
  have azS:(loadCells p n).run P w= .ok ((u.map λb=>(b.toNat:Int)).map (Value.int .u8)).toArray w:=by
   simp_all[Builtin.firstCells,Nat.mul_one]
  rw [run_bytesToString w p n c _ azS,foldl_push];simp
def AP(hB:aw C A β st a w)(hd:∀t,dst=some t->t<st.n){e:TypeId}(hu:u.length<=maxLen):
  ∃v' w',(Conv.stringToBytes e ⟨u.toArray⟩).run P w= .ok v' w'/\Rel C (st.put dst {cond:=c,res:=.sl [.int .u8] u}) (a.put dst v') w':=by
 let cap:=grownCap w u.length 0 e
 have Q9:u.length<=cap:=grownCap_ge w u.length 0 e;have Ey:cap<=maxLen:=grownCap_le_maxLen w u.length 0 e hu;let arr:Array Value:=(u.map λb=>Value.int .u8 (b.toNat:Int)).toArray++Array.replicate (cap-u.length) (.int .u8 0)
 let w':World:=(w.drew.alloc (.cells arr e)).freeze ⟨w.heap.size,arr.size,none⟩ 1
 have gf:(Conv.stringToBytes e ⟨u.toArray⟩).run P w= .ok (.slice (some ⟨w.heap.size,0,none⟩) u.length cap) w':=by
  have Tn:(w.drew.alloc (.cells arr e)).shape? w.heap.size=some (e,arr.size):=by
   have:=heap_alloc_new w.drew (.cells arr e);simp_all[World.shape?]
  have h1:(⟨u.toArray⟩:ByteArray).size=u.length:=Az u;simp only [Conv.stringToBytes,Sem.run_bind,run_choose,Question.forced,L?,n?,Result.andThen_ok,h1,newRow,run_newObj,Sem.run_pure,markStringish,run_shape];have hg:(Question.appendCap u.length 0 e).cut (w.tape w.drawn (Question.appendCap u.length 0 e))=cap:=rfl;rw [hg]
  have AQ:Array.map (λb:UInt8=>Value.int IntKind.u8 (b.toNat:Int)) u.toArray++Array.replicate (cap-u.length) (Value.int IntKind.u8 0)=arr:=by
   grind
  rw [AQ];have hw2:({heap:=w.heap.push (Obj.cells arr e),tape:=w.tape,drawn:=w.drawn+1,os:=w.os,output:=w.output}:World)=w.drew.alloc (.cells arr e):=rfl;grind[run_freeze,Result.andThen_ok]
 have mR:∀b,b<w.heap.size->w'.heap[b]? =w.heap[b]? :=by
  intro b hb;have h2:(w.drew.alloc (.cells arr e)).heap[b]? =w.heap[b]? :=jz (w:=w.drew) _ b hb;simp only [w',World.freeze,Nat.one_ne_zero,if_false,Array.getElem?_modify];grind
 have fp:∃fz,w'.heap[w.heap.size]? =some (.cells arr e fz):=by
  have h2:(w.drew.alloc (.cells arr e)).heap[w.heap.size]? =some (.cells arr e):=heap_alloc_new w.drew _;simp only [w',World.freeze,Nat.one_ne_zero,if_false,Array.getElem?_modify,if_true,h2,Option.map_some];grind
 have oC:w'.heap.size=w.heap.size+1:=by
  have :(w.drew.alloc (.cells arr e)).heap.size=w.heap.size+1:=by simp
  simp only [w',World.freeze,Nat.one_ne_zero,n?,Array.size_modify];omega
 let A':Nat->Prop:=λb=>A b\/b=w.heap.size
 have hK:cg w w' A A':=λb hb=>⟨.inl hb,mR b (hB.bound b hb)⟩;refine⟨_,w',gf,A',β,?_⟩;refine hB.step (out:={cond:=c,res:=.sl [.int .u8] u}) hd (by simp [al]) (by simp [al]) (λ_ _=>rfl) hK rfl rfl rfl w! (λb hb _=>mR b hb) ?_ ?_ (by simp [al]) (by simp [al]) (by simp [al]) (by simp [al]) ?_
 . intro b hb;rcases hb with hb|rfl
   . have:=hB.bound b hb;omega
   omega
 . grind
 . refine⟨_,cap,_,rfl,Q9,Ey,Mu u,λ_=>⟨w.heap.size,0,rfl,.inr rfl,λj v hj=>?_⟩⟩;simp only [World.cell?,fp,Nat.zero_add];grind
theorem ajn {row:M Ty}{n c:Nat}{l:M (Row row)}(h:Rd w A (.slice row) (.slice none n c) l)(hp:0<row.length):n=0:=by
 obtain⟨ad,cap,cs,h1,h2,h3,h4,h5⟩:=h;obtain⟨rfl,rfl,rfl⟩:=h1;grind[gp,List.length_nil,Nat.mul_eq_zero]
def Zn(hB:aw C A β st a w)(hx:aa w A β v x)(hn:yz x=true)(h:oA st.h [.int .u8] x=some u):
  (∃ad n c,v= .slice ad n c)/\∀n c,v= .slice none n c->n=0:=by
 have Gk:∀ {row:M Ty} {l:M (Row row)},row=[.int .u8]->Rd w A (.slice row) v l->(∃ad n c,v= .slice ad n c)/\∀n c,v= .slice none n c->n=0:=by
  grind[yJ,Value.slice.injEq,ajn]
 unfold oA at h;split at h
 . grind[yz]
 . simp [aa] at hx;grind
 . cases x with
   |sl r l=>
    obtain⟨e,_⟩:=jn h;exact Gk e hx
   |full r l=>
    grind[je,jn,aa]
   |own k=>
    grind[je,aa,pn,Value.slice.injEq]
   |pre k n=>
    simp [aa] at hx;grind
   |view k sz off n=>
    grind[aa]
   |_=>grind[je]
def ajo(P:Program)(C:Ctx)(st:St)(a:Act)(w:World)(d:Option Nat)(out:Out)(s:Sem Value):Prop:=∃v w',s.run P w= .ok v w'/\Rel C (st.put d out) (a.put d v) w'
def Reads.tY(hB:aw C A β st a w)(hd:∀t,dst=some t->t<st.n){s:Sem Value}(h:Reads P A β w s out):ajo P C st a w dst out s:=
 let⟨hq,v,h1,h2⟩:=h
 ⟨v,w,h1,Rel.jP (hB.quiet hd hq h2)⟩
theorem Zo(hT:bA T P)(hB:aw C A β st a w)(hd:∀t,dst=some t->t<st.n){d:TypeId}{k:Nat}(hx:aa w A β v (.own k))
  (h:CA T st.h s d k=some out) (hc:∀p∈out.cond,p):ajo P C st a w dst out (convert s d v):=by
 unfold CA at h;cases hsd:Nat.beq s d with
 |false=>grind
 |true=>
  have hsd:=C! hsd;subst hsd;simp at h;split at h
  . rename_i ts Is;have yO:=nh hT Is;split at h
    . rename_i e AR;rw [AR] at yO;split at h
      . rename_i te e0 row l jv hk;have hue:=nh hT jv;split at h
        . rename_i l' Zp oO;rw [Zp] at hue;obtain⟨he,hl⟩:=jn oO;subst he;simp only at hl;subst hl;simp at h;subst h;have mQ:0<l.length:=eT hc;obtain⟨xs,ho,sh,lR⟩:=hB.blocks k _ hk;rcases ho.2 with⟨_,h0⟩|⟨g,cap,cur,hv,_,hg,hn,Q9,dQ,AF⟩
          . omega
          . have S9:ai (β k)=some g:=by rw [hv];rfl
            have aFP:¬A g:=by grind
            have aLt:g<w.heap.size:=(Q!.1 hg).1;rw [hx.1,hv];let w':World:=w.freeze ⟨g,cur.size,none⟩ 1
            have Tn:w.shape? g=some (e0,cur.size):=by grind[World.shape?]
            have gf:(convert s s (.slice (some ⟨g,0,none⟩) l.length cap)).run P w= .ok (.slice (some ⟨g,0,none⟩) l.length cap) w':=by
             simp only [convert,Sem.run_bind,run_underlying yO,run_underlying hue,Result.andThen_ok,beq_self_eq_true,markStringish,run_shape,Tn,run_freeze,Sem.run_pure];rfl
            have mR:∀b,b≠g->w'.heap[b]? =w.heap[b]? :=by
             intro b hb;simp only [w',World.freeze,Nat.one_ne_zero,if_false,Array.getElem?_modify];grind
            have fp:∃fz,w'.heap[g]? =some (.cells cur e0 fz):=by
             simp only [w',World.freeze,Nat.one_ne_zero,if_false,Array.getElem?_modify,if_true,hg,Option.map_some];grind
            obtain⟨fz,fp⟩:=fp;have oC:w'.heap.size=w.heap.size:=by simp only [w',World.freeze,Nat.one_ne_zero,n?,Array.size_modify]
            have hK:cg w w' A (λb=>A b\/b=g):=λb hb=>⟨.inl hb,mR b (λh=>aFP (h▸hb))⟩;have aFQ:oM st {cond:=[0<l.length],res:=.sl [.int .u8] l,del:=[k]} k:=⟨x!,.inr (by simp [ay])⟩;refine⟨_,w',gf,λb=>A b\/b=g,β,?_⟩;refine hB.step (out:={cond:=[0<l.length],res:=.sl [.int .u8] l,del:=[k]}) hd (by simp [al]) (by simp [al]) (λ_ _=>rfl) hK rfl rfl rfl w! (λb hb hnt=>mR b (λh=>hnt k aFQ x!)) ?_ ?_ (by simp [al]) (by simp [al]) (by simp [al]) (by simp [al]) ?_
            . intro b hb;rcases hb with hb|rfl
              . have:=hB.bound b hb;omega
              omega
            . grind
            . refine⟨_,cap,xs,rfl,hn,Q9,br (λc x hx=>bz hK _ c x hx) _ _ sh,λ_=>⟨g,0,rfl,.inr rfl,λj u hj=>?_⟩⟩;rw [<-AF,o?] at hj;simp_all[World.cell?,r?,Option.isSome_none,L?,n?]
        grind
      grind
    grind
  grind
def MD(hT:bA T P)(hB:aw C A β st a w)(hd:∀t,dst=some t->t<st.n){d:TypeId}(hx:aa w A β v x)
  (h:pK T st.h s d x=some out) (hc:∀p∈out.cond,p):ajo P C st a w dst out (convert s d v):=by
 unfold pK at h;split at h
 . rename_i ts td Is htd;have yO:=nh hT Is;have hud:=nh hT htd;split at h
   . rename_i k0 k k' n AR Er;rw [AR] at yO;rw [Er] at hud;simp only [aa] at hx;obtain⟨rfl,hn⟩:=hx
     have gf:(convert s d (.int k' n)).run P w= .ok (.int k (k.wrap n)) w:=by
      simp_all[convert,run_underlying,Conv.intToInt]
     split at h
     . rename_i hr;simp only [A!] at h;subst h;have V8:lo k<=n/\n<=hi k:=by omega
       rw [Ay V8] at gf;exact Reads.tY hB hd ⟨⟨rfl,rfl,rfl⟩,_,gf,by simp_all[aa,trivial]⟩
     . obtain⟨hq,hr,_⟩:=rm (w:=w) (A:=A) (β:=β) h hc;exact Reads.tY hB hd ⟨hq,_,gf,hr⟩
   . rename_i u AR Er;rw [AR] at yO;rw [Er] at hud;simp only [A!] at h;subst h;have Dg:=hx;simp only [aa] at hx;exact Reads.tY hB hd ⟨⟨rfl,rfl,rfl⟩,_,by simp_all[convert,run_underlying],Dg⟩
   . rename_i e u AR Er;rw [AR] at yO;rw [Er] at hud;simp only [aa] at hx;obtain⟨rfl,hn⟩:=hx;split at h
     . rename_i te jv;have hue:=nh hT jv;split at h
       . rename_i Zp;rw [Zp] at hue;simp only [A!] at h;subst h;obtain⟨v',w',h1,h2⟩:=AP (P:=P) hB hd (e:=e) hn (c:=[]);exact⟨v',w',by simp_all[convert,run_underlying],h2⟩
       grind
     grind
   . rename_i e AR Er;rw [AR] at yO;rw [Er] at hud;split at h
     . rename_i te jv;have hue:=nh hT jv;split at h
       . rename_i Zp;rw [Zp] at hue;split at h
         . rename_i u hns hu;simp only [A!] at h;subst h;have hvs:=Zn hB hx hns hu;obtain⟨h1,h2⟩:=AO (P:=P) hB hx hu hvs.2 hvs.1;obtain⟨ad,n,c,rfl⟩:=hvs.1;refine Reads.tY hB hd ⟨⟨rfl,rfl,rfl⟩,.string ⟨u.toArray⟩,?_,by simp_all[aa,trivial]⟩;simp_all[convert,run_underlying]
         grind
       grind
     grind
   . grind[Zo]
   grind
 grind
structure lu (w:World) (A:Nat->Prop) (w':World) (v:Value) (res:AV) (bs:List AB) (A':Nat->Prop) (az:Nat->Value):Prop where
 os:w'.os=w.os
 tape:w'.tape=w.tape
 output:w'.output=w.output
 size:w.heap.size<=w'.heap.size
 same:∀b,b<w.heap.size->w'.heap[b]? =w.heap[b]?
 mono:∀b,A b->A' b
 iP:∀b,b<w.heap.size->A' b->A b
 bound:∀b,A' b->b<w'.heap.size
 res:aa w' A' az v res
 rows:∀i ab,bs[i]? =some ab->BR w' A' az i ab/\∀b,ai (az i)=some b->w.heap.size<=b
 apart:∀i j b,i<bs.length->j<bs.length->ai (az i)=some b->ai (az j)=some b->i=j
def Valid(P:Program)(G:Nat->Option GD)(f:FuncId)(s:Qj):Prop:=
 ∀(w:World) (A:Nat->Prop) (β:Nat->Value) (args:M Value) (bc:M AV) (pre:Prop) (res:AV) (bs:M AB),
  (∀b,A b->b<w.heap.size)->(∀i d,G i=some d->oB w A i d)->ae w A β args bc->s bc=some (pre,res,bs)->pre->
  Calls P f args.toArray w λe w'=>∃v,e= .returned v/\∃A' az,lu w A w' v res bs A' az
def HM(β:Nat->Value)(n b:Nat):Prop:=∃i,i<n/\ai (β (50000+i))=some b
def AS(r:bo)(k:Nat):Prop:=(∃i ab,k=50000+i/\i<10000/\r.heap[i]? =some (some ab))\/∃j,k=60000+j/\j<r.new.length
structure It (w:World) (A:Nat->Prop) (β:Nat->Value) (n:Nat) (w':World) (v:Value) (r:bo) (A':Nat->Prop) (az:Nat->Value):Prop where
 os:w'.os=w.os
 tape:w'.tape=w.tape
 output:w'.output=w.output
 size:w.heap.size<=w'.heap.size
 same:∀b,b<w.heap.size->¬HM β n b->w'.heap[b]? =w.heap[b]?
 mono:∀b,A b->A' b/\w'.heap[b]? =w.heap[b]?
 iP:∀b,b<w.heap.size->A' b->A b\/HM β n b
 bound:∀b,A' b->b<w'.heap.size
 res:aa w' A' az v r.res
 kept:∀i ab,r.heap[i]? =some (some ab)->BR w' A' az (50000+i) ab/\az (50000+i)=β (50000+i)
 rows:∀j ab,r.new[j]? =some ab->BR w' A' az (60000+j) ab/\∀b,ai (az (60000+j))=some b->w.heap.size<=b\/HM β n b
 apart:∀k k' b,AS r k->AS r k'->ai (az k)=some b->ai (az k')=some b->k=k'
def aF(P:Program)(G:Nat->Option GD)(f:FuncId)(s:dD):Prop:=
 ∀(w:World) (A:Nat->Prop) (β:Nat->Value) (args:M Value) (bc:M AV) (hs:M AB) (r:bo),
  (∀b,A b->b<w.heap.size)->(∀i d,G i=some d->oB w A i d)->ae w A β args bc->
  (∀i ab,hs[i]? =some ab->BR w A β (50000+i) ab)->(∀i j b,i<hs.length->j<hs.length->ai (β (50000+i))=some b->ai (β (50000+j))=some b->i=j)->
  s bc hs=some r->r.pre->r.heap.length=hs.length->hs.length<=100->
  Calls P f args.toArray w λe w'=>∃v,e= .returned v/\∃A' az,It w A β hs.length w' v r A' az
theorem ME {β az:Nat->Value}:∀(cs:M AV) (vs:M Value),cs.all Mi=true->ae w A β vs cs->ae w A az vs cs
 |[],vs,_,h=>by grind[ae]
 |c::cs,vs,ho,h=>by
  simp only [List.all_cons,Bool.and_eq_true] at ho;obtain⟨v,b7,rfl,h1,h2⟩:=h;refine⟨v,b7,rfl,?_,ME cs b7 ho.2 h2⟩;have To:=ho.1;unfold Mi at To;split at To
  . simpa only [aa,ae] using h1
  . cases To
def Ra {β az:Nat->Value}:∀(cs:M AV) (vs:M Value),cs.all ai6=true->ae w A β vs cs->ae w A az vs cs
 |[],_,_,h=>h
 |.cQ _ _ _::cs,_,ho,h=>by
   obtain⟨v,b7,rfl,h1,h2⟩:=h;exact⟨v,b7,rfl,h1,Ra cs b7 ho h2⟩
mutual
theorem yP(base n:Nat)(bJ:∀i,i<n->az (base+i)=β i):∀(x:AV) (v:Value),lP n x=true->aa w A β v x->aa w A az v (eG base x)
 |.own k,v,ho,h=>by
   simp only [lP] at ho;have:=N! ho;simp only [eG,aa] at h |-;rw [bJ k w!];exact h
 |.agg cs,v,ho,h=>by
   simp only [lP] at ho;simp only [eG,aa] at h |-;obtain⟨arr,h1,h2⟩:=h;exact⟨arr,h1,AT base n bJ cs _ ho h2⟩
 |.bf cs,v,ho,h=>by
   simp only [lP] at ho;simp only [eG,aa] at h |-;obtain⟨arr,h1,h2⟩:=h;exact⟨arr,h1,AT base n bJ cs _ ho h2⟩
 |.cF,v,ho,h=>by simp [lP] at ho
 |.pre _ _,v,ho,h|.view _ _ _ _,v,ho,h|.ref _ _,v,ho,h|.elem _ _ _ _,v,ho,h=>by simp [lP] at ho
 |.fn _ l m,v,ho,h=>by
   simp only [lP,B!,List.isEmpty_iff] at ho;obtain⟨rfl,ho⟩:=ho;obtain⟨a1,a2,h1,h2,h3⟩:=h;exact⟨a1,a2,h1,h2,Ra m _ ho h3⟩
 |.cQ _ _ _,v,ho,h=>by simp [lP] at ho
 |.undef,v,_,h|.int _ _,v,_,h|.bool _,v,_,h|.tt,v,_,h|.ff,v,_,h|.str _,v,_,h|.nil,v,_,h|.lb,v,_,h|.pW _ _,v,_,h|.mi,v,_,h=>by simpa only [eG,aa] using h
 |.iz ks cs,v,ho,h=>by
   simp only [lP] at ho;simp only [eG,aa] at h |-;obtain⟨b,es,ck,h1,h2,h3,h4,h5⟩:=h;exact⟨b,es,ck,h1,h2,h3,h4,ME cs _ ho h5⟩
 |.sl _ _,v,_,h|.full _ _,v,_,h=>by simpa only [eG,aa] using h
theorem AT(base n:Nat)(bJ:∀i,i<n->az (base+i)=β i):∀(xs:M AV) (vs:M Value),FU n xs=true->ae w A β vs xs->ae w A az vs (tH base xs)
 |[],vs,_,h=>by simpa only [tH,ae] using h
 |x::xs,vs,ho,h=>by
  simp only [FU,B!] at ho;simp only [ae] at h;obtain⟨v,b7,rfl,h1,h2⟩:=h;simp only [tH,ae];exact⟨v,b7,rfl,yP base n bJ x v ho.1 h1,AT base n bJ xs b7 ho.2 h2⟩
end
mutual
theorem MF:∀(x:AV) (v:Value),x.gb=true->aa w A β v x->aa w A' β v x
 |.own _,v,_,h=>by simpa only [aa] using h
 |.agg cs,v,ho,h=>by
   simp only [AV.gb] at ho;simp only [aa] at h |-;obtain⟨arr,h1,h2⟩:=h;exact⟨arr,h1,AU cs _ ho h2⟩
 |.bf cs,v,ho,h=>by
   simp only [AV.gb] at ho;simp only [aa] at h |-;obtain⟨arr,h1,h2⟩:=h;exact⟨arr,h1,AU cs _ ho h2⟩
 |.cF,v,ho,h=>by simp [AV.gb] at ho
 |.pre _ _,v,ho,h|.view _ _ _ _,v,ho,h|.ref _ _,v,ho,h|.elem _ _ _ _,v,ho,h|.fn _ _ _,v,ho,h|.cQ _ _ _,v,ho,h=>by simp [AV.gb] at ho
 |.lb,v,ho,h=>by simp [AV.gb] at ho
 |.pW _ _,v,ho,h=>by simp [AV.gb] at ho
 |.mi,v,ho,h=>by simp [AV.gb] at ho
 |.iz _ _,v,ho,h|.sl _ _,v,ho,h|.full _ _,v,ho,h=>by simp [AV.gb] at ho
 |.undef,v,_,h|.int _ _,v,_,h|.bool _,v,_,h|.tt,v,_,h|.ff,v,_,h|.str _,v,_,h|.nil,v,_,h=>by simpa only [aa] using h
theorem AU:∀(xs:M AV) (vs:M Value),FT xs=true->ae w A β vs xs->ae w A' β vs xs
 |[],vs,_,h=>by simpa only [ae] using h
 |x::xs,vs,ho,h=>by
  simp only [FT,B!] at ho;simp only [ae] at h |-;obtain⟨v,b7,rfl,h1,h2⟩:=h;exact⟨v,b7,rfl,MF x v ho.1 h1,AU xs b7 ho.2 h2⟩
end
def V9:∀(row:M Ty) (vs:M Value) (x:Row row),row.all Lw=true->bx w A row vs x->bx w A' row vs x
 |[],vs,_,_,h=>by grind[bx]
 |t::ts,vs,x,hf,h=>by
  simp only [List.all_cons,B!] at hf;obtain⟨v,b7,rfl,h1,h2⟩:=h;refine⟨v,b7,rfl,?_,V9 ts b7 _ hf.2 h2⟩;cases t with
  |slice r=>simp [Lw] at hf
  |int k=>simpa only [Rd] using h1
  |bool=>simpa only [Rd] using h1
  |str=>simpa only [Rd] using h1
def vL(base:Nat):∀(bs:M AB) (n k:Nat),al (gH (base+n) bs) k=(if base+n<=k then bs[k-(base+n)]? else none)
 |[],n,k=>by simp [gH,al]
 |b::bs,n,k=>by
  simp only [gH,al];by_cases hk:k=base+n
  . simp_all
  . simp;have:=vL base bs (n+1) k;grind
def DG:∀(bs:M AB) (i:Nat) (ab:AB),lj bs=true->bs[i]? =some ab->∃e row l,ab= .row e row l false
 |[],i,ab,_,h=>by grind
 |.cells _::bs,_,_,h,_|.arr _ _::bs,_,_,h,_|.iu _ _ _ _ _::bs,_,_,h,_|.views _ _ _ _ _::bs,_,_,h,_=>by grind[lj]
 |.row e row l true ::bs,_,_,h,_=>by grind[lj]
 |.row e row l false ::bs,0,ab,_,h=>by grind
 |.row e row l false ::bs,i+1,ab,ho,h=>DG bs i ab (by grind[lj]) x!
def DH:∀(bs:M AB) (i e:Nat) (row:M Ty) (l:M (Row row)) (fr:Bool),aoZ bs=true->bs[i]? =some (.row e row l fr)->row.all Lw=true
 |[],i,_,_,_,_,_,h=>by grind
 |.cells _::bs,_,_,_,_,_,h,_|.arr _ _::bs,_,_,_,_,_,h,_|.iu _ _ _ _ _::bs,_,_,_,_,_,h,_|.views _ _ _ _ _::bs,_,_,_,_,_,h,_=>by grind[aoZ]
 |.row e row l fr::bs,0,e',ng,l',H7,ho,h=>by
   simp_all[aoZ,B!]
 |.row e row l fr::bs,i+1,e',ng,l',H7,ho,h=>by
   simp [aoZ,B!] at ho;exact DH bs i e' ng l' H7 ho.2 (by simpa using h)
def lJ {h:aQ}:∀(new:M (Nat×AB)) (k:Nat) (b:AB),ju h new=true->al new k=some b->h k=none/\rl k=false
 |[],k,b,_,hf=>by grind[al]
 |(j,x)::r,k,b,ho,hf=>by
  simp [ju,B!] at ho;simp [al] at hf;by_cases hk:k=j
  . grind
  . simp [aP hk,O!] at hf;exact lJ r k b ho.2 hf
theorem aw.call(hB:aw C A β st a w)(hd:∀t,dst=some t->t<st.n){base:Nat}{bs:M AB}{cond:M Prop}
  (Di:∀j∈fz,∃e row l fr,st.h j=some (.row e row l fr)) (fp:ju st.h (gH base bs)=true) (AW:lP bs.length res=true) (hor:lj bs=true)
  (hp:lu w (ct A β fz) w' v res bs A1 pU):
  Rel C (st.put dst {cond:=cond,res:=eG base res,gz:=bif res.gb&&aoZ bs then [] else cM st.h fz,new:=gH base bs}) (a.put dst v) w':=by
 let az:Nat->Value:=λk=>if base<=k/\k<base+bs.length then pU (k-base) else β k
 have Rb:∀i,i<bs.length->az (base+i)=pU i:=by
  grind
 have Lz:∀k,al (gH base bs) k=(if base<=k then bs[k-base]? else none):=λk=>by simpa using vL base bs 0 k
 have bJ:∀k,al (gH base bs) k=none->az k=β k:=by
  grind
 have sm:∀k ab,al (gH base bs) k=some ab->base<=k/\bs[k-base]? =some ab/\k-base<bs.length:=by
  grind
 have DJ:∀k ab,al (gH base bs) k=some ab->az k=pU (k-base):=by
  grind
 let A2:Nat->Prop:=bif res.gb&&aoZ bs then A else A1
 have aFR:∀b,A b->A2 b:=by
  intro b hb;simp only [A2];cases res.gb&&aoZ bs with
  |true=>grind
  |false=>exact hp.mono b (.inl hb)
 have hK:cg w w' A A2:=λb hb=>⟨aFR b hb,hp.same b (hB.bound b hb)⟩
 have Mm:∀k ab,al (bif res.gb&&aoZ bs then [] else cM st.h fz) k=some ab->(res.gb&&aoZ bs)=false/\k∈fz/\∃e row l fr,st.h k=some (.row e row l fr)/\ab= .row e row l true:=by
  grind[aoZ,al,kG]
 refine⟨A2,az,?_⟩;refine hB.step (out:={cond:=cond,res:=eG base res,gz:=bif res.gb&&aoZ bs then [] else cM st.h fz,new:=gH base bs}) hd (λk b h=>lJ _ k b fp h) ?_ bJ hK hp.os hp.tape hp.output hp.size (λb hb _=>hp.same b hb) ?_ ?_ ?_ ?_ ?_ ?_ ?_
 . grind
 . intro b hb;simp only [A2] at hb;cases hl:res.gb&&aoZ bs with
   |true=>rw [hl] at hb;exact I? (hB.bound b hb) hp.size
   |false=>rw [hl] at hb;exact hp.bound b hb
 . intro b hb;simp only [A2] at hb;cases hl:res.gb&&aoZ bs with
   |true=>grind
   |false=>
    rw [hl] at hb;rcases Nat.lt_or_ge b w.heap.size with jU|Qq
    . rcases hp.iP b jU hb with h|⟨j,hj,Zk⟩
      . exact .inl h
      . have hr:=Di j hj;refine .inr (.inr ⟨j,⟨by obtain⟨_,_,_,_,hr⟩:=hr;simp [hr],.inl ?_⟩,Zk⟩);simp only [O!];exact rY fz j hj hr
    . exact .inr (.inl Qq)
 . intro k ab h _;obtain⟨hl,hk,e,row,l,fr,hr,rfl⟩:=Mm k ab h;rw [nT]
   have hkn:al (gH base bs) k=none:=by
    cases hh:al (gH base bs) k with
    |none=>rfl
    |some y=>have:=(lJ _ k y fp hh).1;rw [hr] at this;cases this
   obtain⟨xs,h1,h2,h3⟩:=hB.blocks k _ hr;simp only [BR,bJ k hkn];refine⟨xs,c9 h1 (λb hb=>hp.same b (nk hB (by simp [hr]) hb)),br (λc x hx=>bz hK row c x hx) l xs h2,λb hb=>?_⟩;simp only [Q?,A2,hl,O!];exact hp.mono b (.inr ⟨k,hk,hb⟩)
 . intro k ab h;obtain⟨h1,h2,h3⟩:=sm k ab h;obtain⟨e,row,l,rfl⟩:=DG bs _ ab hor h2;obtain⟨⟨xs,g1,g2,g3⟩,g4⟩:=hp.rows _ _ h2;simp only [BR,DJ k _ h]
   have sh:dJ (bx w' A2 row) xs l:=by
    simp only [A2];cases hl:res.gb&&aoZ bs with
    |true=>
     simp only [B!] at hl;exact br (λc x hx=>V9 row c x (DH bs _ e row l false hl.2 h2) hx) l xs g2
    |false=>exact g2
   refine⟨xs,g1,sh,λb hb=>?_⟩;have g3':=g3 b hb;simp only [L?,n?] at g3' |-;simp only [A2];cases hl:res.gb&&aoZ bs with
   |true=>intro hA;exact absurd (hB.bound b hA) (by have:=g4 b hb;omega)
   |false=>exact g3'
 . intro k b ab h hb;obtain⟨h1,h2,h3⟩:=sm k ab h;rw [DJ k _ h] at hb;exact .inl ((hp.rows _ _ h2).2 b hb)
 . intro k k' b h h' hb fb;obtain⟨x,hx⟩:=R!.1 h;obtain⟨y,hy⟩:=R!.1 h';obtain⟨h1,h2,h3⟩:=sm k x hx;obtain⟨g1,g2,g3⟩:=sm k' y hy;rw [DJ k _ hx] at hb;rw [DJ k' _ hy] at fb;have:=hp.apart _ _ b h3 g3 hb fb;omega
 . have xF:=yP (az:=az) base bs.length Rb res v AW hp.res;simp only [A2];cases hl:res.gb&&aoZ bs with
   |false=>exact xF
   |true=>
    simp only [B!] at hl;exact yP (az:=az) base bs.length Rb res v AW (MF res v hl.1 hp.res)
def EA(G:Nat->Option GD)(f:FuncId)(t:M AV->Option (Option Nat×CF)):Prop:=
 ∀(w:World) (A:Nat->Prop) (β:Nat->Value) (aW:Array Value) (bc:M AV) (k:Option Nat) (F:CF),(∀i d,G i=some d->oB w A i d)->ae w A β aW.toList bc->t bc=some (k,F)->
  ∀p,(∀j,k=some j->p=β j)->JM w A p (.func (.func f) #[] aW) F
structure aV (P:Program) (E:Env):Prop where
 fc:bA E.T P
 sig:∀f s,E.sig f=some s->Valid P E.gP f s/\cV P f
 qX:∀f m s,E.qX f=some (m,s)->aF P E.gP f s/\cV P f
 hp:∀Q,HP.is Q↔Q=P
 cq:∀f t,E.cq f=some t->EA E.gP f t
structure dq (P:Program) (C:Ctx) (E:Env):Prop where
 ok:aV P E
 g:C.G=E.gP
theorem dq.fc {P:Program}{C:Ctx}{E:Env}(h:dq P C E):bA E.T P:=h.ok.fc
def dq.qX {P:Program}{C:Ctx}{E:Env}(h:dq P C E):∀f m s,E.qX f=some (m,s)->aF P E.gP f s/\cV P f:=h.ok.qX
def dq.sig {P:Program}{C:Ctx}{E:Env}(h:dq P C E):∀f s,E.sig f=some s->Valid P E.gP f s/\cV P f:=h.ok.sig
def fw(st:St)(o:Oper):Bool:=match o.dst with
 |some d=>Nat.blt d st.n
 |none=>true
def nm(hB:aw C A β st a w):∀(xs:M Operand),ae w A β (xs.map a.eval) (xs.map (ev st))
 |[]=>by rfl
 |x::xs=>by
  exact⟨_,_,rfl,aG hB x,nm hB xs⟩
def cW {dst:Option Tmp}{op:Op}{type:TypeId}{pos:String}{after:Array Edge}{guard:Option (Nat×Bool)}{s:Sem Value}{out:Out}
  (hs:∀w,(execOp a.eval ⟨dst,op,type,pos,after,guard⟩).run P w=(s.run P w).andThen λv w'=>.ok (.value v) w') (h:∃v w',s.run P w= .ok v w'/\Rel C (st.put dst out) (a.put dst v) w')
  (hK:∀a' w',Rel C (st.put dst out) a' w'->K a' w'):Oper.wp P ⟨dst,op,type,pos,after,guard⟩ a w K Q:=by
 obtain⟨v,w',h1,h2⟩:=h;refine bB (v:=v) (w':=w') ?_ (hK _ _ h2);simp_all
def MG(hB:aw C A β st a w):∀(x:Option Operand),rX w A β (x.map (ev st)) (x.map a.eval)
 |none=>by simp [rX]
 |some x=>by grind[rX,aG]
def MH(h:ju st.h [(d,b)]=true):st.h d=none/\rl d=false:=lJ _ d b h (by simp [al])
theorem rp{k:Nat}(hf:fresh h k=true):h k=none/\rl k=false:=by
 grind[fresh]
theorem Wa(hE:dq P C E)(hB:aw C A β st a w)(h:dV E st o=some out)(qY:fw st o=true)(fp:ju st.h out.new=true)(hc:∀p∈out.cond,p)
  (hK:∀a' w',Rel C (st.put o.dst out) a' w'->K a' w'):o.wp P a w K Q:=by
 have hd:∀t,o.dst=some t->t<st.n:=by
  intro t ht;simp_all[fw,N!]
 obtain⟨dst,op,type,pos,after,guard⟩:=o;simp only at hd hK;cases op with
 |move x=>
  simp only [dV,A!] at h;subst h;exact bB (by rfl) (hK _ _ (Rel.jP (hB.quiet hd ⟨rfl,rfl,rfl⟩ (aG hB x))))
 |assign x=>
  simp only [dV,A!] at h;subst h;exact bB (by rfl) (hK _ _ (Rel.jP (hB.quiet hd ⟨rfl,rfl,rfl⟩ (aG hB x))))
 |pick c x y=>
  simp only [dV] at h;have K5:=aG hB c;have hx:=aG hB x;have hy:=aG hB y;split at h
  . rename_i Tp;simp only [A!] at h;subst h;rw [Tp] at K5;simp only [aa] at K5;exact bB (v:=a.eval x) (by simp_all[execOp,asBool]) (hK _ _ (Rel.jP (hB.quiet hd ⟨rfl,rfl,rfl⟩ hx)))
  . rename_i Tp;simp only [A!] at h;subst h;rw [Tp] at K5;simp only [aa] at K5;exact bB (v:=a.eval y) (by simp_all[execOp,asBool]) (hK _ _ (Rel.jP (hB.quiet hd ⟨rfl,rfl,rfl⟩ hy)))
  . rename_i p Tp;simp only [Option.some.injEq] at h;subst h;rw [Tp] at K5;simp only [aa] at K5;refine bB (v:=if p then a.eval x else a.eval y) (by simp_all[execOp,asBool]) (hK _ _ (Rel.jP (hB.quiet hd ⟨rfl,rfl,rfl⟩ ?_)));grind[DC]
  grind
 |alloc t=>
  simp only [dV] at h;split at h
  . rename_i te d ht;cases h40:Nat.ble te.size 40 with
    |false=>grind
    |true=>
    rw [h40] at h;simp only [L!] at h;cases kT:(ofConst te.zero).cells.all AV.one with
    |false=>grind
    |true=>
     simp only [kT,L!,A!] at h;subst h;exact cW (λw=>by simp [execOp]) (Tk hE.fc hB hd (MH fp) ht kT) hK
  grind
 |box t x=>
  simp only [dV] at h;split at h
  . rename_i d;cases kT:(ev st x).cells.all AV.one with
    |false=>grind
    |true=>
     simp only [kT,L!,A!] at h;subst h;exact cW (λw=>by rfl) (Zm (t:=t) hB hd (MH fp) (aG hB x) kT) hK
  grind
 |build t parts=>
  simp only [dV] at h;refine cW (s:=Instr.build t (parts.map λ(i,x)=>(i,a.eval x))) (λw=>by simp [execOp]) (Reads.tY hB hd (Tl hE.fc ?_ ?_ h)) hK
  . simp_all
  . have:=nm hB (parts.toList.map (·.2));simp_all[Function.comp_def]
 |buildSlice t len parts=>
  simp only [dV] at h;split at h
  . rename_i d;cases hf:fresh st.h (st.kb+d) with
    |false=>grind
    |true=>
    simp only [hf,L!] at h;have hn:=rp hf;refine cW (s:=Instr.buildSlice t len (parts.map λ(i,x)=>(i,a.eval x))) (λw=>by simp [execOp]) (Gi hE.fc hB hd hn ?_ ?_ h) hK
    . simp_all
    . have:=nm hB (parts.toList.map (·.2));simp_all[Function.comp_def]
  grind
 |load t x=>
  simp only [dV] at h;exact cW (λw=>by simp [execOp]) (Reads.tY hB hd (Ax hE.fc hB (aG hB x) h hc)) hK
 |store t x y=>
  simp only [dV] at h;have hx:=aG hB x;have hy:=aG hB y
  have key:∃w',(Instr.storeAt t (a.eval x) (a.eval y)).run P w= .ok () w'/\Rel C (st.put dst out) (a.put dst undef) w':=by
   cases Iu:ev st x with
   |ref k off=>rw [Iu] at h hx;exact xI hE.fc hB hd hx hy h
   |elem k sz i j=>rw [Iu] at h hx;exact Gg hE.fc hB hd hx hy h hc
   |_=>grind[iA]
  obtain⟨w',h1,h2⟩:=key;simp_all[nU,execOp]
 |nilCheck x=>
  simp only [dV] at h;have hx:=aG hB x
  have fin:∀r,ev st x=r->out= {cond:=[],res:=r}->(execOp a.eval {dst,op:=.nilCheck x,type,pos,after,guard}).run P w= .ok (.value (a.eval x)) w->Oper.wp P {dst,op:=.nilCheck x,type,pos,after,guard} a w K Q:=by
   intro r hr ho gf;subst ho;exact bB gf (hK _ _ (Rel.jP (hB.quiet hd ⟨rfl,rfl,rfl⟩ x!)))
  split at h
  . rename_i k off hv;simp only [A!] at h;refine fin _ hv h.symm ?_;rw [hv] at hx;simp only [aa] at hx;obtain⟨b,_,hx⟩:=hx;simp [execOp,hx]
  . rename_i r y j hv;simp only [A!] at h;refine fin _ hv h.symm ?_;rw [hv] at hx;simp only [aa] at hx;obtain⟨b,o,cs,hx,_⟩:=hx;simp [execOp,hx]
  . rename_i k sz i j hv;simp only [A!] at h;refine fin _ hv h.symm ?_;rw [hv] at hx;simp only [aa] at hx;obtain⟨b,m,cap,_,hx⟩:=hx;simp [execOp,hx]
  . rename_i f first aW hv
    simp only [A!] at h;refine fin _ hv h.symm ?_;rw [hv] at hx;simp only [aa] at hx;obtain⟨a1,a2,hx,_⟩:=hx;simp [execOp,hx]
  grind
 |binOp op t x y yt=>
  simp only [dV] at h
  exact cW (s:=do eqGuard op t x y (a.eval x) (a.eval y);binOp op t (a.eval x) (a.eval y)) (λw=>by
   simp only [execOp,Sem.run_bind];rfl) (Reads.tY hB hd (Ze hE.fc (aG hB x) (aG hB y) h hc)) hK
 |unOp op t x=>
  simp only [dV] at h;exact cW (λw=>by simp [execOp]) (Reads.tY hB hd (afU (aG hB x) h hc)) hK
 |convert s d x=>
  simp only [dV] at h;exact cW (λw=>by simp [execOp]) (MD hE.fc hB hd (aG hB x) h hc) hK
 |makeFunc f first aW=>
  simp only [dV,A!] at h;subst h;refine bB (v:=.func f (first.map a.eval) (aW.map a.eval)) (by rfl) (hK _ _ (Rel.jP (hB.quiet hd ⟨rfl,rfl,rfl⟩ ?_)));simp only [aa];exact⟨_,_,rfl,by simpa using nm hB first.toList,by simpa using nm hB aW.toList⟩
 |makeSlice t l c=>
  simp only [dV] at h;split at h
  . rename_i d;cases hf:fresh st.h (st.kb+d) with
    |false=>grind
    |true=>
    simp only [hf,L!] at h;exact cW (λw=>by simp [execOp]) (Iq hE.fc hB hd (rp hf) (aG hB l) (aG hB c) h hc) hK
  grind
 |slice t x l hi mx=>
  simp only [dV] at h;exact cW (λw=>by simp [execOp]) (Reads.tY hB hd (Tf hE.fc hB (aG hB x) (MG hB l) (MG hB hi) (MG hB mx) h hc)) hK
 |fieldAddr s x f=>
  simp only [dV] at h;exact cW (λw=>by simp [execOp]) (Reads.tY hB hd (Ie hE.fc (aG hB x) h)) hK
 |field s x f=>
  simp only [dV] at h;have hx:=aG hB x;split at h
  . rename_i ft off cs hf hv;split at h
    . rename_i te ht;split at h
      . rename_i r hp;simp only [A!] at h;subst h;rw [hv] at hx;simp only [aa] at hx;obtain⟨arr,hx,hr⟩:=hx;obtain⟨fs,fd,hu,hfd,e1,e2⟩:=JP hE.fc hf;obtain⟨v,g1,g2⟩:=xG hE.fc ht hr hp;refine bB (v:=v) (w':=w) ?_ (hK _ _ (Rel.jP (hB.quiet hd ⟨rfl,rfl,rfl⟩ g2)));simp_all[execOp,Instr.field,run_underlying,asAgg]
      grind
    grind
  grind
 |indexAddr t x i=>
  simp only [dV,vJ] at h;exact cW (λw=>by simp [execOp]) (Reads.tY hB hd (Ic hE.fc hB (aG hB x) (aG hB i) h hc)) hK
 |lookup t x i ok=>
  simp only [dV] at h;have hx:=aG hB x;have hi:=aG hB i;split at h
  . rename_i ks cs n Iu hiv;rw [Iu] at hx;rw [hiv] at hi;simp only [aa] at hi;refine cW (s:=Instr.lookup t (a.eval x) (a.eval i) ok) (λw=>by simp [execOp]) (Reads.tY hB hd ?_) hK;rw [hi.1];exact Qp hE.fc hx h hc
  grind
 |extract x i=>
  simp only [dV] at h;have hx:=aG hB x;split at h
  . rename_i vs hv;split at h
    . rename_i r hr;simp only [Option.some.injEq] at h;subst h;rw [hv] at hx;simp only [aa] at hx;obtain⟨arr,hx,hrel⟩:=hx;obtain⟨v,g1,g2⟩:=vI vs _ i r hrel hr;have g1':arr[i]? =some v:=by grind
      exact bB (v:=v) (w':=w) (by simp_all[execOp,Instr.extract]) (hK _ _ (Rel.jP (hB.quiet hd ⟨rfl,rfl,rfl⟩ g2)))
    grind
  grind
 |index t x i=>
  simp only [dV] at h;have hx:=aG hB x;have hi:=aG hB i;split at h
  . rename_i s k n Iu hiv;cases Er:cU E.T t tc with
    |false=>grind
    |true=>
    simp only [Er,cond_true,Option.some.injEq] at h;subst h;obtain⟨h0,h1⟩:=eT hc;obtain⟨dd,hu,aLu⟩:=pq hE.fc Er;have hu:P.underlying t=some .string:=by grind[tc]
    rw [Iu] at hx;rw [hiv] at hi;simp only [aa] at hx hi;have jU:n.toNat<s.length:=by omega
    refine bB (v:=.int .u8 ((s.getD n.toNat 0).toNat:Int)) (w':=w) ?_ (hK _ _ (Rel.jP (hB.quiet hd ⟨rfl,rfl,rfl⟩ ?_)))
    . have hg:(⟨s.toArray⟩:ByteArray)[n.toNat]? =some (s.getD n.toNat 0):=by
       rw [getElem?_pos _ _ (by grind[Az])];simp [List.getD,List.getElem?_eq_getElem jU];rfl
      simp [execOp,Instr.index,hx.1,hi.1,asIntOf,run_underlying hu,h0,hg]
    . simp only [aa,true_and];have:=(s.getD n.toNat 0).toNat_lt;grind[lo,Vg.hi]
  . rename_i cs k n Iu hiv;rw [Iu] at hx;rw [hiv] at hi;simp only [aa] at hx hi;obtain⟨arr,hxe,mj⟩:=hx;exact cW (s:=Instr.index t (.agg arr) (a.eval i)) (λw=>by simp [execOp,hxe]) (Reads.tY hB hd (K3 hE.fc mj hi.1 h hc)) hK
  grind
 |call c=>
  obtain⟨callee,args,argTypes⟩:=c;simp only [dV] at h;split at h
  . rename_i b;split at h
    . rename_i x t bm Is;have hx:=aG hB x;split at h
      . rename_i n hn;cases hq:(bif yz (ev st x) then cU E.T t gG else cU E.T t tc) with
        |false=>grind
        |true=>
         simp only [hq,cond_true,Option.some.injEq] at h;subst h;have ea:args= #[x]:=by grind
         have et:argTypes= #[t]:=by grind
         subst ea;subst et;rcases Zb hB hx hn with⟨ad,l,c,hv,hl,hm⟩|⟨s,hs,hl⟩
         . have hns:yz (ev st x)=true:=by
            cases Iu:ev st x<;>first|rfl|skip
            grind[aa]
           rw [hns] at hq;simp only [L!] at hq;obtain⟨d,hu,Er⟩:=pq hE.fc hq;obtain⟨e,rfl⟩:∃e,d= .slice e:=by cases d<;>simp_all [gG]
           refine bB (v:=.int .i64 (l:Int)) (w':=w) ?_ (hK _ _ (Rel.jP (hB.quiet hd ⟨rfl,rfl,rfl⟩ (by grind[xK]))));simp_all[execOp,resolve,invoke,builtin,Builtin.len_,run_underlying,goInt]
         . rw [hs] at hx hq;simp only [yz,cond_false] at hq;obtain⟨d,hu,Er⟩:=pq hE.fc hq;have hu:P.underlying t=some .string:=by grind[tc]
           simp only [aa] at hx;refine bB (v:=.int .i64 (s.length:Int)) (w':=w) ?_ (hK _ _ (Rel.jP (hB.quiet hd ⟨rfl,rfl,rfl⟩ (by grind[xK]))));simp [execOp,resolve,invoke,builtin,hx.1,Builtin.len_,run_underlying hu,goInt,Az]
      grind
    . rename_i x y t t' bm Is;split at h
      . rename_i d;cases hf:fresh st.h (st.kb+d) with
        |false=>grind
        |true=>
         simp only [hf,cond_true] at h;have ea:args= #[x,y]:=by grind
         have et:argTypes= #[t,t']:=by grind
         subst ea;subst et;exact cW (s:=Builtin.append_ #[t,t'] type #[a.eval x,a.eval y]) (λw=>by simp [execOp,resolve,invoke,builtin]) (Qr hE.fc hB hd (rp hf) (aG hB x) (aG hB y) h hc) hK
      grind
    . rename_i x y t t' bm Is;have ea:args= #[x,y]:=by grind
      have et:argTypes= #[t,t']:=by grind
      subst ea;subst et;exact cW (s:=Builtin.copy_ #[t,t'] type #[a.eval x,a.eval y]) (λw=>by simp [execOp,resolve,invoke,builtin]) (V5 hE.fc hB hd (aG hB x) (aG hB y) h hc) hK
    . rename_i x t bm Is;have ea:args= #[x]:=by grind
      have et:argTypes= #[t]:=by grind
      subst ea;subst et;exact cW (s:=Builtin.clear_ #[t] type #[a.eval x]) (λw=>by simp [execOp,resolve,invoke,builtin]) (Tm hE.fc hB hd (aG hB x) h hc) hK
    . rename_i x y bm;have ea:args= #[x,y]:=by grind
      subst ea;have hx:=aG hB x;have hy:=aG hB y;split at h
      . rename_i k n k' m Iu hyv;split at h
        . rename_i hk;subst hk;simp only [A!] at h;subst h;rw [Iu] at hx;rw [hyv] at hy;simp only [aa] at hx hy;refine bB (v:=.int k (min n m)) (w':=w) ?_ (hK _ _ (Rel.jP (hB.quiet hd ⟨rfl,rfl,rfl⟩ (by simp only [aa,true_and];omega))));have e:(if m<n then m else n)=min n m:=by omega
          simp_all[execOp,resolve,invoke,builtin,run_min_int2]
        grind
      grind
    . rename_i x y bm;have ea:args= #[x,y]:=by grind
      subst ea;have hx:=aG hB x;have hy:=aG hB y;split at h
      . rename_i k n k' m Iu hyv;split at h
        . rename_i hk;subst hk;simp only [A!] at h;subst h;rw [Iu] at hx;rw [hyv] at hy;simp only [aa] at hx hy;refine bB (v:=.int k (max n m)) (w':=w) ?_ (hK _ _ (Rel.jP (hB.quiet hd ⟨rfl,rfl,rfl⟩ (by simp only [aa,true_and];omega))));have e:(if m>n then m else n)=max n m:=by omega
          simp_all[execOp,resolve,invoke,builtin,run_max_int2]
        grind
      grind
    grind
  . rename_i f;have hf:=aG hB f
    have key:∀(rq:FuncId) (first aW:M AV) (base:Nat),ev st f= .fn (.func rq) first aW->p0 E st.h base rq (first++(args.toList.map (ev st))++aW)=some out->
      Oper.wp P {dst,op:=.call {callee:=.value f,args,argTypes},type,pos,after,guard} a w K Q:=by
     intro rq first aW base Gl np
     rw [Gl] at hf;simp only [aa] at hf;obtain⟨a1,a2,Dh,r1,r2⟩:=hf;unfold p0 at np;split at np
     . rename_i s hs;split at np
       . rename_i pre res bs hsv;cases hq:(Nat.ble bs.length 100&&lP bs.length res&&lj bs) with
         |false=>grind
         |true=>
          simp only [hq,L!,A!] at np;subst np;simp only [B!] at hq;obtain⟨hv,Tq⟩:=hE.sig rq s hs;have bm:=fv _ _ _ _ (fv _ _ _ _ r1 (nm hB args.toList)) r2;obtain⟨p1,p2⟩:=Io (A':=ct A β (nd st.h (first++(args.toList.map (ev st))++aW)).2) hB (λb h=>.inl h) _ _ bm (λk hk b hb=>.inr ⟨k,hk,hb⟩)
          have V4:∀b,ct A β (nd st.h (first++(args.toList.map (ev st))++aW)).2 b->b<w.heap.size:=by
           intro b h;rcases h with h|⟨j,hj,hb⟩
           . exact hB.bound b h
           . obtain⟨e',r',l',f',hr⟩:=p2 j hj;exact nk hB x! hb
          have wU:=hv w _ β _ _ pre res bs V4 (λi d hi=>(hB.laid i d (by rw [hE.g];omega)).mono (λb h=>⟨.inl h,rfl⟩)) p1 hsv (eT hc)
          have gf:(execOp a.eval {dst,op:=.call {callee:=.value f,args,argTypes},type,pos,after,guard}).run P w= .ok (.enter rq (a1.toList++args.toList.map a.eval++a2.toList).toArray) w:=by
           have e:(a1++args.map a.eval)++a2=(a1.toList++args.toList.map a.eval++a2.toList).toArray:=by
            grind
           have:=Tq (a1++args.map a.eval++a2) w;grind[execOp,resolve,Deferred.ofValue,Sem.run_bind,Sem.run_pure,Result.andThen_ok,invoke]
          unfold Oper.wp;rw [gf];simp only [Oper.upon_enter];refine wU.mono λe w' ⟨v,he,A1,pU,tZ⟩=>?_;subst he;exact hK _ _ (hB.call hd p2 fp hq.1.2 hq.2 tZ)
       grind
     grind
    grind
  grind
 |_=>grind[dV]
def jA(base:Nat):AB->AB
 |.views e (some j) n m sz=>.views e (some (base+j)) n m sz
 |b=>b
def iR(k:Nat):M AB->Bool
 |[]=>true
 |.row _ _ _ false ::r=>iR k r
 |.views _ (some j) _ _ _::r=>Nat.blt j k&&iR k r
 |_=>false
def nY(E:Env)(h:aQ)(d f:Nat)(args:M AV):Option Out:=match E.sig f with
 |some s=>match s (nd h args).1 with
  |some (pre,res,bs)=>bif Nat.ble bs.length 100&&lP bs.length res&&iR bs.length bs then
   some {cond:=[pre],res:=eG (aj2 d) res,gz:=cM h (nd h args).2,new:=gH (aj2 d) (bs.map (jA (aj2 d)))} else none
  |none=>none
 |none=>none
def DK(E:Env)(st:St)(o:Oper):Option Out:=
 let T:=E.T
 let h:=st.h
 let ρ:=ev st
 match o.op with
 |.load t p=>match ρ p,T.find t with
   |.elem k sz i j,some te=>match h k with
     |some (.views _ (some k2) _ m s2)=>bif Nat.beq sz 1&&Nat.beq j 0&&gG te.desc then some {cond:=[i<m],res:=.view k2 1 (i*s2) s2} else none
     |_=>none
   |_,_=>none
 |.store t p v=>match ρ p,ρ v with
   |.elem k sz i j,.view k3 s3 off len=>match h k with
     |some (.views e (some k2) n m s2)=>bif Nat.beq sz 1&&Nat.beq j 0&&(Nat.beq k3 k2&&Nat.beq s3 1)&&iW T t 1 then
       some {cond:=[i=m/\m<n/\off=m*s2/\len=s2],res:=.undef,gz:=[(k,.views e (some k2) n (m+1) s2)]} else none
     |_=>none
   |_,_=>none
 |.slice t x (some lo) (some hi) (some mx)=>match ρ x,ρ lo,ρ hi,ρ mx with
   |.own k,.int _ a,.int _ b,.int _ c=>match h k with
     |some (.row _ row l _)=>bif bh T t row.length then some {cond:=[0<=a/\a<=b/\b<=c/\c<=(l.length:Int)],res:=.view k row.length a.toNat (b.toNat-a.toNat)} else none
     |_=>none
   |_,_,_,_=>none
 |.indexAddr t x i=>match ρ x,ρ i with
   |.own k,.int _ i=>match h k with
     |some (.views _ _ n _ _)=>bif bh T t 1 then some {cond:=[0<=i/\i<(n:Int)],res:=.elem k 1 i.toNat 0} else none
     |_=>none
   |_,_=>none
 |.call c=>match c.callee with
   |.builtin b=>match b,c.args.toList,c.argTypes.toList with
     |.len,[x],[t]=>match ρ x with
       |.own k=>match h k with
         |some (.views _ _ n _ _)=>bif cU T t gG then some {cond:=[],res:=.int .i64 (n:Int)} else none
         |_=>none
       |_=>none
     |_,_,_=>none
   |.value f=>match ρ f,o.dst with
     |.fn (.func f) first aW,some d=>nY E h (st.kb+d) f (first++(c.args.toList.map ρ)++aW)
     |.fn (.func f) first aW,none=>nY E h st.kb f (first++(c.args.toList.map ρ)++aW)
     |_,_=>none
   |_=>none
 |_=>none
def aa0(E:Env)(st:St)(o:Oper):Option Out:=match dV E st o with
 |some out=>some out
 |none=>DK E st o
variable {j:Option Nat}
theorem ru(hB:aw C A β st a w){k:Nat}{m:Nat}(h:st.h k=some (.views e j n m sz)):
  (β k= .slice none 0 0/\n=0)\/∃b cap cur,β k= .slice (some ⟨b,0,none⟩) n cap/\w.heap[b]? =some (.cells cur e (0,0))/\n<=cap/\cap<=maxLen/\cur.size=cap/\¬A b/\
    ∀j',j=some j'->∀i,i<m->∃v,(cur.toList.take n)[i]? =some v/\aa w A β v (.view j' 1 (i*sz) sz):=by
 obtain⟨xs,h1,h2,h3⟩:=hB.blocks k _ h;rcases h1.2 with⟨hv,hn⟩|⟨g,cap,cur,hv,_,hg,h4,h5,h6,h7⟩
 . grind
 . refine .inr ⟨g,cap,cur,hv,hg,h4,h5,w!,h2 g (by rw [hv];rfl),λj' hj i hi=>?_⟩;grind
def Tr(hB:aw C A β st a w){k:Nat}{m:Nat}(h:st.h k=some (.views e j n m sz)):n<=maxLen:=by
 grind[ru]
def Ts(hT:bA T P)(hB:aw C A β st a w){k i e n m s2 k2:Nat}(hp:aa w A β vp (.elem k 1 i 0))(ht:T.find t=some te)(hs:gG te.desc=true)
  (hk:st.h k=some (.views e (some k2) n m s2)) (hi:i<m):∃v,(Instr.loadAt t vp).run P w= .ok v w/\aa w A β v (.view k2 1 (i*s2) s2):=by
 obtain⟨b,m',cap,bJ,rfl⟩:=hp;rcases ru hB hk with⟨hv,_⟩|⟨b',j7,cur,hv,hg,_,_,_,_,hx⟩
 . grind
 . obtain⟨v,e1,e2⟩:=hx k2 rfl i hi;rw [o?] at e1;split at e1
   . have hr:w.rangeAt b i [v]:=by
      intro j u hj;grind[List.getElem?_cons_zero,Option.some.injEq,World.cell?]
     have Zq:pick te [.view k2 1 (i*s2) s2] 0=some (.view k2 1 (i*s2) s2):=by
      unfold pick;have :te.desc.nR=false:=by cases hd:te.desc<;>rw [hd] at hs<;>first|rfl|cases hs
      grind
     obtain⟨v',g1,g2⟩:=kF (β:=β) (A:=A) hT ht (cs:=[v]) (by grind[ae]) Zq hr;grind
   grind
def Qu(hT:bA T P)(hB:aw C A β st a w)(hd:∀t,dst=some t->t<st.n){k i e n m s2 k2 off len:Nat}(hp:aa w A β vp (.elem k 1 i 0))(hx:aa w A β vx (.view k2 1 off len))
  (hk:st.h k=some (.views e (some k2) n m s2)) (dQ:iW T t 1=true) {cond:M Prop} (hi:i=m) (hm:m<n) (ho:off=m*s2) (hl:len=s2):
  ∃w',(Instr.storeAt t vp vx).run P w= .ok () w'/\Rel C (st.put dst {cond:=cond,res:=.undef,gz:=[(k,.views e (some k2) n (m+1) s2)]}) (a.put dst undef) w':=by
 subst hi;subst ho;subst hl;obtain⟨ii,jx,si⟩:=pt hT dQ;simp only [aa] at hp;obtain⟨b,m',cap,bJ,rfl⟩:=hp;rcases ru hB hk with⟨hv,_⟩|⟨b',j7,cur,hv,hg,hle,Ac,dX,lR,aTX⟩
 . rw [bJ] at hv;cases hv
 . rw [bJ] at hv;simp only [Value.slice.injEq,A!,Addr.mk.injEq,z?] at hv;obtain⟨rfl,rfl,rfl⟩:=hv
   have kT:vx.oneCell'=true:=by
    simp only [aa] at hx;rcases hx with⟨_,a',c',h,_⟩|⟨_,_,_,_,_,h,_⟩<;>rw [h]<;>rfl
   have Tp:vx.cells= #[vx]:=cells_one kT;have hb:ai (β k)=some b:=by rw [bJ];rfl
   have sE:=lS (P:=P) (w:=w) (t:=t) (v:=vx) jx (by rw [Tp,si];rfl) (by rw [Tp];intro v hv;simp at hv;subst hv;exact kT) hg (off:=i) (by rw [Tp];simp;omega);obtain⟨new,fp⟩:∃new:Array Value,new=(cur.toList.take i++[vx]++cur.toList.drop (i+1)).toArray:=⟨_,rfl⟩
   have aLv:(Instr.storeAt t (.pointer (some ⟨b,i,none⟩)) vx).run P w= .ok () (w.setRow b new):=by
    grind
   have hlen:new.size=cur.size:=by grind
   refine⟨w.setRow b new,x!,?_⟩;refine hB.write hd (k:=k) (fz:=[]) (ab:=.views e (some k2) m' (i+1) len) x! hb lR hg ⟨rfl,rfl,rfl⟩ (λq hq=>by grind) ?_ (by rfl);intro A2 h1 h2 _;refine⟨new.toList.take m',⟨?_,.inr ⟨b,cap,new,bJ,Nat.zero_le _,setRow_heap w b cur _ e _ hg,hle,Ac,?_,x!⟩⟩,λb' fb Zl=>?_,λj' hj i' fN=>?_⟩
   . grind
   . omega
   . grind
   . simp only [A!] at hj;subst hj;by_cases aFS:i'=i
     . subst aFS;refine⟨vx,?_,As rfl hx⟩;grind
     . obtain⟨v,e1,e2⟩:=aTX k2 rfl i' w!;refine⟨v,?_,As rfl e2⟩;grind
def Qv(hT:bA T P)(hB:aw C A β st a w){k e:Nat}{row:M Ty}{l:M (Row row)}{fr:Bool}{x y:Int}{kx ky km:IntKind}(hx:aa w A β vx (.own k))(hk:st.h k=some (.row e row l fr))
  (hs:bh T t row.length=true) (h0:0<=x) (h1:x<=y) (h2:y<=m) (h3:m<=(l.length:Int)):
  ∃v,(Instr.sliceAt t vx (some (.int kx x)) (some (.int ky y)) (some (.int km m))).run P w= .ok v w/\aa w A β v (.view k row.length x.toNat (y.toNat-x.toNat)):=by
 obtain⟨e',ii,hu,jx,dQ,mQ⟩:=fk hT hs;obtain⟨rfl,_⟩:=hx
 have hb:∀len cap:Nat,len<=cap->m<=(len:Int)->(Instr.sliceBounds true len cap (some (.int kx x)) (some (.int ky y)) (some (.int km m))).run P w= .ok (x.toNat,y.toNat,m.toNat) w:=by
  intro len cap hlc Tg
  simp [Instr.sliceBounds,run_sliceBound (P:=P) (w:=w) (k:=km) (n:=m) (y:=cap) w! w!,run_sliceBound (P:=P) (w:=w) (k:=ky) (n:=y) (y:=m.toNat) w! w!,
   run_sliceBound (P:=P) (w:=w) (k:=kx) (n:=x) (y:=y.toNat) w! w!]
 have gf:∀(ad:Option Addr) (len cap:Nat),len<=cap->m<=(len:Int)->(Instr.sliceAt t (.slice ad len cap) (some (.int kx x)) (some (.int ky y)) (some (.int km m))).run P w=
   .ok (.slice (if m.toNat=x.toNat then ad else ad.map (·.add (x.toNat*ii.size))) (y.toNat-x.toNat) (m.toNat-x.toNat)) w:=by
  simp_all[Instr.sliceAt,Instr.slice,run_underlying,sizeOf,typeInfo]
 rcases gI hB hk with⟨g1,g2⟩|⟨b,cap,cur,g1,_,g3,g4,_⟩
 . grind[aa,maxLen]
 . refine⟨_,by rw [g1];exact gf _ l.length cap g3 h3,?_⟩;simp only [aa];by_cases hz:m.toNat=x.toNat
   . refine .inl ⟨w!,_,_,by rw [show y.toNat-x.toNat=0 by omega],w!⟩
   . grind[Addr.add_mid]
def tg {k:Nat}:∀(bs:M AB) (i:Nat) (ab:AB),iR k bs=true->bs[i]? =some ab->(∃e row l,ab= .row e row l false)\/∃e j n m sz,ab= .views e (some j) n m sz/\j<k
 |.row e row l false ::bs,0,ab,_,h=>by grind
 |.views e (some j) n m sz::bs,0,ab,ho,h=>by
   simp only [iR,B!] at ho;simp at h;exact .inr ⟨e,j,n,m,sz,h.symm,N! ho.1⟩
 |.row e row l false ::bs,i+1,ab,ho,h=>tg bs i ab (by grind[iR]) x!
 |.views e (some j) n m sz::bs,i+1,ab,ho,h=>tg bs i ab (by simp_all[iR,Bool.and_eq_true]) x!
 |.row e row l true ::bs,_,_,h,_=>by grind[iR]
 |.views e none n m sz::bs,_,_,h,_=>by grind[iR]
 |.cells _::bs,_,_,h,_|.arr _ _::bs,_,_,h,_|.iu _ _ _ _ _::bs,_,_,h,_=>by grind[iR]
 |[],_,_,_,h=>by grind
theorem aw.azY(hB:aw C A β st a w)(hd:∀t,dst=some t->t<st.n){base:Nat}{bs:M AB}{cond:M Prop}
  (Di:∀j∈fz,∃e row l fr,st.h j=some (.row e row l fr)) (fp:ju st.h (gH base (bs.map (jA base)))=true) (AW:lP bs.length res=true) (hor:iR bs.length bs=true)
  (hp:lu w (ct A β fz) w' v res bs A1 pU):
  Rel C (st.put dst {cond:=cond,res:=eG base res,gz:=cM st.h fz,new:=gH base (bs.map (jA base))}) (a.put dst v) w':=by
 let az:Nat->Value:=λk=>if base<=k/\k<base+bs.length then pU (k-base) else β k
 have Rb:∀i,i<bs.length->az (base+i)=pU i:=by
  grind
 have Lz:∀k,al (gH base (bs.map (jA base))) k=(if base<=k then(bs[k-base]?).map (jA base) else none):=λk=>by
  have:=vL base (bs.map (jA base)) 0 k;grind
 have bJ:∀k,al (gH base (bs.map (jA base))) k=none->az k=β k:=by
  grind
 have sm:∀k ab,al (gH base (bs.map (jA base))) k=some ab->base<=k/\(∃Tt,bs[k-base]? =some Tt/\ab=jA base Tt)/\k-base<bs.length:=by
  grind
 have DJ:∀k ab,al (gH base (bs.map (jA base))) k=some ab->az k=pU (k-base):=by
  grind
 have hK:cg w w' A A1:=λb hb=>⟨hp.mono b (.inl hb),hp.same b (hB.bound b hb)⟩;refine⟨A1,az,?_⟩;refine hB.step (out:={cond:=cond,res:=eG base res,gz:=cM st.h fz,new:=gH base (bs.map (jA base))}) hd (λk b h=>lJ _ k b fp h) ?_ bJ hK hp.os hp.tape hp.output hp.size (λb hb _=>hp.same b hb) hp.bound ?_ ?_ ?_ ?_ ?_ ?_
 . intro k b h;obtain⟨_,e,row,l,fr,h,_⟩:=kG fz k b h;grind
 . intro b hb;rcases Nat.lt_or_ge b w.heap.size with jU|Qq
   . rcases hp.iP b jU hb with h|⟨j,hj,Zk⟩
     . grind
     . have hr:=Di j hj;exact .inr (.inr ⟨j,⟨x!,.inl (rY fz j hj hr)⟩,Zk⟩)
   omega
 . intro k ab h _;obtain⟨hk,e,row,l,fr,hr,rfl⟩:=kG fz k ab h;rw [nT]
   have hkn:al (gH base (bs.map (jA base))) k=none:=by
    cases hh:al (gH base (bs.map (jA base))) k with
    |none=>rfl
    |some y=>have:=(lJ _ k y fp hh).1;rw [hr] at this;cases this
   obtain⟨xs,h1,h2,h3⟩:=hB.blocks k _ hr;simp only [BR,bJ k hkn];refine⟨xs,c9 h1 (λb hb=>hp.same b (nk hB (by simp [hr]) hb)),br (λc x hx=>bz hK row c x hx) l xs h2,λb hb=>?_⟩;simp only [Q?];exact hp.mono b (.inr ⟨k,hk,hb⟩)
 . intro k ab h;obtain⟨h1,⟨Tt,h2,rfl⟩,h3⟩:=sm k ab h;have fi:=(hp.rows _ _ h2).1;rcases tg bs _ Tt hor h2 with⟨e,row,l,rfl⟩|⟨e,j,n,m,sz,rfl,hj⟩
   . obtain⟨xs,g1,g2,g3⟩:=fi;simp only [jA,BR,DJ k _ h];exact⟨xs,g1,g2,g3⟩
   . obtain⟨xs,g1,g2,g3⟩:=fi;simp only [jA,BR,DJ k _ h];refine⟨xs,g1,g2,λj' gn i hi=>?_⟩;simp only [A!] at gn;subst gn;obtain⟨u,e1,e2⟩:=g3 j rfl i hi;refine⟨u,e1,?_⟩;simp only [aa] at e2 |-;rw [Rb j hj];exact e2
 . intro k b ab h hb;obtain⟨h1,⟨Tt,h2,rfl⟩,h3⟩:=sm k ab h;rw [DJ k _ h] at hb;exact .inl ((hp.rows _ _ h2).2 b hb)
 . intro k k' b h h' hb fb;obtain⟨x,hx⟩:=R!.1 h;obtain⟨y,hy⟩:=R!.1 h';obtain⟨h1,h2,h3⟩:=sm k x hx;obtain⟨g1,g2,g3⟩:=sm k' y hy;rw [DJ k _ hx] at hb;rw [DJ k' _ hy] at fb;have:=hp.apart _ _ b h3 g3 hb fb;omega
 . exact yP (az:=az) base bs.length Rb res v AW hp.res
theorem Wb(hE:dq P C E)(hB:aw C A β st a w)(h:aa0 E st o=some out)(qY:fw st o=true)(fp:ju st.h out.new=true)(hc:∀p∈out.cond,p)
  (hK:∀a' w',Rel C (st.put o.dst out) a' w'->K a' w'):o.wp P a w K Q:=by
 unfold aa0 at h;split at h
 . grind[Option.some.injEq,Wa]
 rename_i rv;clear rv
 have hd:∀t,o.dst=some t->t<st.n:=by
  intro t ht;simp_all[fw,N!]
 obtain⟨dst,op,type,pos,after,guard⟩:=o;simp only at hd hK;unfold DK at h;simp only at h;split at h
 . rename_i t p;split at h
   . rename_i k sz i j te hp ht;split at h
     . rename_i e k2 n m s2 hk;cases hq:(Nat.beq sz 1&&Nat.beq j 0&&gG te.desc) with
       |false=>grind
       |true=>
        rw [hq] at h;simp at h;subst h;simp only [B!] at hq;obtain⟨⟨q1,q2⟩,q3⟩:=hq;have q1:=C! q1;have q2:=C! q2;subst q1;subst q2;have Iv:=aG hB p;rw [hp] at Iv;obtain⟨v,g1,g2⟩:=Ts hE.fc hB Iv ht q3 hk (eT hc);exact bB (v:=v) (by simp [execOp,g1]) (hK _ _ (Rel.jP (hB.quiet hd ⟨rfl,rfl,rfl⟩ g2)))
     grind
   grind
 . rename_i t p v;split at h
   . rename_i k sz i j k3 s3 off len hp hv;split at h
     . rename_i e k2 n m s2 hk;cases hq:(Nat.beq sz 1&&Nat.beq j 0&&(Nat.beq k3 k2&&Nat.beq s3 1)&&iW E.T t 1) with
       |false=>grind
       |true=>
        rw [hq] at h;simp at h;subst h;simp only [B!] at hq;obtain⟨⟨⟨q1,q2⟩,q3,q4⟩,q5⟩:=hq;have q1:=C! q1;have q2:=C! q2;have q3:=C! q3;have q4:=C! q4;subst q1;subst q2;subst q3;subst q4;have Iv:=aG hB p;rw [hp] at Iv;have hvr:=aG hB v;rw [hv] at hvr;obtain⟨c1,c2,c3,c4⟩:=eT hc;obtain⟨w',g1,g2⟩:=Qu hE.fc hB hd Iv hvr hk q5 c1 c2 c3 c4;exact nU (w':=w') (by simp [execOp,g1]) (hK _ _ g2)
     grind
   grind
 . rename_i t x l hi mx;split at h
   . rename_i k kx x0 ky y0 km m0 hx hl hh hm;split at h
     . rename_i e row ll fr hk;cases hs:bh E.T t row.length with
       |false=>rw [hs] at h;cases h
       |true=>
        rw [hs] at h;simp at h;subst h;obtain⟨c1,c2,c3,c4⟩:=eT hc;have mj:=aG hB x;rw [hx] at mj;have hlr:=aG hB l;rw [hl] at hlr;have hhr:=aG hB hi;rw [hh] at hhr;have hmr:=aG hB mx;rw [hm] at hmr;obtain⟨v,g1,g2⟩:=Qv (kx:=kx) (ky:=ky) (km:=km) hE.fc hB mj hk hs c1 c2 c3 c4;exact bB (v:=v) (by simp [execOp,hlr.1,hhr.1,hmr.1,g1]) (hK _ _ (Rel.jP (hB.quiet hd ⟨rfl,rfl,rfl⟩ g2)))
     . cases h
   . cases h
 . rename_i t x i;split at h
   . rename_i k ki i0 hx hi;split at h
     . rename_i e j n m sz hk;cases hs:bh E.T t 1 with
       |false=>rw [hs] at h;cases h
       |true=>
        rw [hs] at h;simp at h;subst h;obtain⟨c1,c2⟩:=eT hc;obtain⟨e',ii,hu,jx,dQ,mQ⟩:=fk hE.fc hs;have mj:=aG hB x;rw [hx] at mj;have Wc:=aG hB i;rw [hi] at Wc;rcases ru hB hk with⟨_,hn⟩|⟨b,cap,cur,hv,_⟩
        . omega
        . refine bB (v:=.pointer (some ⟨b,0+i0.toNat*1,none⟩)) (w':=w) ?_ (hK _ _ (Rel.jP (hB.quiet hd ⟨rfl,rfl,rfl⟩ ?_)))
          . have:=iX (P:=P) (w:=w) hu jx b 0 n cap ki i0 c1 c2;simp only [execOp,mj.1,hv,Wc.1,Sem.run_bind,this,dQ,Result.andThen_ok,Sem.run_pure]
          . simp only [aa];exact⟨b,_,cap,hv,z!⟩
     . cases h
   . cases h
 . rename_i c;obtain⟨callee,args,argTypes⟩:=c;simp only at h;split at h
   . rename_i b;split at h
     . rename_i x t bm Is;split at h
       . rename_i k hx;split at h
         . rename_i e j n m sz hk;cases hq:cU E.T t gG with
           |false=>rw [hq] at h;cases h
           |true=>
            rw [hq] at h;simp at h;subst h;have ea:args= #[x]:=by apply Array.ext';simpa using bm
            have et:argTypes= #[t]:=by apply Array.ext';simpa using Is
            subst ea;subst et;obtain⟨dd,hu,Er⟩:=pq hE.fc hq;obtain⟨e',rfl⟩:∃e',dd= .slice e':=by cases dd<;>simp_all [gG]
            have mj:=aG hB x;rw [hx] at mj
            have DL:∃ad cap,a.eval x= .slice ad n cap:=by
             rcases ru hB hk with⟨h1,h2⟩|⟨b,cap,cur,hv,_⟩
             . exact⟨none,0,by rw [mj.1,h1,h2]⟩
             . exact⟨_,cap,by rw [mj.1,hv]⟩
            obtain⟨ad,cap,DL⟩:=DL;refine bB (v:=.int .i64 (n:Int)) (w':=w) ?_ (hK _ _ (Rel.jP (hB.quiet hd ⟨rfl,rfl,rfl⟩ (xK n (Tr hB hk)))));simp [execOp,resolve,invoke,builtin,DL,Builtin.len_,run_underlying hu,goInt]
         . cases h
       . cases h
     . cases h
   . rename_i f;have hf:=aG hB f
     have key:∀(rq:FuncId) (first aW:M AV) (base:Nat),ev st f= .fn (.func rq) first aW->nY E st.h base rq (first++(args.toList.map (ev st))++aW)=some out->
       Oper.wp P {dst,op:=.call {callee:=.value f,args,argTypes},type,pos,after,guard} a w K Q:=by
      intro rq first aW base Gl np
      rw [Gl] at hf;simp only [aa] at hf;obtain⟨a1,a2,Dh,r1,r2⟩:=hf;unfold nY at np;split at np
      . rename_i s hs;split at np
        . rename_i pre res bs hsv;cases hq:(Nat.ble bs.length 100&&lP bs.length res&&iR bs.length bs) with
          |false=>simp [hq] at np
          |true=>
           simp only [hq,L!,A!] at np;subst np;simp only [B!] at hq;obtain⟨hv,Tq⟩:=hE.sig rq s hs;have bm:=fv _ _ _ _ (fv _ _ _ _ r1 (nm hB args.toList)) r2;obtain⟨p1,p2⟩:=Io (A':=ct A β (nd st.h (first++(args.toList.map (ev st))++aW)).2) hB (λb h=>.inl h) _ _ bm (λk hk b hb=>.inr ⟨k,hk,hb⟩)
           have V4:∀b,ct A β (nd st.h (first++(args.toList.map (ev st))++aW)).2 b->b<w.heap.size:=by
            intro b h;rcases h with h|⟨j,hj,hb⟩
            . exact hB.bound b h
            . obtain⟨e',r',l',f',hr⟩:=p2 j hj;exact nk hB (by simp [hr]) hb
           have wU:=hv w _ β _ _ pre res bs V4 (λi d hi=>(hB.laid i d (by rw [hE.g];exact hi)).mono (λb h=>⟨.inl h,rfl⟩)) p1 hsv (eT hc)
           have gf:(execOp a.eval {dst,op:=.call {callee:=.value f,args,argTypes},type,pos,after,guard}).run P w= .ok (.enter rq (a1.toList++args.toList.map a.eval++a2.toList).toArray) w:=by
            have e:(a1++args.map a.eval)++a2=(a1.toList++args.toList.map a.eval++a2.toList).toArray:=by
             apply Array.ext';simp
            have:=Tq (a1++args.map a.eval++a2) w;rw [e] at this;simp only [execOp,resolve,Dh,Deferred.ofValue,Sem.run_bind,Sem.run_pure,Result.andThen_ok,invoke,e,this]
           unfold Oper.wp;rw [gf];refine wU.mono λe w' ⟨v,he,A1,pU,tZ⟩=>?_;subst he;exact hK _ _ (hB.azY hd p2 fp hq.1.2 hq.2 tZ)
        . cases np
      . cases np
     split at h
     . rename_i rq first aW d Gl
       exact key rq first aW _ Gl h
     . rename_i rq first aW Gl
       exact key rq first aW _ Gl h
     . cases h
   . cases h
 grind
def MJ(E:Env)(st:St)(o:Oper):Option Out:=
 let T:=E.T
 let h:=st.h
 let ρ:=ev st
 match o.op with
 |.alloc t=>match T.find t,o.dst with
   |some te,some d=>match te.desc with
    |.array n e=>match rowOf T rR e with
      |some [u]=>match yx [u] n (ofConst te.zero).cells with
       |some l=>some {cond:=[],res:=.ref (st.kb+d) 0,new:=[(st.kb+d,.arr [u] l)]}
       |none=>none
      |_=>none
    |_=>none
   |_,_=>none
 |.load t p=>match ρ p,T.find t with
   |.ref k off,some te=>match h k with
     |some (.arr [u] l)=>match pick te [FO u (Row.hd (l.getD off (Row.zero [u])))] 0 with
      |some a=>some {cond:=[off<l.length],res:=a}
      |none=>none
     |_=>none
   |_,_=>none
 |.store t p v=>match ρ p with
   |.ref k off=>match h k with
     |some (.arr [u] l)=>match VN u (ρ v) with
      |some x=>bif iW T t 1 then some {cond:=[off<l.length],res:=.undef,gz:=[(k,.arr [u] (l.set off (Row.mk x ())))]} else none
      |none=>none
     |_=>none
   |_=>none
 |_=>none
def aa1(E:Env)(st:St)(o:Oper):Option Out:=match aa0 E st o with
 |some out=>some out
 |none=>MJ E st o
def aw.apx(hB:aw C A β st a w)(hd:∀t,dst=some t->t<st.n){row:M Ty}{l:M (Row row)}{cond:M Prop}
  (gJ:st.h d=none/\rl d=false) (hrel:dJ (bx w A row) arr.toList l):
  aw C A (bl β d (.pointer (some ⟨w.heap.size,0,none⟩))) (st.put dst {cond:=cond,res:=.ref d 0,new:=[(d,.arr row l)]}) (a.put dst (.pointer (some ⟨w.heap.size,0,none⟩))) (w.alloc (.cells arr e)):=by
 have hK:cg w (w.alloc (.cells arr e)) A A:=λb hb=>⟨hb,jz _ b (hB.bound b hb)⟩
 have bJ:∀k,al [(d,AB.arr row l)] k=none->bl β d (.pointer (some ⟨w.heap.size,0,none⟩)) k=β k:=by
  intro k h;have :k≠d:=by rintro rfl;simp [al] at h
  grind[bl]
 refine hB.step (out:={cond:=cond,res:=.ref d 0,new:=[(d,.arr row l)]}) hd ?_ (by simp [al]) bJ hK rfl rfl rfl z! (λb hb _=>jz _ b hb) (λb hb=>by have:=hB.bound b hb;simp;omega) (λb hb=>.inl hb) (by simp [al]) ?_ ?_ ?_ ?_
 . grind[gg]
 . intro k ab h;obtain⟨rfl,rfl⟩:=gg h;exact⟨w.heap.size,arr,e,by simp [bl],heap_alloc_new w _,λh=>absurd (hB.bound _ h) w!,br (λc x hx=>bz hK row c x hx) l _ hrel⟩
 . intro k b ab h hb;obtain⟨rfl,_⟩:=gg h;simp_all[bl,Q?,ai,A!]
 . grind[Option.isSome_iff_exists,gg]
 . exact⟨w.heap.size,by simp [bl],rfl⟩
def Rc {u:Ty}{l:M (Row [u])}(JU:off<l.length)(h:dJ (bx w A [u]) cs l):
  ∃v,cs[off]? =some v/\Rd w A u v (Row.hd (l.getD off (Row.zero [u])))/\∀v' x,Rd w A u v' x->dJ (bx w A [u]) (cs.take off++[v']++cs.drop (off+1)) (l.set off (Row.mk x ())):=by
 obtain⟨c1,c,c2,e1,e2,e3,e4,e5⟩:=sd l cs off JU h;obtain⟨v,vs,rfl,g1,rfl⟩:=e3;have hl:c1.length=off:=by simpa using e2
 subst e1;refine⟨v,?_,x!,λv' x hx=>?_⟩
 . rw [List.getElem?_append_right w!,hl,Nat.sub_self];rfl
 . have t1:(c1++([v]++c2)).take off=c1:=by rw [<-hl,List.take_left]
   have t2:(c1++([v]++c2)).drop (off+1)=c2:=by
    rw [<-hl,List.drop_length_add_append];rfl
   rw [t1,t2,h?,M! JU,W!];refine j8 _ _ _ _ e4 ⟨[v'],c2,rfl,?_,e5⟩;exact⟨v',[],rfl,by exact hx,rfl⟩
theorem Wd(hE:dq P C E)(hB:aw C A β st a w)(h:aa1 E st o=some out)(qY:fw st o=true)(fp:ju st.h out.new=true)(hc:∀p∈out.cond,p)
  (hK:∀a' w',Rel C (st.put o.dst out) a' w'->K a' w'):o.wp P a w K Q:=by
 unfold aa1 at h;split at h
 . grind[Option.some.injEq,Wb]
 rename_i rv;clear rv
 have hd:∀t,o.dst=some t->t<st.n:=by
  intro t ht;simp_all[fw,N!]
 obtain⟨dst,op,type,pos,after,guard⟩:=o;simp only at hd hK;unfold MJ at h;simp only at h;split at h
 . rename_i t;split at h
   . rename_i te d ht;split at h
     . rename_i n e Ij;split at h
       . rename_i u mP;split at h
         . rename_i l hl;simp only [A!] at h;subst h;obtain⟨hu,i,hi,hs,hb,hz⟩:=hE.fc.ok t te ht;obtain⟨g1,g2⟩:=AM [u] n _ _ l (lq (w:=w) (A:=A) (β:=β) te.zero) hl;refine bB (v:=.pointer (some ⟨w.heap.size,0,none⟩)) (w':=w.alloc (.cells te.zero.cells t)) ?_ (hK _ _ (Rel.jP (hB.apx hd (MH fp) g1)));simp_all[execOp,Instr.alloc,zeroValue,typeInfo,hi,newVar,newRow]
         grind
       grind
     grind
   grind
 . rename_i t p;split at h
   . rename_i k off te hp ht;split at h
     . rename_i u l hk;split at h
       . rename_i r Zq;simp only [A!] at h;subst h;have JU:off<l.length:=eT hc;have Iv:=aG hB p;rw [hp] at Iv;simp only [aa] at Iv;obtain⟨b,bJ,hpe⟩:=Iv;obtain⟨b',arr,e,h1,h2,h3,h4⟩:=hB.blocks k _ hk;rw [bJ] at h1;simp only [Value.pointer.injEq,A!,Addr.mk.injEq,z?] at h1;subst h1;obtain⟨v,c1,c2,_⟩:=Rc JU h4
         have hr:w.rangeAt b off [v]:=by
          intro j u' hj;grind[List.getElem?_cons_zero,Option.some.injEq,World.cell?]
         have Tu:ae w A β [v] [FO u (Row.hd (l.getD off (Row.zero [u])))]:=by
          grind[ae,VQ]
         obtain⟨v',k1,k2⟩:=kF (β:=β) hE.fc ht Tu Zq hr;refine bB (v:=v') (w':=w) ?_ (hK _ _ (Rel.jP (hB.quiet hd ⟨rfl,rfl,rfl⟩ k2)));simp_all[Nat.add_zero,execOp]
       grind
     grind
   grind
 . rename_i t p x;split at h
   . rename_i k off hp;split at h
     . rename_i u l hk;split at h
       . rename_i d hdx;cases K2:iW E.T t 1 with
         |false=>grind
         |true=>
         rw [K2] at h;simp only [L!,A!] at h;subst h;have JU:off<l.length:=eT hc;obtain⟨ii,jx,si⟩:=pt hE.fc K2;have Iv:=aG hB p;rw [hp] at Iv;simp only [aa] at Iv;obtain⟨b,bJ,hpe⟩:=Iv;have mj:=MA u _ _ d (aG hB x) hdx;obtain⟨b',arr,e,h1,h2,h3,h4⟩:=hB.blocks k _ hk;rw [bJ] at h1;simp only [Value.pointer.injEq,A!,Addr.mk.injEq,z?] at h1;subst h1;have hb:ai (β k)=some b:=by rw [bJ];rfl
         have kT:(a.eval x).oneCell'=true:=AG [u] [a.eval x] (Row.mk d ()) (by simp only [bx];exact⟨_,[],rfl,by rw [wS];exact mj,rfl⟩) _ z!;have hcx:=cells_one kT;have hlen:=gp l _ h4;have dQ:arr.size=l.length:=by grind
         have gf:=lS (w:=w) (P:=P) jx (v:=a.eval x) x! x! h2 (off:=off) x!;rw [hcx] at gf;obtain⟨v,c1,c2,c3⟩:=Rc JU h4;refine nU (w':=w.setRow b (arr.toList.take off++[a.eval x]++arr.toList.drop (off+1)).toArray) ?_ (hK _ _ ?_)
         . grind[Instr.storeAt,execOp,Sem.run_bind,Result.andThen_ok,Sem.run_pure]
         . refine hB.write hd (k:=k) (fz:=[]) (ab:=.arr [u] (l.set off (Row.mk d ()))) x! hb h3 h2 ⟨rfl,rfl,rfl⟩ z! ?_ (by rfl);intro A' hA1 Zl hA3;have Ad:cg w (w.setRow b (arr.toList.take off++[a.eval x]++arr.toList.drop (off+1)).toArray) A A':=λb' h=>⟨hA1 b' h,setRow_other w b b' _ (λh'=>h3 (h'▸h))⟩;refine⟨b,_,e,bJ,setRow_heap w b arr _ e _ h2,λh=>?_,?_⟩
           . grind
           grind[br,bz]
       grind
     grind
   grind
 grind
mutual
def au:AV->M Nat
 |.own k|.pre k _|.view k _ _ _|.ref k _|.elem k _ _ _=>[k]
 |.agg cs=>aA cs
 |.bf vs=>aA vs
 |.fn _ first aW=>aA first++aA aW
 |.iz _ cs=>aA cs
 |_=>[]
def aA:M AV->M Nat
 |[]=>[]
 |a::as_=>au a++aA as_
end
def iB:AB->M Nat
 |.cells cs=>aA cs
 |.views _ (some j) _ _ _|.iu _ (some j) _ _ _|.fo _ (some j) _|.eF _ (some j) _ _=>[j]
 |_=>[]
def AX:M (Nat×AB)->M Nat
 |[]=>[]
 |(_,b)::r=>iB b++AX r
mutual
def eU(f:Nat->Nat):AV->AV
 |.own k=>.own (f k)
 |.pre k n=>.pre (f k) n
 |.view k sz off n=>.view (f k) sz off n
 |.ref k off=>.ref (f k) off
 |.elem k sz i j=>.elem (f k) sz i j
 |.agg cs=>.agg (mS f cs)
 |.bf vs=>.bf (mS f vs)
 |.fn g first aW=>.fn g (mS f first) (mS f aW)
 |.iz ks cs=>.iz ks (mS f cs)
 |a=>a
def mS(f:Nat->Nat):M AV->M AV
 |[]=>[]
 |a::as_=>eU f a::mS f as_
end
def mC(f:Nat->Nat):AB->AB
 |.cells cs=>.cells (mS f cs)
 |.views e (some j) n m sz=>.views e (some (f j)) n m sz
 |.iu e (some j) row l i=>.iu e (some (f j)) row l i
 |.fo e (some j) l=>.fo e (some (f j)) l
 |.eF e (some j) xs i=>.eF e (some (f j)) xs i
 |b=>b
mutual
theorem yQ(f:Nat->Nat):∀(x:AV) (v:Value),(∀k∈au x,az (f k)=β k)->aa w A β v x->aa w A az v (eU f x)
 |.own k,v,hk,h=>by
   simp only [eU,aa] at h |-;rw [hk k (by simp [au])];exact h
 |.pre k n,v,hk,h=>by
   simp only [eU,aa] at h |-;rw [hk k (by simp [au])];exact h
 |.view k _ _ _,v,hk,h=>by
   simp only [eU,aa] at h |-;rw [hk k (by simp [au])];exact h
 |.ref k _,v,hk,h=>by
   simp only [eU,aa] at h |-;rw [hk k (by simp [au])];exact h
 |.elem k _ _ _,v,hk,h=>by
   simp only [eU,aa] at h |-;rw [hk k (by simp [au])];exact h
 |.agg cs,v,hk,h=>by
   simp only [eU,aa] at h |-;obtain⟨arr,h1,h2⟩:=h;exact⟨arr,h1,ke f cs _ (λk fj=>hk k (by simpa [au] using fj)) h2⟩
 |.bf cs,v,hk,h=>by
   simp only [eU,aa] at h |-;obtain⟨arr,h1,h2⟩:=h;exact⟨arr,h1,ke f cs _ (λk fj=>hk k (by simpa [au] using fj)) h2⟩
 |.fn g first aW,v,hk,h=>by
   simp only [eU,aa] at h |-;obtain⟨a1,a2,h1,h2,h3⟩:=h;exact⟨a1,a2,h1,ke f first _ (λk fj=>hk k (by simp [au,fj])) h2,ke f aW _ (λk fj=>hk k (by simp [au,fj])) h3⟩
 |.iz ks cs,v,hk,h=>by
   simp only [eU,aa] at h |-;obtain⟨b,es,ck,h1,h2,h3,h4,h5⟩:=h;exact⟨b,es,ck,h1,h2,h3,h4,ke f cs _ (λk fj=>hk k (by simpa [au] using fj)) h5⟩
 |.cF,v,_,h=>by simp [eU,aa]
 |.undef,v,_,h|.int _ _,v,_,h|.bool _,v,_,h|.tt,v,_,h|.ff,v,_,h|.str _,v,_,h|.nil,v,_,h|.lb,v,_,h|.pW _ _,v,_,h|.mi,v,_,h|.sl _ _,v,_,h|.full _ _,v,_,h|.cQ _ _ _,v,_,h|.qW _ _,v,_,h=>by simpa only [eU,aa] using h
theorem ke(f:Nat->Nat):∀(xs:M AV) (vs:M Value),(∀k∈aA xs,az (f k)=β k)->ae w A β vs xs->ae w A az vs (mS f xs)
 |[],vs,_,h=>by simpa only [mS,ae] using h
 |x::xs,vs,hk,h=>by
  simp only [mS,ae] at h |-;obtain⟨v,b7,rfl,h1,h2⟩:=h;exact⟨v,b7,rfl,yQ f x v (λk fj=>hk k (by simp [aA,fj])) h1,ke f xs b7 (λk fj=>hk k (by simp [aA,fj])) h2⟩
end
def Tv(f:Nat->Nat){k k':Nat}(hk:az k'=β k)(hj:∀j∈iB b,az (f j)=β j)(h:BR w A β k b):BR w A az k' (mC f b):=by
 have hJ:=hj;cases b with
 |cells cs=>
  obtain⟨b,arr,e,h1,h2,h3,h4,h5⟩:=h;exact⟨b,arr,e,hk.trans h1,h2,h3,ke f cs _ (λj gn=>hj j (by grind[iB])) h4,h5⟩
 |row e row l fr=>
  grind[mC,BR]
 |arr row l=>
  obtain⟨b,arr,e,h1,h2,h3,h4⟩:=h;exact⟨b,arr,e,hk.trans h1,h2,h3,h4⟩
 |eF e j xs i=>
  obtain⟨ys,h1,h2,h3,h4⟩:=h;cases j with
  |none=>exact⟨ys,hk▸h1,hk▸h2,h3,nofun⟩
  |some j=>
   refine⟨ys,hk▸h1,hk▸h2,h3,λj' gn=>?_⟩;cases gn;rw [hJ j (by simp [iB])];exact h4 j rfl
 |fvar row x=>
  obtain⟨b,arr,e,h1,h2,h3,h4⟩:=h;exact⟨b,arr,e,hk.trans h1,h2,h3,h4⟩
 |mp b es ck=>exact⟨hk.trans h.1,h.2⟩
 |bc e sz n cs=>
  obtain⟨xs,h1,h2,h3⟩:=h;exact⟨xs,hk▸h1,hk▸h2,h3⟩
 |fo e j l=>
  obtain⟨xs,h1,h2,h3⟩:=h;cases j with
  |none=>exact⟨xs,hk▸h1,hk▸h2,λq _=>h3 q (λ_ h=>by cases h)⟩
  |some j=>
   exact⟨xs,hk▸h1,hk▸h2,λq hq=>h3 q λj' hj=>(hq (f j) rfl).trans (by cases hj;exact hJ _ (by simp [iB]))⟩
 |iu e j row l i=>
  cases j with
  |none=>
   grind[mC,BR]
  |some j0=>
   grind[mC,BR,Option.some.injEq,iB]
 |views e j n m sz=>
  obtain⟨xs,h1,h2,h3⟩:=h;cases j with
  |none=>
   grind[mC,BR]
  |some j0=>
   simp only [mC,BR,hk];refine⟨xs,h1,h2,λj' gn i hi=>?_⟩;simp at gn;subst gn;obtain⟨v,e1,e2⟩:=h3 j0 rfl i hi
   exact⟨v,e1,yQ f (.view j0 1 (i*sz) sz) v (λk fj=>by
    grind[au,List.mem_singleton,iB]) e2⟩
def kZ:M Nat->Bool
 |[]=>true
 |k::r=>!(ay r k)&&kZ r
def dedup(acc:M Nat):M Nat->M Nat
 |[]=>acc.reverse
 |k::r=>bif ay acc k then dedup acc r else dedup (k::acc) r
def behind(h:aQ):M Nat->M Nat
 |[]=>[]
 |k::r=>(match h k with
  |some b=>iB b
  |none=>[])++behind h r
def MK:M Nat->Nat->Nat
 |[],_=>0
 |j::r,k=>bif Nat.beq k j then 0 else MK r k+1
def Zr(K:M Nat)(k:Nat):Nat:=50000+MK K k
def iY(K:M Nat)(base k:Nat):Nat:=bif Nat.blt k 60000 then K.getD (k-50000) 0 else base+(k-60000)
def dP(h:aQ):M Bool->M AV->M AV×M Nat
 |_,[]=>([],[])
 |m,a::as_=>bif m.headD false then(a::(dP h m.tail as_).1,(dP h m.tail as_).2) else((qT h a).1::(dP h m.tail as_).1,(qT h a).2++(dP h m.tail as_).2)
def contents(h:aQ):M Nat->Option (M AB)
 |[]=>some []
 |k::r=>match h k,contents h r with
  |some b,some l=>some (b::l)
  |_,_=>none
def kOk(r:bo)(k:Nat):Bool:=(Nat.ble 50000 k&&Nat.blt k 60000&&(match r.heap[k-50000]? with
 |some (some _)=>true
 |_=>false)) || (Nat.ble 60000 k&&Nat.blt k (60000+r.new.length))
def qe(g:Nat->Nat):M Nat->M (Option AB)->M (Nat×AB)
 |k::ks,some b::bs=>(k,mC g b)::qe g ks bs
 |_::ks,none::bs=>qe g ks bs
 |_,_=>[]
def wV:M Nat->M (Option AB)->M Nat
 |_::ks,some _::bs=>wV ks bs
 |k::ks,none::bs=>k::wV ks bs
 |_,_=>[]
def AY:M (Option AB)->M Nat
 |[]=>[]
 |some b::r=>iB b++AY r
 |none::r=>AY r
def yR:M AB->M Nat
 |[]=>[]
 |b::r=>iB b++yR r
def ayl(a K:M Nat):Bool:=a.all λk=>ay K k
def Tw(s:dD)(h:aQ)(base:Nat)(K:M Nat)(ps:M AV)(fz:M Nat):Option Out:=match contents h K with
 |some hs=>bif kZ K&&(ayl (aA ps++yR hs) K&&(fz.all (λk=>!ay K k)&&Nat.ble hs.length 100)) then
  match s (mS (Zr K) ps) (hs.map (mC (Zr K))) with
  |some r=>bif Nat.beq r.heap.length hs.length&&(Nat.ble r.new.length 100&&((au r.res++(AY r.heap++yR r.new)).all (kOk r))) then
    some {cond:=[r.pre]
          res:=eU (iY K base) r.res
          gz:=qe (iY K base) K r.heap++cM h fz
          del:=wV K r.heap
          new:=gH base (r.new.map (mC (iY K base)))
          raw:=K}
   else none
  |none=>none
  else none
 |none=>none
def qf(h:aQ)(ks:M Nat):M Nat:=behind h ks++behind h (behind h ks)
def nZ(E:Env)(h:aQ)(d f:Nat)(args:M AV):Option Out:=match E.qX f with
 |some (m,s)=>Tw s h (aj2 d) (dedup [] (aA (dP h m args).1++qf h (aA (dP h m args).1))) (dP h m args).1 (dP h m args).2
 |none=>none
def n0:∀ {l:M Nat} {k:Nat},ay l k=true↔k∈l
 |[],k=>by simp [ay]
 |j::l,k=>by
  simp_all[ay,Z?,P!,n0,C!,cT]
def JV:∀ {K:M Nat} {k:Nat},k∈K->MK K k<K.length/\K.getD (MK K k) 0=k
 |j::K,k,h=>by
  simp [MK];by_cases hk:k=j
  . simp_all
  . simp [aP hk,O!];have:=JV (K:=K) ((P!.1 h).resolve_left hk);simpa using this
def AZ {h:aQ}:∀ {K:M Nat} {hs:M AB},contents h K=some hs->hs.length=K.length/\∀(i:Nat) (ab:AB),hs[i]? =some ab->∃k:Nat,K[i]? =some k/\h k=some ab
 |[],hs,hh=>by
   grind[contents,Option.some.injEq]
 |k::K,hs,hh=>by
  simp [contents] at hh;split at hh
  . rename_i b l h1 h2;simp at hh;subst hh;obtain⟨g1,g2⟩:=AZ h2;refine⟨by simp [g1],λi ab hi=>?_⟩;cases i with
    |zero=>simp at hi;subst hi;exact⟨k,rfl,h1⟩
    |succ i=>simpa using g2 i ab (by simpa using hi)
  . cases hh
def JW:∀ {K:M Nat},kZ K=true->∀ {i j:Nat} {k:Nat},K[i]? =some k->K[j]? =some k->i=j
 |[],_,i,j,k,h,_=>by grind
 |x::K,hn,i,j,k,h1,h2=>by
  simp [kZ,B!,M?] at hn
  have hx:∀m:Nat,K[m]? =some x->False:=λm hm=>by
   have:=n0.2 (E? hm);rw [this] at hn;exact absurd hn.1 z!
  cases i with
  |zero=>
   cases j with
   |zero=>rfl
   |succ j=>
    simp at h1;subst h1;exact(hx j (by simpa using h2)).elim
  |succ i=>
   cases j with
   |zero=>
    simp at h2;subst h2;exact(hx i (by simpa using h1)).elim
   |succ j=>rw [JW hn.2 (i:=i) (j:=j) (by simpa using h1) (by simpa using h2)]
def vM {g:Nat->Nat}:∀ {K:M Nat} {bs:M (Option AB)} {k:Nat} {ab:AB},al (qe g K bs) k=some ab->∃(i:Nat) (b:AB),K[i]? =some k/\bs[i]? =some (some b)/\ab=mC g b
 |[],bs,k,ab,h=>by grind[qe,al]
 |x::K,[],k,ab,h=>by grind[qe,al]
 |x::K,some b::bs,k,ab,h=>by
  simp [qe,al] at h;by_cases hk:k=x
  . subst hk;simp at h;exact⟨0,b,rfl,rfl,h.symm⟩
  . simp [aP hk,cond_false] at h;obtain⟨i,b',h1,h2,h3⟩:=vM h;exact⟨i+1,b',x!,x!,h3⟩
 |x::K,none::bs,k,ab,h=>by
  simp [qe] at h;obtain⟨i,b',h1,h2,h3⟩:=vM h;exact⟨i+1,b',by simpa using h1,by simpa using h2,h3⟩
def A3 {g:Nat->Nat}:∀ {K:M Nat} {bs:M (Option AB)} {i k:Nat} {b:AB},K[i]? =some k->bs[i]? =some (some b)->(al (qe g K bs) k).isSome
 |[],bs,i,k,b,h,_=>by grind
 |x::K,[],i,k,b,_,h=>by grind
 |x::K,some c::bs,i,k,b,h1,h2=>by
  simp [qe,al];by_cases hk:k=x
  . simp_all
  . simp [aP hk,O!];cases i with
    |zero=>simp at h1;exact absurd h1.symm hk
    |succ i=>exact A3 (by simpa using h1) (by simpa using h2)
 |x::K,none::bs,i,k,b,h1,h2=>by
  simp [qe];cases i with
  |zero=>simp at h2
  |succ i=>exact A3 (by simpa using h1) (by simpa using h2)
def yS:∀ {K:M Nat} {bs:M (Option AB)} {k:Nat},k∈wV K bs↔∃i:Nat,K[i]? =some k/\bs[i]? =some none
 |[],bs,k=>by grind[wV]
 |x::K,[],k=>by simp [wV]
 |x::K,some b::bs,k=>by
  simp [wV,yS (K:=K)];constructor
  . rintro⟨i,h1,h2⟩;exact⟨i+1,by simpa using h1,by simpa using h2⟩
  . rintro⟨i,h1,h2⟩;cases i with
    |zero=>simp at h2
    |succ i=>exact⟨i,by simpa using h1,by simpa using h2⟩
 |x::K,none::bs,k=>by
  simp [wV,P!,yS (K:=K)];constructor
  . rintro(rfl|⟨i,h1,h2⟩)
    . exact⟨0,rfl,rfl⟩
    . exact⟨i+1,by simpa using h1,by simpa using h2⟩
  . rintro⟨i,h1,h2⟩;cases i with
    |zero=>simp at h1;exact .inl h1.symm
    |succ i=>exact .inr ⟨i,by simpa using h1,by simpa using h2⟩
def EB:∀ {bs:M (Option AB)} {i:Nat} {b:AB},bs[i]? =some (some b)->∀j∈iB b,j∈AY bs
 |[],i,b,h,_,_=>by grind
 |some c::bs,0,b,h,j,hj=>by
  grind[List.getElem?_cons_zero,Option.some.injEq,AY]
 |some c::bs,i+1,b,h,j,hj=>by
  simp [AY,F!];exact .inr (EB (by simpa using h) j hj)
 |none::bs,0,b,h,j,hj=>by grind
 |none::bs,i+1,b,h,j,hj=>by
  simp [AY];exact EB (i:=i) (by simpa using h) j hj
def EC:∀ {bs:M AB} {i:Nat} {b:AB},bs[i]? =some b->∀j∈iB b,j∈yR bs
 |[],i,b,h,_,_=>by grind
 |c::bs,0,b,h,j,hj=>by
  grind[List.getElem?_cons_zero,Option.some.injEq,yR]
 |c::bs,i+1,b,h,j,hj=>by
  simp [yR,F!];exact .inr (EC (by simpa using h) j hj)
def oP:∀(a b:M (Nat×AB)) (k:Nat),al (a++b) k=match al a k with
  |some x=>some x
  |none=>al b k
 |[],b,k=>rfl
 |(j,x)::a,b,k=>by
  simp [e?,al];cases Nat.beq k j with
  |true=>rfl
  |false=>exact oP a b k
def Tx {G:Nat->Option GD}{f:FuncId}{s:dD}(hv:aF P G f s)(hB:aw C A β st a w)(hG:C.G=G)(hd:∀t,dst=some t->t<st.n)
  {args:M Value} {ps:M AV} {fz K:M Nat} {base:Nat} (hps:ae w (ct A β fz) β args ps) (Di:∀j∈fz,∃e row l fr,st.h j=some (.row e row l fr))
  (h:Tw s st.h base K ps fz=some out) (fp:ju st.h out.new=true) (hc:∀p∈out.cond,p):
  Calls P f args.toArray w λe w'=>∃v,e= .returned v/\Rel C (st.put dst out) (a.put dst v) w':=by
 unfold Tw at h;split at h;case h_2=>cases h
 rename_i hs aa2;cases hq:(kZ K&&(ayl (aA ps++yR hs) K&&(fz.all (λk=>!ay K k)&&Nat.ble hs.length 100))) with
 |false=>grind
 |true=>
 rw [hq] at h;simp only [L!] at h;split at h;case h_2=>cases h
 rename_i r hr;cases hq2:(Nat.beq r.heap.length hs.length&&(Nat.ble r.new.length 100&&((au r.res++(AY r.heap++yR r.new)).all (kOk r)))) with
 |false=>grind
 |true=>
 rw [hq2] at h;simp only [L!,A!] at h;subst h;simp only [B!,Z!] at hq hq2;obtain⟨q1,q2,q3,q4⟩:=hq;obtain⟨r1,r2,r3⟩:=hq2;have q4:=N! q4;have r1:=C! r1;have r2:=N! r2;obtain⟨hl,aa2⟩:=AZ aa2;have Re:∀k∈aA ps++yR hs,k∈K:=λk hk=>n0.1 (Z!.1 q2 k hk)
 have aym:∀k∈fz,k∉K:=λk hk hK=>by
  have:=q3 k hk;rw [n0.2 hK] at this;cases this
 let βc:Nat->Value:=λk=>if 50000<=k/\k<50000+K.length then β (K.getD (k-50000) 0) else .slice none 0 0
 have JX:∀(i k:Nat),K[i]? =some k->βc (50000+i)=β k:=by
  intro i k hi;have jU:=(D?.1 hi).1;simp only [βc];rw [M! ⟨w!,w!⟩,w?,List.getD,hi];rfl
 have hto:∀k∈K,βc (Zr K k)=β k:=by
  intro k hk;obtain⟨h1,h2⟩:=JV hk;refine JX _ _ ?_;rw [D! h1];rw [List.getD,D! h1] at h2;simpa using h2
 have fH:∀(i k:Nat),K[i]? =some k->∃ab,hs[i]? =some ab/\st.h k=some ab:=by
  intro i k hi;have jU:=(D?.1 hi).1;obtain⟨k',h1,h2⟩:=aa2 i _ (D! w!);rw [hi] at h1;simp only [A!] at h1;subst h1;exact⟨_,D! w!,h2⟩
 have aFX:∀b,ct A β fz b->b<w.heap.size:=by
  intro b hb;rcases hb with hb|⟨j,hj,AJ⟩
  . exact hB.bound b hb
  . obtain⟨e,row,l,fr,hr⟩:=Di j hj;exact nk hB (by simp [hr]) AJ
 have Qs:cg w w A (ct A β fz):=λb hb=>⟨.inl hb,rfl⟩
 have wU:=hv w (ct A β fz) βc args (mS (Zr K) ps) (hs.map (mC (Zr K))) r aFX
  (λi d hi=>(hB.laid i d (by rw [hG];exact hi)).mono Qs)
  (ke (Zr K) ps args (λk hk=>hto k (Re k (T! _ hk))) hps)
  (λi ab hi=>by
    rw [B?,Option.map_eq_some_iff] at hi;obtain⟨Tt,hi,rfl⟩:=hi;obtain⟨k,hk,sE⟩:=aa2 i Tt hi
    have fi:BR w (ct A β fz) β k Tt:=by
     have:=xE (w':=w) (A':=ct A β fz) (az:=β) (new:=[]) (λ_ _=>rfl) rfl (λb hb=>⟨rfl,λhA=>?_⟩) Qs (hB.blocks k Tt sE)
     . exact this
     . rcases hA with hA|⟨j,hj,AJ⟩
       . exact hA
       . exfalso;obtain⟨e,row,l,fr,hr⟩:=Di j hj;have:=hB.apart j k b (by simp [hr]) (by simp [sE]) AJ hb;subst this;exact aym j hj (E? hk)
    exact Tv (Zr K) (JX i k hk) (λj hj=>hto j (Re j (Y! _ (EC hi j hj)))) fi)
  (λi j b hi hj h1 h2=>by
    rw [List.length_map] at hi hj;have e1:K[i]? =some K[i]:=D! w!;have e2:K[j]? =some K[j]:=D! w!;rw [JX i _ e1] at h1;rw [JX j _ e2] at h2;obtain⟨_,_,l1⟩:=fH i _ e1;obtain⟨_,_,l2⟩:=fH j _ e2;have:=hB.apart _ _ b (by simp [l1]) (by simp [l2]) h1 h2;exact JW q1 e1 (by rw [this];exact e2))
  hr (hc _ z!) (by rw [List.length_map];exact r1) (by rw [List.length_map];exact q4)
 rw [List.length_map] at wU;refine wU.mono ?_;rintro e w' ⟨v,rfl,A2,fa,hp⟩;refine⟨v,rfl,?_⟩;let n:=K.length
 have aju:r.new.length<=100:=r2;let ups:=gH base (r.new.map (mC (iY K base)))
 have Lz:∀k,al ups k=(if base<=k then(r.new.map (mC (iY K base)))[k-base]? else none):=λk=>by simpa using vL base (r.new.map (mC (iY K base))) 0 k
 let Qw:Nat->Value:=λk=>if base<=k/\k<base+r.new.length then fa (60000+(k-base)) else β k
 have ML:∀j,j<r.new.length->Qw (base+j)=fa (60000+j):=by
  intro j hj;simp only [Qw];rw [M! ⟨w!,w!⟩,w?]
 have rv:∀k,al ups k=none->Qw k=β k:=by
  intro k h;rw [Lz k] at h;simp only [Qw];rw [J!];rintro⟨h1,h2⟩;rw [M! h1,List.getElem?_eq_none_iff,List.length_map] at h;omega
 have sm:∀k ab,al ups k=some ab->∃j b,k=base+j/\r.new[j]? =some b/\ab=mC (iY K base) b/\j<r.new.length:=by
  intro k ab h;rw [Lz k] at h;split at h
  . rename_i hb;rw [B?,Option.map_eq_some_iff] at h;obtain⟨b,h1,h2⟩:=h;exact⟨k-base,b,w!,h1,h2.symm,(D?.1 h1).1⟩
  . cases h
 have Qx:∀k,(st.h k).isSome->al ups k=none:=by
  intro k hk;cases hh:al ups k with
  |none=>rfl
  |some y=>have:=(lJ _ k y fp hh).1;rw [this] at hk;cases hk
 have LA:∀(i k:Nat),K[i]? =some k->(st.h k).isSome:=λi k hi=>by obtain⟨_,_,h⟩:=fH i k hi;simp [h]
 have ajv:∀(i k:Nat),K[i]? =some k->Qw k=β k:=λi k hi=>rv k (Qx k (LA i k hi))
 have hg:∀j,kOk r j=true->Qw (iY K base j)=fa j:=by
  intro j hj;simp only [kOk,Z?,B!] at hj;rcases hj with⟨⟨h1,h2⟩,h3⟩|⟨h1,h2⟩
  . have h1:=N! h1;obtain⟨i,rfl⟩:∃i,j=50000+i:=⟨j-50000,w!⟩;rw [w?] at h3;split at h3
    . rename_i ab lQ;have jU:=(D?.1 lQ).1;obtain⟨k,hKi⟩:∃k,K[i]? =some k:=⟨_,D! w!⟩;obtain⟨_,g2⟩:=hp.kept _ _ lQ
      have e:iY K base (50000+i)=k:=by
       unfold iY;rw [h2,cond_true,Nat.add_sub_cancel_left,List.getD,hKi];rfl
      rw [e,ajv _ _ hKi,g2,JX _ _ hKi]
    . cases h3
  . have h1:=N! h1;have h2':j<60000+r.new.length:=N! h2;obtain⟨i,rfl⟩:∃i,j=60000+i:=⟨j-60000,w!⟩
    have hb:Nat.blt (60000+i) 60000=false:=by
     cases hb:Nat.blt (60000+i) 60000 with
     |false=>rfl
     |true=>have :60000+i<60000:=N! hb;omega
    have e:iY K base (60000+i)=base+i:=by
     unfold iY;rw [hb,cond_false,Nat.add_sub_cancel_left]
    rw [e,ML _ w!]
 have gJ:∀(i k:Nat),K[i]? =some k->(r.heap[i]? =some none\/∃b,r.heap[i]? =some (some b)):=by
  intro i k hi;have jU:=(D?.1 hi).1;have :i<r.heap.length:=by omega
  cases hh:r.heap[i] with
  |none=>exact .inl (by rw [D! this,hh])
  |some b=>exact .inr ⟨b,by rw [D! this,hh]⟩
 generalize vG:({cond:=[r.pre],res:=eU (iY K base) r.res,gz:=qe (iY K base) K r.heap++cM st.h fz,del:=wV K r.heap,new:=gH base (r.new.map (mC (iY K base))),raw:=K}:Out)=out;have o1:out.gz=qe (iY K base) K r.heap++cM st.h fz:=by rw [<-vG]
 have o2:out.del=wV K r.heap:=by rw [<-vG]
 have o3:out.new=ups:=by rw [<-vG]
 have o4:out.raw=K:=by rw [<-vG]
 have o5:out.res=eU (iY K base) r.res:=by rw [<-vG]
 have htK:∀(i k:Nat),K[i]? =some k->oM st out k:=by
  intro i k hi;refine⟨LA i k hi,?_⟩;rcases gJ i k hi with hh|⟨b,hh⟩
  . right;rw [o2];exact n0.2 (yS.2 ⟨i,hi,hh⟩)
  . left;rw [o1,oP];have:=A3 (g:=iY K base) hi hh;obtain⟨y,hy⟩:=R!.1 this;rw [hy];rfl
 have htF:∀j∈fz,oM st out j:=by
  intro j hj;refine⟨by obtain⟨_,_,_,_,hr⟩:=Di j hj;simp [hr],.inl ?_⟩;rw [o1,oP];cases al (qe (iY K base) K r.heap) j with
  |some y=>rfl
  |none=>exact rY fz j hj (Di j hj)
 have hHM:∀b,HM βc K.length b->∃k,oM st out k/\ai (β k)=some b:=by
  rintro b ⟨i,hi,hb⟩;have e1:K[i]? =some K[i]:=D! hi;rw [JX i _ e1] at hb;exact⟨_,htK i _ e1,hb⟩
 rw [hl] at hp;have Ql:cg w w' A A2:=λb hb=>hp.mono b (.inl hb);refine⟨A2,Qw,hB.ah hd ?_ ?_ ?_ Ql hp.os hp.tape hp.output hp.size ?_ hp.bound ?_ ?_ ?_ ?_ ?_ ?_⟩
 . rw [o3];exact λk b h=>lJ _ k b fp h
 . rw [o1];intro k b h;rw [oP] at h;split at h
   . rename_i y hy;obtain⟨i,_,h1,_⟩:=vM hy;exact LA i k h1
   . obtain⟨h1,e,row,l,fr,h2,_⟩:=kG fz k b h;simp [h2]
 . rw [o3];exact rv
 . intro b hb ht;refine hp.same b hb λhm=>?_;obtain⟨k,h1,h2⟩:=hHM b hm;exact ht k h1 h2
 . intro b hb;rcases Nat.lt_or_ge b w.heap.size with jU|Qq
   . rcases hp.iP b jU hb with(h|⟨j,hj,AJ⟩)|hm
     . exact .inl h
     . exact .inr (.inr ⟨j,htF j hj,AJ⟩)
     . exact .inr (.inr (hHM b hm))
   . exact .inr (.inl Qq)
 . intro k ab h _;rw [o1,oP] at h;split at h
   . rename_i y hy;simp only [A!] at h;subst h;obtain⟨i,b,h1,h2,rfl⟩:=vM hy
     have :xC out k (mC (iY K base) b)=mC (iY K base) b:=by
      simp only [xC,o4,n0.2 (E? h1),L!]
     rw [this];obtain⟨g1,g2⟩:=hp.kept i b h2;refine Tv (k:=50000+i) (iY K base) ((ajv i k h1).trans (g2.trans (JX i k h1)).symm) (λj hj=>hg j (r3 j ?_)) g1;simp only [F!];exact .inr (.inl (EB h2 j hj))
   . obtain⟨hk,e,row,l,fr,p9,rfl⟩:=kG fz k ab h
     have hkK:ay K k=false:=by
      cases hh:ay K k with
      |false=>rfl
      |true=>exact absurd (n0.1 hh) (aym k hk)
     simp only [xC,o4,hkK,O!];rw [nT];obtain⟨xs,h1,h2,h3⟩:=hB.blocks k _ p9;simp only [BR,rv k (Qx k (by simp [p9]))];refine⟨xs,c9 h1 (λb hb=>(hp.mono b (.inr ⟨k,hk,hb⟩)).2),br (λc x hx=>bz Ql row c x hx) l xs h2,λb hb=>?_⟩;simp only [Q?];exact(hp.mono b (.inr ⟨k,hk,hb⟩)).1
 . rw [o3];intro k ab h;obtain⟨j,b,rfl,h1,rfl,hj⟩:=sm k ab h;refine Tv (k:=60000+j) (iY K base) (ML j hj) (λi hi=>hg i (r3 i ?_)) (hp.rows j b h1).1;simp only [F!];exact .inr (.inr (EC h1 i hi))
 . rw [o3,o2];intro k b ab h hb;obtain⟨j,c,rfl,h1,rfl,hj⟩:=sm k ab h;rw [ML j hj] at hb;rcases(hp.rows j c h1).2 b hb with h|⟨i,hi,My⟩
   . exact .inl h
   . have e1:K[i]? =some K[i]:=D! hi;have ayn:=My;rw [JX i _ e1] at ayn;rcases gJ i _ e1 with hh|⟨c',hh⟩
     . exact .inr ⟨K[i],n0.2 (yS.2 ⟨i,e1,hh⟩),LA i _ e1,ayn⟩
     . exfalso;obtain⟨_,g2⟩:=hp.kept i c' hh;have:=hp.apart (50000+i) (60000+j) b (.inl ⟨i,c',rfl,w!,hh⟩) (.inr ⟨j,rfl,hj⟩) (by rw [g2];exact My) hb;omega
 . rw [o3];intro k k' b h h' hb fb;obtain⟨x,hx⟩:=R!.1 h;obtain⟨y,hy⟩:=R!.1 h';obtain⟨j,c,rfl,h1,_,hj⟩:=sm k x hx;obtain⟨j',c',rfl,h1',_,gn⟩:=sm k' y hy;rw [ML j hj] at hb;rw [ML j' gn] at fb;have:=hp.apart (60000+j) (60000+j') b (.inr ⟨j,rfl,hj⟩) (.inr ⟨j',rfl,gn⟩) hb fb;omega
 . rw [o5];refine yQ (iY K base) r.res v (λk hk=>hg k (r3 k ?_)) hp.res;simp only [F!];exact .inl hk
def wW(hB:aw C A β st a w)(hA:∀b,A b->A' b):∀(m:M Bool) (bc:M AV) (args:M Value),ae w A β args bc->(∀k∈(dP st.h m bc).2,∀b,ai (β k)=some b->A' b)->
  ae w A' β args (dP st.h m bc).1/\∀k∈(dP st.h m bc).2,∃e row l fr,st.h k=some (.row e row l fr)
 |m,[],args,h,_=>by
  grind[dP,ae]
 |m,x::xs,args,h,hk=>by
  obtain⟨v,vs,rfl,h1,h2⟩:=h;cases hm:m.headD false with
  |true=>
   simp only [dP,hm,L!] at hk |-;obtain⟨g1,g2⟩:=wW hB hA m.tail xs vs h2 hk;refine⟨?_,g2⟩;exact⟨v,vs,rfl,jf (λb hb=>⟨hA b hb,rfl⟩) x v h1,g1⟩
  |false=>
   simp only [dP,hm,O!] at hk |-;obtain⟨p1,p2⟩:=AL hB hA x v h1 (λk fj=>hk k (T! _ fj));obtain⟨g1,g2⟩:=wW hB hA m.tail xs vs h2 (λk fj=>hk k (Y! _ fj));refine⟨?_,λk fj=>?_⟩
   . simp [ae];grind
   grind
def We(E:Env)(st:St)(o:Oper):Option Out:=match o.op with
 |.call c=>match c.callee with
   |.value f=>match ev st f,o.dst with
     |.fn (.func f) first aW,some d=>nZ E st.h (st.kb+d) f (first++(c.args.toList.map (ev st))++aW)
     |.fn (.func f) first aW,none=>nZ E st.h st.kb f (first++(c.args.toList.map (ev st))++aW)
     |_,_=>none
   |_=>none
 |_=>none
def Rf(E:Env)(st:St)(o:Oper):Option Out:=match aa1 E st o with
 |some out=>some out
 |none=>We E st o
theorem Wf(hE:dq P C E)(hB:aw C A β st a w)(h:Rf E st o=some out)(qY:fw st o=true)(fp:ju st.h out.new=true)(hc:∀p∈out.cond,p)
  (hK:∀a' w',Rel C (st.put o.dst out) a' w'->K a' w'):o.wp P a w K Q:=by
 unfold Rf at h;split at h
 . grind[Option.some.injEq,Wd]
 rename_i rv
 have hd:∀t,o.dst=some t->t<st.n:=by
  intro t ht;simp_all[fw,N!]
 obtain⟨dst,op,type,pos,after,guard⟩:=o;unfold We at h;simp at h;split at h
 . rename_i c;obtain⟨callee,args,argTypes⟩:=c;split at h
   . rename_i f aLw;have hf:=aG hB f
     have key:∀(rq:FuncId) (first aW:M AV) (base:Nat),ev st f= .fn (.func rq) first aW->nZ E st.h base rq (first++(args.toList.map (ev st))++aW)=some out->
       Oper.wp P {dst,op:=.call {callee:=.value f,args,argTypes},type,pos,after,guard} a w K Q:=by
      intro rq first aW base Gl np
      rw [Gl] at hf;obtain⟨a1,a2,Dh,r1,r2⟩:=hf;unfold nZ at np;split at np
      . rename_i m s hs;obtain⟨hv,Tq⟩:=hE.qX rq m s hs;have bm:=fv _ _ _ _ (fv _ _ _ _ r1 (nm hB args.toList)) r2;obtain⟨p1,p2⟩:=wW (A':=ct A β (dP st.h m (first++(args.toList.map (ev st))++aW)).2) hB (λb h=>.inl h) m _ _ bm (λk hk b hb=>.inr ⟨k,hk,hb⟩);have wU:=Tx hv hB hE.g hd p1 p2 np fp hc
        have gf:(execOp a.eval {dst,op:=.call {callee:=.value f,args,argTypes},type,pos,after,guard}).run P w= .ok (.enter rq (a1.toList++args.toList.map a.eval++a2.toList).toArray) w:=by
         have e:(a1++args.map a.eval)++a2=(a1.toList++args.toList.map a.eval++a2.toList).toArray:=by
          simp
         have:=Tq (a1++args.map a.eval++a2) w;rw [e] at this;simp only [execOp,resolve,Dh,Deferred.ofValue,Sem.run_bind,Sem.run_pure,Result.andThen_ok,invoke,e,this]
        unfold Oper.wp;rw [gf];refine wU.mono λe w' ⟨v,he,hrel⟩=>?_;subst he;exact hK _ _ hrel
      grind
     grind
   grind
 grind
end Go.Vg
