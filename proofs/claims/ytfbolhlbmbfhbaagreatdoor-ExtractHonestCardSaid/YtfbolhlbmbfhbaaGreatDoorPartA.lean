import Derived.Deep.MidRow
import Derived.Laws.AppendOwn
import Derived.Laws.OwnMore
import Derived.KernelRfl
import Derived.Laws.Sem
import Derived.Laws.BytesString
import Derived.Laws.StructEq
import Derived.Laws.Strings
import Derived.Laws.Small
import Derived.MapKept
import Derived.Laws.MakeOwn
set_option linter.all false
abbrev B8:=List UInt8
abbrev M(a:Type):=List a
abbrev O:=List B8
abbrev U:=List Int
def v! {p:Prop}(h:p:=by with_reducible assumption):p:=h
theorem w! {p:Prop}(h:p:=by omega):p:=h
theorem x! {p:Prop}(h:p:=by grind):p:=h
def y! {p:Prop}(h:p:=by kernel_rfl):p:=h
theorem z! {p:Prop}(h:p:=by simp):p:=h
def A!:=@Option.some.injEq
def B!:=@Bool.and_eq_true
def C!:=@List.getElem?_eq_getElem
def D!:=@Nat.eq_of_beq_eq_true
def E!:=@List.getD_eq_getElem?_getD
def F!:=@List.mem_cons_of_mem
def G!:=@List.mem_cons_self
def H!:=@decide_eq_true_eq
def I!:=@List.mem_append
def J!:=@List.length_append
def K!:=@cond_true
def L!:=@Nat.le_of_ble_eq_true
def M!:=@Nat.le_refl
def N!:=@cond_false
def O!:=@List.mem_cons
def P!:=@Array.getElem?_eq_some_iff
def Q!:=@if_pos
def R!:=@if_neg
def S!:=@Nat.zero_le
def T!:=@List.mem_append_left
def U!:=@List.mem_append_right
def V!:=@List.all_eq_true
def W!:=@List.mem_of_getElem?
def X!:=@List.append_assoc
def Y!:=@Nat.lt_of_lt_of_le
def Z!:=@Option.isSome_iff_exists
def A?:=@List.getElem?_map
def B?:=@List.append_nil
def C?:=@List.length_take
def D?:=@List.eq_nil_of_length_eq_zero
def E?:=@Int.toNat_natCast
def F?:=@List.getElem?_eq_some_iff
def G?:=@List.map_cons
def H?:=@Array.getD_eq_getD_getElem?
def I?:=@Nat.mul_le_mul_right
def J?:=@List.length_singleton
def K?:=@Bool.not_eq_true'
def L?:=@decide_eq_true
def M?:=@List.length_cons
def N?:=@List.length_drop
def O?:=@List.take_append_drop
def P?:=@List.length_eq_zero_iff
def Q?:=@if_true
def R?:=@Option.some.inj
def S?:=@List.mem_map_of_mem
def T?:=@List.drop_eq_getElem_cons
def U?:=@List.mem_map
def V?:=@List.drop_eq_nil_of_le
def W?:=@List.pairwise_cons
def X?:=@List.map_append
def Y?:=@Bool.or_eq_true
def Z?:=@List.getElem?_cons_zero
def a?:=@Bool.or_eq_false_iff
def b?:=@Nat.le_trans
def c?:=@Bool.false_eq_true
def d?:=@List.take_of_length_le
def e?:=@decide_eq_false
def f?:=@List.mem_range
def g?:=@List.map_congr_left
def h?:=@List.drop_drop
def i?:=@List.set_eq_take_append_cons_drop
def j?:=@Nat.add_sub_cancel_left
def k?:=@List.cons_append
def l?:=@List.getElem_of_mem
def m?:=@Array.getElem?_toList
def n?:=@Nat.zero_add
def o?:=@List.nil_append
def p?:=@decide_eq_false_iff_not
def q?:=@Nat.add_mul
def r?:=@if_false
def s?:=@List.mem_singleton
def t?:=@List.filter_append
def u?:=@Array.getElem?_eq_getElem
def v?:=@Nat.pow_succ
def w?:=@Int.eq_ofNat_of_zero_le
def x?:=@Nat.mul_one
def y?:=@List.getElem?_cons_succ
namespace Go.Vg
open Go
inductive Ty where
 |int (k:IntKind)
 |bool
 |str
 |slice (row:List Ty)
mutual
def Ty.beq:Ty->Ty->Bool
 |.int k,.int k'=>decide (k=k')
 |.bool,.bool|.str,.str=>true
 |.slice r,.slice R=>Ty.BM r R
 |_,_=>false
def Ty.BM:M Ty->M Ty->Bool
 |[],[]=>true
 |t::ts,u::us=>Ty.beq t u&&Ty.BM ts us
 |_,_=>false
end
@[reducible] def DI:IntKind->Type
  |.u8=>UInt8
  |.i8=>Int|.i16=>Int|.i32=>Int|.i64=>Int|.u16=>Int|.u32=>Int|.u64=>Int
@[reducible] def aL1 (t:M Ty) (a b:Type):Type:=match t with
  |[]=>a
  |_::_=>a×b
mutual
@[reducible] def D:Ty->Type
  |.int k=>DI k
  |.bool=>Bool
  |.str=>B8
  |.slice row=>M (Row row)
@[reducible] def Row:M Ty->Type
  |[]=>Unit
  |t::ts=>aL1 ts (D t) (Row ts)
end
def DI.toInt:(k:IntKind)->DI k->Int
 |.u8,x=>(UInt8.toNat x:Int)
 |.i8,n=>n|.i16,n=>n|.i32,n=>n|.i64,n=>n|.u16,n=>n|.u32,n=>n|.u64,n=>n
def DI.ofInt:(k:IntKind)->Int->DI k
 |.u8,n=>UInt8.ofNat n.toNat
 |.i8,n=>n|.i16,n=>n|.i32,n=>n|.i64,n=>n|.u16,n=>n|.u32,n=>n|.u64,n=>n
variable {t:Ty}
def Row.hd: {ts:M Ty}->Row (t::ts)->D t
 |[],x=>x
 |_::_,x=>x.1
def Row.tl: {ts:M Ty}->Row (t::ts)->Row ts
 |[],_=>()
 |_::_,x=>x.2
def Row.mk: {ts:M Ty}->D t->Row ts->Row (t::ts)
 |[],x,_=>x
 |_::_,x,y=>(x,y)
def DI.zero:(k:IntKind)->DI k
 |.u8=>(0:UInt8)
 |.i8=>(0:Int)|.i16=>(0:Int)|.i32=>(0:Int)|.i64=>(0:Int)|.u16=>(0:Int)|.u32=>(0:Int)|.u64=>(0:Int)
def D.zero:(t:Ty)->D t
 |.int k=>DI.zero k
 |.bool=>false
 |.str=>[]
 |.slice _=>[]
def Row.zero:(ts:M Ty)->Row ts
 |[]=>()
 |t::ts=>Row.mk (D.zero t) (Row.zero ts)
def lo:IntKind->Int
 |.i8=> -128|.i16=> -32768|.i32=> -2147483648|.i64=> -9223372036854775808
 |.u8=>0|.u16=>0|.u32=>0|.u64=>0
def hi:IntKind->Int
 |.i8=>127|.i16=>32767|.i32=>2147483647|.i64=>9223372036854775807
 |.u8=>255|.u16=>65535|.u32=>4294967295|.u64=>18446744073709551615
def rv:IntKind->Option Int
 |.u8=>some 256|.u16=>some 65536|.u32=>some 4294967296|.u64=>some 18446744073709551616
 |.i8=>none|.i16=>none|.i32=>none|.i64=>none
inductive AV where
 |db
 |undef
 |int (k:IntKind) (n:Int)
 |bool (b:Bool)
 |tt
 |ff
 |str (s:B8)
 |nil
 |lh
 |nb
 |sl (row:List Ty) (l:List (Row row))
 |full (row:List Ty) (l:List (Row row))
 |dc (row:List Ty) (x:Row row) (j:Nat)
 |vc (row:List Ty) (l:List (Row row))
 |own (k:Nat)
 |pre (k:Nat) (n:Nat)
 |view (k sz off len:Nat)
 |ref (k off:Nat)
 |elem (k sz i j:Nat)
 |agg (cs:List AV)
 |bk (vs:List AV)
 |fn (f:Fn) (first bl:List AV)
 |tY (row:List Ty) (l:List (Row row))
 |jR (ks:List Int) (cs:List AV)
inductive Z where
 |n
 |g (e ei:Nat) (l:List (List Int))
 |s (t:B8)
abbrev CF:=Z->Prop×AV×Z
inductive AB where
 |cells (cs:List AV)
 |row (e:Nat) (row:List Ty) (l:List (Row row)) (fr:Bool)
 |views (e:Nat) (j:Option Nat) (n m sz:Nat)
 |arr (row:List Ty) (l:List (Row row))
 |iE (e:Nat) (j:Option Nat) (row:List Ty) (l:List (Row row)) (i:Nat)
 |dO (e:Nat) (k:Option Nat) (l:List CF)
 |bm (e sz n:Nat) (cs:List AV)
 |eG (e:Nat) (j:Option Nat) (xs:List Value) (i:Nat)
 |fvar (row:List Ty) (x:Row row)
 |mp (b:Nat) (es:Array MapEntry) (ck:Nat)
def Hh:(t:Ty)->D t->AV
 |.int k,x=>.int k (DI.toInt k x)
 |.bool,b=>.bool b
 |.str,s=>.str s
 |.slice row,l=>.sl row l
def ax:(ts:M Ty)->Row ts->M AV
 |[],_=>[]
 |t::ts,x=>Hh t (Row.hd x)::ax ts (Row.tl x)
mutual
theorem Ty.eq_of_beq:∀(a b:Ty),Ty.beq a b=true->a=b
 |.int k,.int k',h=>by simp[Ty.beq] at h;rw[h]
 |.bool,.bool,_|.str,.str,_=>rfl
 |.slice r,.slice R,h=>by simp only[Ty.beq] at h;rw[Ty.atG r R h]
 |.int _,.bool,h|.int _,.str,h|.int _,.slice _,h|.bool,.int _,h=>by simp[Ty.beq] at h
 |.bool,.str,h=>by simp[Ty.beq] at h
 |.bool,.slice _,h|.str,.int _,h=>by simp[Ty.beq] at h
 |.str,.bool,h=>by simp[Ty.beq] at h
 |.str,.slice _,h|.slice _,.int _,h|.slice _,.bool,h|.slice _,.str,h=>by simp[Ty.beq] at h
theorem Ty.atG:∀(a b:M Ty),Ty.BM a b=true->a=b
 |[],[],_=>rfl
 |t::ts,u::us,h=>by
  simp only[Ty.BM,B!] at h;rw[Ty.eq_of_beq t u h.1,Ty.atG ts us h.2]
 |[],_::_,h|_::_,[],h=>by simp[Ty.BM] at h
end
def fN(r R:M Ty)(l:M (Row r)):Option (M (Row R)):=
 if h:Ty.BM r R=true then some ((Ty.atG r R h)▸l) else none
def X8:(t:Ty)->AV->Option (D t)
 |.int k,.int k' n=>if k=k' then some (DI.ofInt k n) else none
 |.bool,.bool b=>some b
 |.bool,.tt=>some true
 |.bool,.ff=>some false
 |.str,.str s=>some s
 |.slice r,.sl R l|.slice r,.full R l=>fN R r l
 |.slice _,.nil=>some ([]:M _)
 |_,_=>none
def kA:(ts:M Ty)->M AV->Option (Row ts)
 |[],[]=>some ()
 |t::ts,a::as_=>match X8 t a,kA ts as_ with
  |some x,some y=>some (Row.mk x y)
  |_,_=>none
 |_,_=>none
def setRow:(ts:M Ty)->Row ts->Nat->AV->Option (Row ts)
 |[],_,_,_=>none
 |t::ts,x,0,a=>match X8 t a with
  |some d=>some (Row.mk d (Row.tl x))
  |none=>none
 |t::ts,x,j+1,a=>match setRow ts (Row.tl x) j a with
  |some y=>some (Row.mk (Row.hd x:D t) y)
  |none=>none
def sL:(ts:M Ty)->Row ts->Nat->M AV->Option (Row ts)
 |_,x,_,[]=>some x
 |ts,x,j,a::as_=>match setRow ts x j a with
  |some y=>sL ts y (j+1) as_
  |none=>none
def zC(t:M Ty):Nat->M AV->Option (M (Row t))
 |0,a=>match a with|[]=>some []|_::_=>none
 |n+1,a=>match kA t (a.take t.length),zC t n (a.drop t.length) with
  |some x,some l=>some (x::l)
  |_,_=>none
structure TE where
 desc:TypeDesc
 size:Nat
 bytes:Nat
 zero:Value
inductive b9 where
 |leaf
 |node (l:b9) (k:Nat) (v:TE) (r:b9)
def b9.find:b9->Nat->Option TE
 |.leaf,_=>none
 |.node l k v r,n=>bif Nat.beq n k then some v else bif Nat.blt n k then l.find n else r.find n
def _root_.Go.TypeDesc.o0:TypeDesc->Bool
 |.struct _|.array _ _=>true
 |_=>false
def ES {c:Type}:Option (M c)->Option (M c)->Option (M c)
 |some a,some b=>some (a++b)
 |_,_=>none
def rowOf(T:b9):Nat->TypeId->Option (M Ty)
 |0,_=>none
 |n+1,t=>match T.find t with
  |none=>none
  |some te=>match te.desc with
   |.int k=>some [.int k]
   |.bool=>some [.bool]
   |.string=>some [.str]
   |.slice e=>match rowOf T n e with|some r=>some [.slice r]|none=>none
   |.struct F=>F.toList.foldr (λf a=>ES (rowOf T n f.type) a) (some [])
   |.array k e=>match rowOf T n e with|some r=>some ((List.replicate k r).flatten)|none=>none
   |_=>none
def DN:Value->AV
 |.int k n=>if lo k<=n/\n<=hi k then .int k n else .db
 |.bool b=>if b then .tt else .ff
 |.string s=>bif Nat.ble s.data.toList.length 1000000 then .str s.data.toList else .db
 |.slice none 0 0=>.nil
 |.pointer none=>.lh
 |.nilFunc=>.nb
 |_=>.db
def ofConst:Value->AV
 |.agg cs=>.agg (cs.toList.map DN)
 |v=>DN v
inductive KS where
 |one (k:Nat)
 |dst (d:Nat)
structure GD where
 row:List Ty
 l:List (Row row)
structure St where
 t:Nat->AV
 h:Nat->Option AB
 cm:List Nat
 news:List KS
 Ly:List Nat
 n:Nat
 kb:Nat
 g:Nat->Option GD
abbrev aP:=Nat->Option AB
def ev(s:St):Operand->AV
 |.tmp i=>s.t i
 |.const v=>ofConst v
 |.global i=>match s.g i with
   |some d=>.vc d.row d.l
   |none=>.db
 |.func f=>.fn (.func f) [] []
def jA(h:aP):AV->AV×M Nat
 |.own k=>match h k with
   |some (.row _ row l _)=>(.sl row l,[k])
   |_=>(.db,[])
 |.pre k n=>match h k with
   |some (.row _ row l _)=>(.sl row (l.take n),[k])
   |_=>(.db,[])
 |.view k sz off len=>match h k with
   |some (.row _ row l _)=>bif Nat.beq sz row.length then(.sl row ((l.drop off).take len),[k]) else(.db,[])
   |_=>(.db,[])
 |a=>(a,[])
def qj(h:aP):M AV->M AV×M Nat
 |[]=>([],[])
 |a::as_=>((jA h a).1::(qj h as_).1,(jA h a).2++(qj h as_).2)
def oG(h:aP):AV->AV×M Nat
 |.agg cs=>(.agg (qj h cs).1,(qj h cs).2)
 |a=>jA h a
def ry(h:aP):M AV->M AV×M Nat
 |[]=>([],[])
 |a::as_=>((oG h a).1::(ry h as_).1,(oG h a).2++(ry h as_).2)
def AV.cells:AV->M AV
 |.agg cs=>cs
 |a=>[a]
def AV.one:AV->Bool
 |.db|.undef|.agg _|.bk _=>false
 |_=>true
structure Out where
 cond:List Prop
 res:AV
 hX:List (Nat×AB):=[]
 del:List Nat:=[]
 new:List (Nat×AB):=[]
 raw:List Nat:=[]
def cG(h:aP):M Nat->M (Nat×AB)
 |[]=>[]
 |k::ks=>match h k with
  |some (.row e row l _)=>(k,.row e row l true)::cG h ks
  |_=>cG h ks
mutual
def eT(d:Nat):AV->AV
 |.own k=>bif Nat.beq k d then .db else .own k
 |.pre k n=>bif Nat.beq k d then .db else .pre k n
 |.view k sz off n=>bif Nat.beq k d then .db else .view k sz off n
 |.ref k off=>bif Nat.beq k d then .db else .ref k off
 |.elem k sz i j=>bif Nat.beq k d then .db else .elem k sz i j
 |.agg cs=>.agg (gv d cs)
 |.bk vs=>.bk (gv d vs)
 |.fn f first bl=>.fn f (gv d first) (gv d bl)
 |.jR ks cs=>.jR ks (gv d cs)
 |a=>a
def gv(d:Nat):M AV->M AV
 |[]=>[]
 |a::as_=>eT d a::gv d as_
end
def uh(d:Nat):Option Nat->Option Nat
 |some k=>bif Nat.beq k d then none else some k
 |none=>none
def zD(b:Bool)(e k:Nat)(l:M CF):AB:=bif b then .views e none l.length 0 0 else .dO e (some k) l
def mM(d:Nat):AB->AB
 |.cells cs=>.cells (gv d cs)
 |.dO e (some k) l=>zD (Nat.beq k d) e k l
 |.eG e j xs i=>.eG e (uh d j) xs i
 |.views e j n m sz=>.views e (uh d j) n m sz
 |.iE e j row l i=>.iE e (uh d j) row l i
 |b=>b
def Nj(c:M AV)(o:Nat)(v:M AV):M AV:=c.take o++v++c.drop (o+v.length)
def JG(h:aP):AV->Option Int
 |.str s=>some (s.length:Int)
 |.sl _ l|.full _ l=>some (l.length:Int)
 |.nil=>some 0
 |.own k=>match h k with
   |some (.row _ _ l _)=>some (l.length:Int)
   |_=>none
 |.pre k n=>match h k with
   |some (.row _ _ _ _)=>some (n:Int)
   |_=>none
 |.view k _ _ n=>match h k with
   |some (.row _ _ _ _)=>some (n:Int)
   |_=>none
 |_=>none
def nG(T:b9)(t:TypeId):Option TE:=match T.find t with
 |some te=>match te.desc with
  |.slice e=>T.find e
  |_=>none
 |none=>none
def qk(T:b9)(t:TypeId):Option TypeId:=match T.find t with
 |some te=>match te.desc with
  |.slice e=>some e
  |_=>none
 |none=>none
def kU(T:b9)(t:TypeId)(n:Nat):Bool:=match T.find t with
 |some te=>Nat.beq te.size n
 |none=>false
def bH(T:b9)(t:TypeId)(n:Nat):Bool:=match nG T t with
 |some te=>Nat.beq te.size n&&Nat.blt 0 n
 |none=>false
def NR(T:b9)(t:TypeId):Option (Nat×Nat):=match T.find t with
 |some te=>match te.desc with
  |.array k e=>match T.find e with
    |some E=>bif Nat.blt 0 E.size then some (k,E.size) else none
    |none=>none
  |_=>none
 |none=>none
def gX(T:b9)(h:aP)(t:TypeId):AV->AV->Option Out
 |.sl row l,.int _ i=>
   bif bH T t row.length then some {cond:=[0<=i/\i<(l.length:Int)],res:=.dc row (l.getD i.toNat (Row.zero row)) 0} else none
 |.full row l,.int _ i=>
   bif bH T t row.length then some {cond:=[0<=i/\i<(l.length:Int)],res:=.dc row (l.getD i.toNat (Row.zero row)) 0} else none
 |.own k,.int _ i=>match h k with
   |some (.row _ row l _)=>bif bH T t row.length then some {cond:=[0<=i/\i<(l.length:Int)],res:=.elem k row.length i.toNat 0} else none
   |_=>none
 |.pre k n,.int _ i=>match h k with
   |some (.row _ row l _)=>bif bH T t row.length then some {cond:=[0<=i/\i<(n:Int)],res:=.elem k row.length i.toNat 0} else none
   |_=>none
 |.view k sz off n,.int _ i=>bif bH T t sz then some {cond:=[0<=i/\i<(n:Int)],res:=.elem k sz (off+i.toNat) 0} else none
 |.vc row l,.int _ i=>match NR T t with
   |some (n,sz)=>bif Nat.beq sz row.length then some {cond:=[n=l.length,0<=i/\i<(l.length:Int)],res:=.dc row (l.getD i.toNat (Row.zero row)) 0} else none
   |none=>none
 |.ref k off,.int _ i=>match NR T t with
   |some (n,sz)=>some {cond:=[0<=i/\i<(n:Int)],res:=.ref k (off+i.toNat*sz)}
   |none=>none
 |_,_=>none
def SZ(o:Nat)(n:Int)(s:Nat):Nat:=o+n.toNat*s
def at2:Operand->Option Int
 |.const (.int _ n)=>some n
 |_=>none
def ve(T:b9)(h:aP)(t:TypeId)(n:Option Int)(x y:AV):Option Out:=match n,x,y with
 |some n,.ref k off,.int K i=>match NR T t with
  |some (m,sz)=>if n=i then some {cond:=[0<=i/\i<(m:Int)],res:=.ref k (SZ off n sz)} else gX T h t (.ref k off) (.int K i)
  |none=>none
 |_,x,y=>gX T h t x y
def pick(t:TE)(c:M AV)(o:Nat):Option AV:=
 bif t.desc.o0 then(bif Nat.ble (o+t.size) c.length then some (.agg ((c.drop o).take t.size)) else none)
 else c[o]?
def ql(T:b9)(h:aP)(t:TypeId):AV->Option Out
 |.dc row x j=>match T.find t with
   |some te=>match pick te (ax row x) j with
    |some a=>some {cond:=[],res:=a}
    |none=>none
   |none=>none
 |.vc row l=>match T.find t with
   |some te=>match pick te (l.flatMap (ax row)) 0 with
    |some a=>some {cond:=[],res:=a}
    |none=>none
   |none=>none
 |.ref k off=>match T.find t,h k with
   |some te,some (.cells cs)=>match pick te cs off with
    |some a=>some {cond:=[],res:=a}
    |none=>none
   |_,_=>none
 |.elem k sz i j=>match T.find t,h k with
   |some te,some (.row _ row l _)=>
    bif Nat.beq sz row.length then match pick te (ax row (l.getD i (Row.zero row))) j with
     |some a=>some {cond:=[i<l.length],res:=a}
     |none=>none
    else none
   |_,_=>none
 |_=>none
def jt(T:b9)(h:aP)(t:TypeId):AV->AV->Option Out
 |.ref k off,v=>match h k with
   |some (.cells cs)=>
    bif v.cells.all AV.one&&kU T t v.cells.length&&Nat.ble (off+v.cells.length) cs.length then
     some {cond:=[],res:=.undef,hX:=[(k,.cells (Nj cs off v.cells))]} else none
   |_=>none
 |.elem k sz i j,v=>match h k with
   |some (.row e row l false)=>
    bif Nat.beq sz row.length&&kU T t v.cells.length&&Nat.blt 0 v.cells.length then match sL row (l.getD i (Row.zero row)) j (oG h v).1.cells with
     |some x=>bif (oG h v).2.elem k then none else some {cond:=[i<l.length],res:=.undef,hX:=(k,.row e row (l.set i x) false)::cG h (oG h v).2}
     |none=>none
    else none
   |_=>none
 |_,_=>none
def Hi(T:b9)(s:TypeId)(f:Nat):Option (TypeId×Nat):=match T.find s with
 |some te=>match te.desc with
  |.struct F=>match F[f]? with
    |some fd=>some (fd.type,fd.offset)
    |none=>none
  |_=>none
 |none=>none
def Hj(T:b9)(t:TypeId):Bool:=match T.find t with
 |some te=>Nat.blt 0 te.size
 |none=>false
def xR(T:b9)(s:TypeId)(f:Nat)(x:AV):Option Out:=match Hi T s f with
 |some (F,o)=>bif Hj T F then match x with
  |.ref k off=>some {cond:=[],res:=.ref k (off+o)}
  |.dc row x j=>some {cond:=[],res:=.dc row x (j+o)}
  |.elem k sz i j=>some {cond:=[],res:=.elem k sz i (j+o)}
  |_=>none
  else none
 |none=>none
def fit(k:IntKind)(n:Int):M Prop×AV:=match rv k with
 |some c=>([],.int k (n%c))
 |none=>([lo k<=n/\n<=hi k],.int k n)
def wX(k:IntKind)(cond:M Prop)(n:Int):Option Out:=some {cond:=cond++(fit k n).1,res:=(fit k n).2}
def ET(k:IntKind)(n:Int):M Prop:=match rv k with
 |some _=>[]
 |none=>[0<=n]
def bitsOf:IntKind->Int
 |.i8|.u8=>8|.i16|.u16=>16|.i32|.u32=>32|.i64|.u64=>64
def aT(a b:Int):Int:=((a.toNat&&&b.toNat:Nat):Int)
def cv(a b:Int):Int:=((a.toNat ||| b.toNat:Nat):Int)
def e9(a b:Int):Int:=((a.toNat^^^b.toNat:Nat):Int)
def wY:AV->Option Bool
 |.bool b=>some b
 |.tt=>some true
 |.ff=>some false
 |_=>none
def cW(T:b9)(t:TypeId)(f:TypeDesc->Bool):Bool:=match T.find t with
 |some te=>f te.desc
 |none=>false
def nH:TypeDesc->Bool
 |.slice _=>true
 |_=>false
def NS:TypeDesc->Bool
 |.bool=>true
 |_=>false
def S0(T:b9)(E:TypeId->AV->AV->Option Bool)(x y:M AV):M Field->Option Bool
 |[]=>some true
 |f::fs=>match T.find f.type with
  |some te=>match pick te x f.offset,pick te y f.offset with
   |some a,some b=>match E f.type a b,S0 T E x y fs with
    |some r,some R=>some (match fs with|[]=>r|_=>bif r then R else false)
    |_,_=>none
   |_,_=>none
  |none=>none
def Lz(T:b9):Nat->TypeId->AV->AV->Option Bool
 |0,_,_,_=>none
 |n+1,t,x,y=>match T.find t with
  |some te=>match te.desc with
   |.struct f=>match x,y with
     |.agg xs,.agg Y=>S0 T (Lz T n) xs Y f.toList
     |_,_=>none
   |.int _=>match x,y with
     |.int k a,.int k' b=>if k=k' then some (decide (a=b)) else none
     |_,_=>none
   |.string=>match x,y with
     |.str a,.str b=>some (decide (a=b))
     |_,_=>none
   |.bool=>match wY x,wY y with
     |some a,some b=>some (a==b)
     |_,_=>none
   |_=>none
  |none=>none
def U8:TypeDesc->Bool
 |.pointer _=>true
 |_=>false
def aD2:AV->Option Bool
 |.lh=>some true
 |.ref _ _=>some false
 |_=>none
def Ė(T:b9)(t:TypeId)(o:BinOp)(x y:AV):Option Out:=match aD2 x,y with
 |some b,.lh=>bif cW T t U8 then match o with
  |.eql=>some {cond:=[],res:=bif b then .tt else .ff}
  |.neq=>some {cond:=[],res:=bif b then .ff else .tt}
  |_=>none
  else none
 |_,_=>none
def U9(T:b9)(t:TypeId)(o:BinOp):AV->AV->Option Out
 |.int k n,.int k' m=>match o with
   |.shl=>wX k [0<=m/\m<=bitsOf k] (n*2^m.toNat)
   |.shr=>some {cond:=[0<=m/\m<=bitsOf k],res:=.int k (n/2^m.toNat)}
   |_=>if k=k' then match o with
    |.add=>wX k [] (n+m)
    |.sub=>wX k [] (n-m)
    |.mul=>wX k [] (n*m)
    |.quo=>some {cond:=ET k n++[0<m],res:=.int k (n/m)}
    |.rem=>some {cond:=ET k n++[0<m],res:=.int k (n%m)}
    |.and=>some {cond:=ET k n++ET k m,res:=.int k (aT n m)}
    |.or=>some {cond:=ET k n++ET k m,res:=.int k (cv n m)}
    |.xor=>some {cond:=ET k n++ET k m,res:=.int k (e9 n m)}
    |.eql=>some {cond:=[],res:=.bool (decide (n=m))}
    |.neq=>some {cond:=[],res:=.bool (!decide (n=m))}
    |.lss=>some {cond:=[],res:=.bool (decide (n<m))}
    |.leq=>some {cond:=[],res:=.bool (decide (n<=m))}
    |.gtr=>some {cond:=[],res:=.bool (decide (m<n))}
    |.geq=>some {cond:=[],res:=.bool (decide (m<=n))}
    |_=>none
    else none
 |.str s,.str u=>match o with
   |.add=>some {cond:=[((s.length+u.length:Nat):Int)<=9223372036854775807],res:=.str (s++u)}
   |.eql=>some {cond:=[],res:=.bool (decide (s=u))}
   |.neq=>some {cond:=[],res:=.bool (!decide (s=u))}
   |.lss=>some {cond:=[],res:=.bool (Op.bytesLess s u)}
   |.leq=>some {cond:=[],res:=.bool (Op.bytesLess s u || decide (s=u))}
   |.gtr=>some {cond:=[],res:=.bool (!(Op.bytesLess s u || decide (s=u)))}
   |.geq=>some {cond:=[],res:=.bool (!Op.bytesLess s u)}
   |_=>none
 |.sl (r::rs) l,.nil=>bif cW T t nH then match o with
     |.eql=>some {cond:=[],res:=.tY (r::rs) l}
     |_=>none
     else none
 |.agg xs,.agg Y=>match Lz T 8 t (.agg xs) (.agg Y) with
   |some r=>match o with
    |.eql=>some {cond:=[],res:=.bool r}
    |.neq=>some {cond:=[],res:=.bool (!r)}
    |_=>none
   |none=>none
 |a,b=>match wY a,wY b with
  |some x,some y=>bif cW T t NS then match o with
   |.eql=>some {cond:=[],res:=.bool (x==y)}
   |.neq=>some {cond:=[],res:=.bool (!(x==y))}
   |_=>none
   else none
  |_,_=>Ė T t o a b
def ė(o:UnOp):AV->Option Out
 |.bool b=>match o with|.not=>some {cond:=[],res:=.bool (!b)}|_=>none
 |.tt=>match o with|.not=>some {cond:=[],res:=.ff}|_=>none
 |.ff=>match o with|.not=>some {cond:=[],res:=.tt}|_=>none
 |.int k n=>match o with
   |.neg=>wX k [] (0-n)
   |.xor=>match rv k with
     |some c=>some {cond:=[],res:=.int k (c-1-n)}
     |none=>none
   |_=>none
 |_=>none
def xS(h:aP)(R:M Ty)(a:AV):Option (M (Row R)):=match a with
 |.str s=>fN [.int .u8] R s
 |.nil=>some []
 |a=>match(jA h a).1 with
  |.sl r l|.full r l=>fN r R l
  |_=>none
def qm:Nat:=8
def DO:TypeDesc->Bool
 |.slice _=>true
 |.string=>true
 |_=>false
def rI(T:b9)(h:aP)(d:Nat)(t a:TypeId)(s x:AV):Option Out:=
 match qk T t,nG T t with
 |some e,some te=>match rowOf T qm e with
  |some row=>bif Nat.beq row.length te.size&&Nat.blt 0 te.size&&Nat.beq (ofConst te.zero).cells.length te.size&&cW T a DO then
   match xS h row x with
   |some m=>match s with
    |.nil=>some {cond:=[m.length<=140737488355328/te.bytes],res:=.own d,new:=[(d,.row e row m false)]}
    |.own k=>match h k with
      |some (.row e' M l false)=>bif Nat.beq e' e then match fN M row l with
       |some L=>some {cond:=[L.length+m.length<=140737488355328/te.bytes],res:=.own d,del:=[k],new:=[(d,.row e row (L++m) false)]}
       |none=>none
       else none
      |_=>none
    |.pre k n=>match h k with
      |some (.row e' M l false)=>bif Nat.beq e' e then match fN M row l with
       |some L=>some {cond:=[n+m.length<=140737488355328/te.bytes],res:=.own d,del:=[k],new:=[(d,.row e row (L.take n++m) false)]}
       |none=>none
       else none
      |_=>none
    |.full r l=>match fN r row l with
      |some L=>some {cond:=[0<m.length,L.length+m.length<=140737488355328/te.bytes],res:=.own d,new:=[(d,.row e row (L++m) false)]}
      |none=>none
    |_=>none
   |none=>none
   else none
  |none=>none
 |_,_=>none
def wZ:Option AV->Option (Option Int)
 |none=>some none
 |some (.int _ i)=>some (some i)
 |some _=>none
def ui:TypeDesc->Bool
 |.string=>true
 |_=>false
def uO(T:b9)(h:aP)(t:TypeId)(x:AV)(L H m:Option AV):Option Out:=
 match x,wZ L,wZ H,wZ m with
 |.str s,some L,some H,some none=>bif cW T t ui then match L,H with
   |none,none=>some {cond:=[],res:=.str s}
   |none,some b=>some {cond:=[0<=b/\b<=(s.length:Int)],res:=.str (s.take b.toNat)}
   |some a,none=>some {cond:=[0<=a/\a<=(s.length:Int)],res:=.str (s.drop a.toNat)}
   |some a,some b=>some {cond:=[0<=a/\a<=b/\b<=(s.length:Int)],res:=.str ((s.take b.toNat).drop a.toNat)}
   else none
 |.sl row l,some L,some H,some none=>bif bH T t row.length then match L,H with
   |none,none=>some {cond:=[],res:=.sl row l}
   |none,some b=>some {cond:=[0<=b/\b<=(l.length:Int)],res:=.sl row (l.take b.toNat)}
   |some a,none=>some {cond:=[0<=a/\a<=(l.length:Int)],res:=.sl row (l.drop a.toNat)}
   |some a,some b=>some {cond:=[0<=a/\a<=b/\b<=(l.length:Int)],res:=.sl row ((l.take b.toNat).drop a.toNat)}
   else none
 |.sl row l,some none,some (some b),some (some c)=>bif bH T t row.length then some {cond:=[0<=b/\b=c/\b<=(l.length:Int)],res:=.full row (l.take b.toNat)} else none
 |.own k,some L,some H,some none=>match h k with
   |some (.row _ row l _)=>bif bH T t row.length then match L,H with
    |none,none=>some {cond:=[],res:=.own k}
    |none,some b=>some {cond:=[0<=b/\b<=(l.length:Int)],res:=.pre k b.toNat}
    |some a,none=>some {cond:=[0<=a/\a<=(l.length:Int)],res:=.view k row.length a.toNat (l.length-a.toNat)}
    |some a,some b=>some {cond:=[0<=a/\a<=b/\b<=(l.length:Int)],res:=.view k row.length a.toNat (b.toNat-a.toNat)}
    else none
   |_=>none
 |_,_,_,_=>none
def zE:AV->Bool
 |.str _=>false
 |_=>true
def DP(T:b9)(h:aP)(s d:TypeId)(k:Nat):Option Out:=
 bif Nat.beq s d then match T.find s with
  |some ts=>match ts.desc with
   |.slice e=>match T.find e,h k with
     |some te,some (.row _ row l false)=>match te.desc,fN row [.int .u8] l with
      |.int .u8,some L=>some {cond:=[0<L.length],res:=.sl [.int .u8] L,del:=[k]}
      |_,_=>none
     |_,_=>none
   |_=>none
  |none=>none
 else none
def pO(T:b9)(h:aP)(s d:TypeId)(x:AV):Option Out:=
 match T.find s,T.find d with
 |some ts,some t=>match ts.desc,t.desc,x with
  |.int _,.int k,.int k' n=>
    if lo k<=lo k'/\hi k'<=hi k then some {cond:=[],res:=.int k n} else wX k [] n
  |.string,.string,.str u=>some {cond:=[],res:=.str u}
  |.string,.slice e,.str u=>match T.find e with
    |some te=>match te.desc with
     |.int .u8=>some {cond:=[],res:=.sl [.int .u8] u}
     |_=>none
    |none=>none
  |.slice e,.string,x=>match T.find e with
    |some te=>match te.desc with
     |.int .u8=>match zE x,xS h [.int .u8] x with
       |true,some u=>some {cond:=[],res:=.str u}
       |_,_=>none
     |_=>none
    |none=>none
  |.slice _,.slice _,.own k=>DP T h s d k
  |_,_,_=>none
 |_,_=>none
def zF(p:Nat->Option (Nat×Nat))(c:M AV):M (Nat×AV)->Option (M AV)
 |[]=>some c
 |(i,v)::rest=>match p i with
  |none=>none
  |some (off,size)=>bif Nat.beq v.cells.length size&&Nat.ble (off+size) c.length&&v.cells.all AV.one then zF p (Nj c off v.cells) rest else none
def placesOf(T:b9):M Field->Option (M (Nat×Nat))
 |[]=>some []
 |f::fs=>match T.find f.type,placesOf T fs with
  |some te,some p=>some ((f.offset,te.size)::p)
  |_,_=>none
def JH(T:b9)(t:TypeId)(p:M (Nat×AV)):Option Out:=match T.find t with
 |some te=>match te.desc with
  |.struct f=>match placesOf T f.toList with
    |some P=>match zF (λi=>P[i]?) (ofConst te.zero).cells p with
     |some cs=>some {cond:=[],res:=.agg cs}
     |none=>none
    |none=>none
  |.array _ e=>match T.find e with
    |some E=>match zF (λi=>some (i*E.size,E.size)) (ofConst te.zero).cells p with
     |some cs=>some {cond:=[],res:=.agg cs}
     |none=>none
    |none=>none
  |_=>none
 |none=>none
def rz(h:aP):M (Nat×AV)->M (Nat×AV)×M Nat
 |[]=>([],[])
 |(i,x)::ps=>((i,(oG h x).1)::(rz h ps).1,(oG h x).2++(rz h ps).2)
def lj(T:b9)(h:aP)(d:Nat)(t:TypeId)(L:Nat)(p:M (Nat×AV)):Option Out:=
 match qk T t,nG T t with
 |some e,some te=>match rowOf T qm e with
  |some row=>bif Nat.beq row.length te.size&&Nat.blt 0 te.size&&Nat.beq (ofConst te.zero).cells.length te.size&&Nat.ble (L*te.size) 16777216 then
   match zF (λi=>some (i*te.size,te.size)) ((List.replicate L (ofConst te.zero).cells).flatten) (rz h p).1 with
   |some cs=>match zC row L cs with
    |some l=>some {cond:=[],res:=.own d,hX:=cG h (rz h p).2,new:=[(d,.row e row l false)]}
    |none=>none
   |none=>none
   else none
  |none=>none
 |_,_=>none
def dQ(r:M Ty)(z:Value):Bool:=match z with
 |.agg cs=>cX r cs.toList
 |v=>cX r [v]
where
 cX:M Ty->M Value->Bool
 |[],[]=>true
 |.int k::ts,.int k' n::vs=>decide (k=k')&&decide (n=0)&&cX ts vs
 |.bool::ts,.bool false ::vs=>cX ts vs
 |.str::ts,.string s::vs=>s.data.toList.isEmpty&&cX ts vs
 |.slice _::ts,.slice none 0 0::vs=>cX ts vs
 |_,_=>false
def uP(T:b9)(h:aP)(t:TypeId)(x:AV):Option Out:=
 match x with
 |.view k sz off n=>match h k with
   |some (.row e row l false)=>match qk T t,nG T t with
    |some _,some te=>bif bH T t row.length&&Nat.beq sz row.length&&Nat.beq row.length te.size&&dQ row te.zero then
      some {cond:=[off+n<=l.length],res:=.bk [],hX:=[(k,.row e row (l.take off++List.replicate n (Row.zero row)++l.drop (off+n)) false)]} else none
    |_,_=>none
   |_=>none
 |_=>none
def xT(T:b9)(d:Nat)(t:TypeId):AV->AV->Option Out
 |.int k n,.int k' c=>match qk T t,nG T t with
   |some e,some te=>match rowOf T qm e with
    |some row=>bif Nat.beq row.length te.size&&Nat.blt 0 te.size&&dQ row te.zero then
     some {cond:=[0<=n/\n<=c/\c<=140737488355328/te.bytes],res:=.own d,new:=[(d,.row e row (List.replicate n.toNat (Row.zero row)) false)]} else none
    |none=>none
   |_,_=>none
 |_,_=>none
abbrev Va:=M AV->Option (Prop×AV×M AB)
structure pb where
 pre:Prop
 res:AV
 heap:List (Option AB)
 new:List AB
abbrev eQ:=M AV->M AB->Option pb
structure Env where
 T:b9
 sig:Nat->Option Va
 lM:Nat->Option GD:=λ_=>none
 rA:Nat->Option (List Bool×eQ):=λ_=>none
 iE:Nat->Bool:=λ_=>false
 cls:Nat->Option Nat:=λ_=>none
 MT:Nat->Bool:=λ_=>false
 JI:Nat:=0
 cn:Nat->Option (List AV->Option (Option Nat×CF)):=λ_=>none
 Hk:Nat->Option (List (Option TypeId)):=λ_=>none
mutual
def fx(base:Nat):AV->AV
 |.own k=>.own (base+k)
 |.agg cs=>.agg (uQ base cs)
 |.bk vs=>.bk (uQ base vs)
 |a=>a
def uQ(base:Nat):M AV->M AV
 |[]=>[]
 |a::as_=>fx base a::uQ base as_
end
def nd(B:Nat):M AB->M (Nat×AB)
 |[]=>[]
 |b::bs=>(B,b)::nd (B+1) bs
def yC(d:Nat):Nat:=100000+100*d
mutual
def AV.gw:AV->Bool
 |.int _ _|.bool _|.tt|.ff|.str _|.undef|.own _|.nil=>true
 |.agg cs=>Hl cs
 |.bk vs=>Hl vs
 |_=>false
def Hl:M AV->Bool
 |[]=>true
 |a::as_=>a.gw&&Hl as_
end
def NT:AV->Bool
 |.fn (.func _) [] []=>true
 |_=>false
def ani:AV->Bool
 |.dc _ _ _=>true
 |_=>false
mutual
def ou(n:Nat):AV->Bool
 |.own k=>Nat.blt k n
 |.agg cs=>Hm n cs
 |.bk vs=>Hm n vs
 |.jR _ cs=>cs.all NT
 |.fn _ l m=>l.isEmpty&&m.all ani
 |.db|.pre _ _|.view _ _ _ _|.ref _ _|.elem _ _ _ _|.dc _ _ _|.vc _ _=>false
 |_=>true
def Hm(n:Nat):M AV->Bool
 |[]=>true
 |a::as_=>ou n a&&Hm n as_
end
def aUR:M AB->Bool
 |[]=>true
 |.row _ _ _ false ::r=>aUR r
 |_=>false
def Nk:Ty->Bool
 |.slice _=>false
 |_=>true
def eB:M AB->Bool
 |[]=>true
 |.row _ row _ _::r=>row.all Nk&&eB r
 |_=>false
def qn(E:Env)(h:aP)(d f:Nat)(a:M AV):Option Out:=match E.sig f with
 |some s=>match s (ry h a).1 with
  |some (pre,res,bs)=>bif Nat.ble bs.length 100&&ou bs.length res&&aUR bs then some {cond:=[pre],res:=fx (yC d) res,hX:=bif res.gw&&eB bs then [] else cG h (ry h a).2,new:=nd (yC d) bs} else none
  |none=>none
 |none=>none
def Hn(b:Bool):AV->AV->AV
 |.int k n,.int k' m=>if k=k' then .int k (bif b then n else m) else .db
 |.str s,.str u=>.str (bif b then s else u)
 |.sl r l,.sl R m=>match fN R r m with
   |some M=>.sl r (bif b then l else M)
   |none=>.db
 |.sl r l,.nil=>.sl r (bif b then l else [])
 |.nil,.sl r l=>.sl r (bif b then [] else l)
 |.nil,.nil=>.nil
 |.lh,.lh=>.lh
 |.own k,.own k'=>bif Nat.beq k k' then .own k else .db
 |x,y=>match wY x,wY y with
  |some p,some q=>.bool (bif b then p else q)
  |_,_=>.db
def uR(b:Bool):M AV->M AV->M AV
 |x::xs,y::ys=>Hn b x y::uR b xs ys
 |_,_=>[]
def Ho(b:Bool):AV->AV->AV
 |.agg xs,.agg Y=>bif Nat.beq xs.length Y.length then .agg (uR b xs Y) else .db
 |.bk xs,.bk Y=>bif Nat.beq xs.length Y.length then .bk (uR b xs Y) else .db
 |x,y=>Hn b x y
def Hp(b:Bool):Option AB->Option AB->Option AB
 |some (.cells xs),some (.cells y)=>bif Nat.beq xs.length y.length then some (.cells (uR b xs y)) else none
 |some (.row e r l fr),some (.row e' R m H)=>match fN R r m with
  |some M=>bif Nat.beq e e'&&(fr==H) then some (.row e r (bif b then l else M) fr) else none
  |none=>none
 |_,_=>none
def Hr:M AV->Option (IntKind×U)
 |[]=>none
 |a::r=>match a with
  |.int k n=>match r with
    |[]=>some (k,[n])
    |_::_=>match Hr r with
     |some (k',l)=>if k=k' then some (k,n::l) else none
     |none=>none
  |_=>none
def every(s j:Nat):Nat->M AV->M AV
 |0,_=>[]
 |n+1,cs=>cs.getD j .db::every s j n (cs.drop s)
def Ht(s k:Nat)(c:M AV)(n:Int):Nat->Option (M AV)
 |0=>some []
 |m+1=>match Ht s k c n m,Hr (every s m k c) with
  |some vs,some (K,l)=>some (vs++[.int K (l.getD n.toNat 0)])
  |_,_=>none
def NU(T:b9)(t:TypeId):Option (Nat×TE):=match T.find t with
 |some te=>match te.desc with
  |.array k e=>match T.find e with
    |some E=>some (k,E)
    |none=>none
  |_=>none
 |none=>none
def zG(T:b9)(t:TypeId)(c:M AV)(n:Int):Option Out:=match NU T t with
 |some (k,e)=>bif Nat.beq c.length (k*e.size) then match Ht e.size k c n e.size with
  |some vs=>bif e.desc.o0 then some {cond:=[0<=n/\n<(k:Int)],res:=.agg vs} else match vs with
   |[a]=>some {cond:=[0<=n/\n<(k:Int)],res:=a}
   |_=>none
  |none=>none
  else none
 |none=>none
def rJ(k:Nat):Bool:=Nat.ble 50000 k&&Nat.blt k 60000
def fresh(h:aP)(k:Nat):Bool:=match h k with
 |none=>!(rJ k)
 |some _=>false
def zH(n:Int):U->Prop
 |[]=>True
 |k::r=>n≠k/\zH n r
def NV(n:Int):U->Bool
 |[]=>false
 |k::r=>decide (n=k) || NV n r
def gY:U->Bool
 |[]=>true
 |k::r=>!NV k r&&gY r
def xU:TypeDesc->Bool
 |.int .i64=>true
 |_=>false
def Ę:Value->Bool
 |.nilFunc=>true
 |_=>false
def FJ(T:b9)(J:Nat)(t:TypeId)(o:Bool)(K:U)(C:M AV)(n:Int):Option Out:=match T.find t with
 |some te=>match te.desc with
  |.map kt et=>bif cW T kt xU&&gY K then
      (match K[J]?,C[J]? with
      |some k,some c=>some {cond:=[n=k],res:=bif o then .bk [c,.tt] else c}
      |_,_=>match T.find et with
       |some e=>bif Ę e.zero then some {cond:=[zH n K],res:=bif o then .bk [.nb,.ff] else .nb} else none
       |none=>none)
    else none
  |_=>none
 |none=>none
def dY(E:Env)(S:St)(o:Oper):Option Out:=
 let T:=E.T
 let h:=S.h
 let e:=ev S
 match o.op with
 |.move x|.assign x=>some {cond:=[],res:=e x}
 |.pick c a b=>match e c with
   |.tt=>some {cond:=[],res:=e a}
   |.ff=>some {cond:=[],res:=e b}
   |.bool p=>some {cond:=[],res:=Ho p (e a) (e b)}
   |_=>none
 |.alloc t=>match T.find t,o.dst with
   |some te,some d=>bif Nat.ble te.size 40 then(bif (ofConst te.zero).cells.all AV.one then some {cond:=[],res:=.ref (S.kb+d) 0,new:=[(S.kb+d,.cells (gv (S.kb+d) (ofConst te.zero).cells))]} else none) else none
   |_,_=>none
 |.box _ x=>match o.dst with
   |some d=>bif (e x).cells.all AV.one then some {cond:=[],res:=.ref (S.kb+d) 0,new:=[(S.kb+d,.cells (gv (S.kb+d) (e x).cells))]} else none
   |none=>none
 |.build t parts=>JH T t (parts.toList.map λp=>(p.1,e p.2))
 |.buildSlice t len parts=>match o.dst with
   |some d=>bif fresh h (S.kb+d) then lj T h (S.kb+d) t len (parts.toList.map λp=>(p.1,e p.2)) else none
   |none=>none
 |.load t p=>ql T h t (e p)
 |.store t p v=>jt T h t (e p) (e v)
 |.nilCheck x=>match e x with
   |.ref k off=>some {cond:=[],res:=.ref k off}
   |.dc r x j=>some {cond:=[],res:=.dc r x j}
   |.elem k sz i j=>some {cond:=[],res:=.elem k sz i j}
   |.fn (.func f) first bl=>some {cond:=[],res:=.fn (.func f) first bl}
   |_=>none
 |.binOp op t x y _=>U9 T t op (e x) (e y)
 |.unOp op _ x=>ė op (e x)
 |.convert s d x=>pO T h s d (e x)
 |.makeFunc f first bl=>some {cond:=[],res:=.fn f (first.toList.map e) (bl.toList.map e)}
 |.makeSlice t l c=>match o.dst with
   |some d=>bif fresh h (S.kb+d) then xT T (S.kb+d) t (e l) (e c) else none
   |none=>none
 |.slice t x lo hi M=>uO T h t (e x) (lo.map e) (hi.map e) (M.map e)
 |.fieldAddr s x f=>xR T s f (e x)
 |.field s x f=>match Hi T s f,e x with
   |some (F,off),.agg cs=>match T.find F with
    |some te=>match pick te cs off with
     |some a=>some {cond:=[],res:=a}
     |none=>none
    |none=>none
   |_,_=>none
 |.indexAddr t x i=>ve T h t (at2 i) (e x) (e i)
 |.index t x i=>match e x,e i with
   |.str s,.int _ n=>bif cW T t ui then some {cond:=[0<=n/\n<(s.length:Int)],res:=.int .u8 ((s.getD n.toNat 0).toNat:Int)} else none
   |.agg cs,.int _ n=>zG T t cs n
   |_,_=>none
 |.extract x i=>match e x with
   |.bk vs=>match vs[i]? with
     |some a=>some {cond:=[],res:=a}
     |none=>none
   |_=>none
 |.lookup t x i ok=>match e x,e i with
   |.jR ks cs,.int .i64 n=>FJ T E.JI t ok ks cs n
   |_,_=>none
 |.call c=>match c.callee with
   |.builtin b=>match b,c.args.toList,c.argTypes.toList with
     |.len,[x],[t]=>match JG h (e x) with
       |some n=>bif (bif zE (e x) then cW T t nH else cW T t ui) then some {cond:=[],res:=.int .i64 n} else none
       |none=>none
     |.append,[s,x],[t,t']=>match o.dst with
       |some d=>bif fresh h (S.kb+d) then rI T h (S.kb+d) t t' (e s) (e x) else none
       |none=>none
     |.clear,[x],[t]=>uP T h t (e x)
     |.min,[x,y],_=>match e x,e y with
       |.int k n,.int k' m=>if k=k' then some {cond:=[],res:=.int k (min n m)} else none
       |_,_=>none
     |.max,[x,y],_=>match e x,e y with
       |.int k n,.int k' m=>if k=k' then some {cond:=[],res:=.int k (max n m)} else none
       |_,_=>none
     |_,_,_=>none
   |.value f=>match e f,o.dst with
     |.fn (.func f) first bl,some d=>qn E h (S.kb+d) f (first++(c.args.toList.map e)++bl)
     |.fn (.func f) first bl,none=>qn E h S.kb f (first++(c.args.toList.map e)++bl)
     |_,_=>none
   |_=>none
 |_=>none
def lp(h:aP):M (Nat×AB)->Bool
 |[]=>true
 |(k,_)::r=>(match h k with|none=>!(rJ k)|some _=>false)&&lp h r
def mN(n:M (Nat×AB))(a:AV):AV:=match n with
 |[]=>a
 |(k,_)::r=>mN r (eT k a)
def bD(n:M (Nat×AB))(a:AB):AB:=match n with
 |[]=>a
 |(k,_)::r=>bD r (mM k a)
def ai(l:M (Nat×AB))(k:Nat):Option AB:=match l with
 |[]=>none
 |(j,b)::r=>bif Nat.beq k j then some b else ai r k
def aw(l:M Nat)(k:Nat):Bool:=match l with
 |[]=>false
 |j::r=>Nat.beq k j || aw r k
def w7(o:Out)(k:Nat)(b:AB):AB:=bif aw o.raw k then b else bD o.new b
def vf(h:aP)(o:Out):aP:=λk=>match ai o.new k with
 |some b=>some b
 |none=>bif aw o.del k then none else match ai o.hX k with
  |some b=>some (w7 o k b)
  |none=>match h k with
   |some b=>some (bD o.new b)
   |none=>none
def St.put(s:St)(d:Option Nat)(o:Out):St:=
 {s with
  t:=match d with
   |some d=>λi=>bif Nat.beq i d then o.res else mN o.new (s.t i)
   |none=>λi=>mN o.new (s.t i)
  h:=vf s.h o
  cm:=o.hX.map (·.1)++(o.del++(o.new.map (·.1)++s.cm))
  news:=s.news++o.new.map λx=>.one x.1
  Ly:=o.del++s.Ly}
def LA:M Prop->Prop
 |[]=>True
 |[p]=>p
 |p::ps=>p/\LA ps
def dZ {a:Type}(R:M Value->a->Prop):M Value->M a->Prop
 |cs,[]=>cs=[]
 |cs,x::l=>∃c C,cs=c++C/\R c x/\dZ R C l
mutual
def Rd(w:World)(A:Nat->Prop):(t:Ty)->Value->D t->Prop
 |.int k,v,x=>v= .int k (DI.toInt k x)/\lo k<=DI.toInt k x/\DI.toInt k x<=hi k
 |.bool,v,b=>v= .bool b
 |.str,v,s=>v= .string ⟨s.toArray⟩/\s.length<=maxLen
 |.slice row,v,l=>∃a c C,v= .slice a l.length c/\l.length<=c/\c<=maxLen/\dZ (bJ w A row) C l/\
     (C≠ []->∃b o,a=some ⟨b,o,none⟩/\A b/\w.rangeAt b o C)
def bJ(w:World)(A:Nat->Prop):(ts:M Ty)->M Value->Row ts->Prop
 |[],vs,_=>vs=[]
 |t::ts,vs,x=>∃v d,vs=v::d/\Rd w A t v (Row.hd x)/\bJ w A ts d (Row.tl x)
end
mutual
def aa(w:World)(A:Nat->Prop)(β:Nat->Value):Value->AV->Prop
 |_,.db=>True
 |v,.undef=>v=undef
 |v,.int k n=>v= .int k n/\lo k<=n/\n<=hi k
 |v,.bool b=>v= .bool b
 |v,.tt=>v= .bool true
 |v,.ff=>v= .bool false
 |v,.str s=>v= .string ⟨s.toArray⟩/\s.length<=maxLen
 |v,.nil=>v= .slice none 0 0
 |v,.lh=>v= .pointer none
 |v,.nb=>v= .nilFunc
 |v,.sl row l=>Rd w A (.slice row) v l
 |v,.full row l=>Rd w A (.slice row) v l/\∃a,v= .slice a l.length l.length
 |v,.dc row x j=>∃b o C,v= .pointer (some ⟨b,o+j,none⟩)/\A b/\w.rangeAt b o C/\bJ w A row C x
 |v,.vc row l=>∃b o C,v= .pointer (some ⟨b,o,none⟩)/\A b/\w.rangeAt b o C/\dZ (bJ w A row) C l
 |v,.own k=>v=β k/\v.oneCell'=true
 |v,.pre k n=>(β k= .slice none 0 0/\v= .slice none 0 0/\n=0)\/
    ∃b m c,β k= .slice (some ⟨b,0,none⟩) m c/\v= .slice (some ⟨b,0,none⟩) n c/\n<=m
 |v,.view k sz off n=>(n=0/\∃a c,v= .slice a 0 c/\c<=maxLen)\/
    ∃b m c L,β k= .slice (some ⟨b,0,none⟩) m c/\v= .slice (some ⟨b,off*sz,none⟩) n L/\n<=L/\off+L<=c/\off+n<=m
 |v,.ref k off=>∃b,β k= .pointer (some ⟨b,0,none⟩)/\v= .pointer (some ⟨b,off,none⟩)
 |v,.elem k sz i j=>∃b m c,β k= .slice (some ⟨b,0,none⟩) m c/\v= .pointer (some ⟨b,i*sz+j,none⟩)
 |v,.agg C=>∃d:Array Value,v= .agg d/\ae w A β d.toList C
 |v,.bk vs=>∃d:Array Value,v= .tuple d/\ae w A β d.toList vs
 |v,.tY _ l=>∃b,v= .bool b/\(b=true->l=[])
 |v,.fn f first bl=>∃g h:Array Value,v= .func f g h/\ae w A β g.toList first/\ae w A β h.toList bl
 |v,.jR ks C=>∃(b:Nat) (E:Array MapEntry) (e:Nat),v= .map (some b)/\A b/\(∃p,w.heap[b]? =some (.map p e)/\p.toList.Perm E.toList)/\E.toList.map (·.key)=ks.map (Value.int .i64)/\ae w A β (E.toList.map (·.val)) C
def ae(w:World)(A:Nat->Prop)(β:Nat->Value):M Value->M AV->Prop
 |vs,[]=>vs=[]
 |vs,a::as_=>∃v q,vs=v::q/\aa w A β v a/\ae w A β q as_
end
def ah:Value->Option Nat
 |.pointer (some a)=>some a.block
 |.slice (some a) _ _=>some a.block
 |_=>none
def bI(w W:World)(A a:Nat->Prop):Prop:=∀b,A b->a b/\W.heap[b]? =w.heap[b]?
def aMw(P:Program)(f:FuncId):Prop:=∀(a:Array Value) (w:World),(callFunc f a).run P w= .ok (.enter f a) w
def anj(P:Program)(f g:FuncId):Prop:=aMw P f/\∀(w:World) (y:FuncId) (p:Value),Calls P f #[.func (.func y) #[] #[],p] w λe W=>∃t,e= .returned (.func (.func g) #[] #[p,.pointer (some ⟨w.heap.size,0,none⟩)])/\W=w.alloc (.cells #[.func (.func y) #[] #[]] t)
class HP where
 is:Program->Prop
 mkf:Nat->Option Nat
 Vb:∀P,is P->∀f g,mkf f=some g->anj P f g
end Go.Vg
namespace Go.Vg
open Go
variable [HP]
def o8(w:World)(S:Nat->Prop)(e:Nat):M Value->M U->Prop
 |[],[]=>True
 |v::vs,x::l=>w.ownsRow 0 e 1 v x.length (x.map (Value.int .i64))/\(∀n∈x,lo .i64<=n/\n<=hi .i64)/\(∀b,ah v=some b->S b/\∀u∈vs,ah u≠some b)/\o8 w S e vs l
 |_,_=>False
def HB(w:World)(S:Nat->Prop)(p:Value):Z->Prop
 |.n=>True
 |.s t=>∃b e,p= .pointer (some ⟨b,0,none⟩)/\w.heap[b]? =some (.cells #[.string ⟨t.toArray⟩] e (0,0))/\t.length<=maxLen/\S b
 |.g e ei l=>∃b E v x,p= .pointer (some ⟨b,0,none⟩)/\w.heap[b]? =some (.cells #[v] E (0,0))/\S b/\v.oneCell'=true/\w.ownsRow 0 e 1 v l.length x/\
     (∀g,ah v=some g->S g/\g≠b/\∀u∈x,ah u≠some g)/\(∀u∈x,ah u≠some b)/\o8 w S ei x l
def aD3(w:World)(p v:Value):Prop:=∃b e,p= .pointer (some ⟨b,0,none⟩)/\w.heap[b]? =some (.cells #[v] e (0,0))
def ZR(w:World)(p:Value)(W:World):Z->Z->Prop
 |.n,.n=>True
 |.s _,.s _=>True
 |.g e ei _,.g e' E _=>e=e'/\ei=E/\∀v,aD3 w p v->aD3 W p v
 |_,_=>False
structure tZ (w:World) (A S:Nat->Prop) (z:Z) (w':World) (A' S':Nat->Prop) (p v:Value) (r:AV×Z):Prop where
 kin:ZR w p w' z r.2
 os:w'.os=w.os
 tape:w'.tape=w.tape
 output:w'.output=w.output
 size:w.heap.size<=w'.heap.size
 same:∀b,b<w.heap.size->¬S b->w'.heap[b]? =w.heap[b]?
 mono:∀b,A b->A' b
 gG:∀b,b<w.heap.size->A' b->A b
 bound:∀b,A' b->b<w'.heap.size
 NW:∀b,S' b->(S b\/w.heap.size<=b)/\¬A' b/\b<w'.heap.size
 res:∀β,aa w' A' β v r.1
 hb:HB w' S' p r.2
def BN(w:World)(A:Nat->Prop)(p v:Value)(F:CF):Prop:=
 v.oneCell'=true/\((∀z,¬(F z).1)\/∃f d g,v= .func (.func f) d g/\∀P,HP.is P->aMw P f/\∀W a z S,bI w W A a->(∀b,a b->b<W.heap.size)->(∀b,S b->¬a b/\b<W.heap.size)->HB W S p z->(F z).1->
  Calls P f (d++g) W λe h=>∃V,e= .returned V/\∃c s,tZ W a S z h c s p V (F z).2)
def ng(w:World)(A:Nat->Prop)(p:Value):M Value->M CF->Prop
 |[],[]=>True
 |v::vs,F::l=>BN w A p v F/\ng w A p vs l
 |_,_=>False
variable {A A':Nat->Prop}{v vi vx vy z v':Value}{w w':World}{cs xs:List Value}{o j n off sz e b cap bytes:Nat}{aC β:Nat->Value}{ab:AB}{a:Act}{d dst:Option Nat}{K:Act->World->Prop}{P:Program}{Q:Exit->Act->World->Prop}{st:St}{c l:List Prop}{r x:AV}{T:b9}{t s t' ty:TypeId}{te:TE}{i:TypeInfo}{α:Type}{out:Out}{fr:Bool}{arr:Array Value}{op:BinOp}{y:Operand}{Ey es:List MapEntry}{vh vl:Option Value}{row:List Ty}{h:aP}{u:B8}{E:Env}
theorem BN.mono{p:Value}{F:CF}(H:bI w w' A A')(h:BN w A p v F):BN w' A' p v F:=by
 obtain⟨k,h|⟨f,a,B,C,m⟩⟩:=h;exact⟨k,.inl h⟩;exact⟨k,.inr ⟨f,a,B,C,λP q=>⟨(m P q).1,λW D z S s=>(m P q).2 W D z S λb g=>⟨(s b (H b g).1).1,(s b (H b g).1).2.trans (H b g).2⟩⟩⟩⟩
theorem ng.mono {w w':World}{A A':Nat->Prop}{p:Value}(H:bI w w' A A'):∀ {xs:M Value} {l:M CF},ng w A p xs l->ng w' A' p xs l
 |[],[],_=>trivial
 |_::_,_::_,h=>⟨h.1.mono H,ng.mono H h.2⟩
def BR(w:World)(A:Nat->Prop)(β:Nat->Value)(k:Nat):AB->Prop
 |.cells cs=>∃b arr e,β k= .pointer (some ⟨b,0,none⟩)/\w.heap[b]? =some (.cells arr e (0,0))/\¬A b/\
     ae w A β arr.toList cs/\∀v∈arr.toList,v.oneCell'=true
 |.row e row l fr=>∃xs,w.ownsRow 0 e row.length (β k) l.length xs/\dZ (bJ w A row) xs l/\
     ∀b,ah (β k)=some b->if fr then A b else ¬A b
 |.arr row l=>∃b arr e,β k= .pointer (some ⟨b,0,none⟩)/\w.heap[b]? =some (.cells arr e (0,0))/\¬A b/\dZ (bJ w A row) arr.toList l
 |.iE e j row l i=>∃xs V,w.ownsRow 0 e row.length (β k) l.length xs/\(∀b,ah (β k)=some b->¬A b)/\dZ (bJ w A row) (xs.set (i*row.length+(row.length-1)) V) l/\
     ∀J,j=some J->xs[i*row.length+(row.length-1)]? =some (β J)
 |.views e j n m sz=>∃xs,w.ownsRow 0 e 1 (β k) n xs/\(∀b,ah (β k)=some b->¬A b)/\
     ∀J,j=some J->∀i,i<m->∃v,xs[i]? =some v/\aa w A β v (.view J 1 (i*sz) sz)
 |.dO e j l=>∃xs,w.ownsRow 0 e 1 (β k) l.length xs/\(∀b,ah (β k)=some b->¬A b)/\∀p,(∀J,j=some J->p=β J)->ng w A p xs l
 |.eG e j xs i=>∃y,w.ownsRow 0 e 1 (β k) xs.length y/\(∀b,ah (β k)=some b->¬A b)/\(∀m,m≠i->y[m]? =xs[m]?)/\∀J,j=some J->y[i]? =some (β J)/\(β J).oneCell'=true
 |.fvar row x=>∃b arr e,β k= .pointer (some ⟨b,0,none⟩)/\w.heap[b]? =some (.cells arr e (0,0))/\A b/\bJ w A row arr.toList x
 |.bm e sz n cs=>∃xs,w.ownsRow 0 e sz (β k) n xs/\(∀b,ah (β k)=some b->¬A b)/\∀aC,ae w A aC xs cs
 |.mp b es ck=>β k= .pointer (some ⟨b,0,none⟩)/\w.heap[b]? =some (.map es ck)/\¬A b
def auo(w:World)(A:Nat->Prop)(i:Nat)(d:GD):Prop:=A i/\∃cs,w.rangeAt i 0 cs/\dZ (bJ w A d.row) cs d.l
structure Ctx where
 w0:World
 A0:Nat->Prop
 M0:Nat->Prop
 G:Nat->Option GD
 Hu:Nat->Value
structure Fr (C:Ctx) (w:World):Prop where
 os:w.os=C.w0.os
 tape:w.tape=C.w0.tape
 output:w.output=C.w0.output
 size:C.w0.heap.size<=w.heap.size
 block:∀b,b<C.w0.heap.size->¬C.M0 b->w.heap[b]? =C.w0.heap[b]?
structure aq (C:Ctx) (A:Nat->Prop) (β:Nat->Value) (st:St) (a:Act) (w:World):Prop where
 defers:a.defers=[]
 size:a.tmps.size=st.n
 tmps:∀i,aa w A β (a.tmps.getD i undef) (st.t i)
 blocks:∀k ab,st.h k=some ab->BR w A β k ab
 apart:∀k k' b,(st.h k).isSome->(st.h k').isSome->ah (β k)=some b->ah (β k')=some b->k=k'
 bound:∀b,A b->b<w.heap.size
 frame:Fr C w
 gG:∀b,b<C.w0.heap.size->A b->C.A0 b\/C.M0 b
 base:∀b,C.A0 b->A b
 om:∀k b,(st.h k).isSome->ah (β k)=some b->C.w0.heap.size<=b\/C.M0 b
 qo:∀i d,st.g i=some d->C.G i=some d
 laid:∀i d,C.G i=some d->auo w A i d
 held:∀k,rJ k=true->β k=C.Hu k
def Rel(C:Ctx)(st:St)(a:Act)(w:World):Prop:=∃A β,aq C A β st a w
def sm {w:World}{b:Nat}(h:w'.heap[b]? =w.heap[b]?)(H:w.rangeAt b o cs):w'.rangeAt b o cs:=by
 intro j v f;have:=H j v f;grind[World.cell?_of_block]
theorem bR {α:Type}{R r:M Value->α->Prop}(h:∀c x,R c x->r c x):∀(l:M α) (cs:M Value),dZ R cs l->dZ r cs l
 |[],_,H=>H
 |_::l,_,⟨c1,c2,f,h1,g⟩=>⟨c1,c2,f,h _ _ h1,bR h l c2 g⟩
mutual
theorem sM {w w':World}{A A':Nat->Prop}(h:bI w w' A A'):∀(t:Ty) (v:Value) (x:D t),Rd w A t v x->Rd w' A' t v x
 |.int _,_,_,H|.bool,_,_,H|.str,_,_,H=>by simpa only[Rd] using H
 |.slice row,v,l,H=>by
   simp only[Rd] at H |-;obtain⟨a,cap,cs,f,g,k,q,B⟩:=H;refine⟨a,cap,cs,f,g,k,bR (λc x F=>bE h row c x F) l cs q,λd=>?_⟩;obtain⟨b,o,G,p,m⟩:=B d;exact⟨b,o,G,(h b p).1,sm (h b p).2 m⟩
theorem bE {w w':World}{A A':Nat->Prop}(h:bI w w' A A'):∀(T:M Ty) (V:M Value) (x:Row T),bJ w A T V x->bJ w' A' T V x
 |[],_,_,H=>by simpa only[bJ] using H
 |t::T,V,x,H=>by
  simp only[bJ] at H |-;obtain⟨v,C,f,g,k⟩:=H;exact⟨v,C,f,sM h t v _ g,bE h T C _ k⟩
end
theorem auo.mono{i:Nat}{d:GD}(f:auo w A i d)(h:bI w w' A A'):auo w' A' i d:=by
 have⟨H,cs,g,k⟩:=f;exact⟨(h i H).1,cs,sm (h i H).2 g,bR (λc x m=>bE h _ _ _ m) _ _ k⟩
mutual
theorem jh {w w':World}{A A':Nat->Prop}{β:Nat->Value}(h:bI w w' A A'):∀(a:AV) (v:Value),aa w A β v a->aa w' A' β v a
 |.db,_,H=>by simp[aa]
 |.undef,_,H|.int _ _,_,H|.bool _,_,H|.tt,_,H|.ff,_,H|.str _,_,H|.nil,_,H|.lh,_,H|.tY _ _,_,H|.nb,_,H=>by simpa only[aa] using H
 |.sl row l,v,H=>by
   simp only[aa] at H |-;exact sM h _ _ _ H
 |.full row l,v,H=>by
   simp only[aa] at H |-;exact⟨sM h _ _ _ H.1,H.2⟩
 |.dc row x j,v,H=>by
   simp only[aa] at H |-;obtain⟨b,o,cs,k,g,m,q⟩:=H;exact⟨b,o,cs,k,(h b g).1,sm (h b g).2 m,bE h _ _ _ q⟩
 |.vc row l,v,H=>by
   simp only[aa] at H |-;obtain⟨b,o,cs,k,g,m,q⟩:=H;exact⟨b,o,cs,k,(h b g).1,sm (h b g).2 m,bR (λc x B=>bE h _ _ _ B) _ _ q⟩
 |.own _,_,H|.pre _ _,_,H|.view _ _ _ _,_,H|.ref _ _,_,H|.elem _ _ _ _,_,H=>by simpa only[aa] using H
 |.agg cs,v,H=>by
   simp only[aa] at H |-;obtain⟨arr,k,g⟩:=H;exact⟨arr,k,cN h cs _ g⟩
 |.bk cs,v,H=>by
   simp only[aa] at H |-;obtain⟨arr,k,g⟩:=H;exact⟨arr,k,cN h cs _ g⟩
 |.fn f first bl,v,H=>by
   simp only[aa] at H |-;obtain⟨D,F,k,g,m⟩:=H;exact⟨D,F,k,cN h first _ g,cN h bl _ m⟩
 |.jR ks cs,v,H=>by
   simp only[aa] at H |-;obtain⟨b,es,G,k,g,m,q,I⟩:=H;exact⟨b,es,G,k,(h b g).1,by rw[(h b g).2];exact m,q,cN h cs _ I⟩
theorem cN {w w':World}{A A':Nat->Prop}{β:Nat->Value}(h:bI w w' A A'):∀(p:M AV) (V:M Value),ae w A β V p->ae w' A' β V p
 |[],_,H=>by simpa only[ae] using H
 |a::p,V,H=>by
  simp only[ae] at H |-;obtain⟨v,C,k,g,m⟩:=H;exact⟨v,C,k,jh h a v g,cN h p C m⟩
end
theorem aO {k d:Nat}(h:¬k=d):Nat.beq k d=false:=by
 grind[Nat.eq_of_beq_eq_true]
theorem cY(k:Nat):Nat.beq k k=true:=by simp_all
def br(β:Nat->Value)(d:Nat)(v:Value):Nat->Value:=λk=>if k=d then v else β k
mutual
theorem zI {w:World}{A:Nat->Prop}{β:Nat->Value}(d:Nat)(u:Value):∀(a:AV) (v:Value),aa w A β v a->aa w A (br β d u) v (eT d a)
 |.db,_,h=>by simp[eT,aa]
 |.undef,_,h|.int _ _,_,h|.bool _,_,h|.tt,_,h|.ff,_,h|.str _,_,h|.nil,_,h|.lh,_,h|.tY _ _,_,h|.nb,_,h|.sl _ _,_,h|.full _ _,_,h|.dc _ _ _,_,h|.vc _ _,_,h=>by simpa only[eT,aa] using h
 |.own k,v,h=>by
   simp only[eT];by_cases hk:k=d;subst hk;simp[aa];have :Nat.beq k d=false:=aO hk;simp only[this,N!];simpa only[aa,br,R! hk] using h
 |.pre k n,v,h=>by
   simp only[eT];by_cases hk:k=d;subst hk;simp[aa];have :Nat.beq k d=false:=aO hk;simp only[this,N!];simpa only[aa,br,R! hk] using h
 |.view k sz off n,v,h=>by
   simp only[eT];by_cases hk:k=d;subst hk;simp[aa];have :Nat.beq k d=false:=aO hk;simp only[this,N!];simpa only[aa,br,R! hk] using h
 |.ref k off,v,h=>by
   simp only[eT];by_cases hk:k=d;subst hk;simp[aa];have :Nat.beq k d=false:=aO hk;simp only[this,N!];simpa only[aa,br,R! hk] using h
 |.elem k sz i j,v,h=>by
   simp only[eT];by_cases hk:k=d;subst hk;simp[aa];have :Nat.beq k d=false:=aO hk;simp only[this,N!];simpa only[aa,br,R! hk] using h
 |.agg cs,v,h=>by
   simp only[eT,aa] at h |-;obtain⟨arr,H,g⟩:=h;exact⟨arr,H,ji d u cs _ g⟩
 |.bk cs,v,h=>by
   simp only[eT,aa] at h |-;obtain⟨arr,H,g⟩:=h;exact⟨arr,H,ji d u cs _ g⟩
 |.fn f first bl,v,h=>by
   simp only[eT,aa] at h |-;obtain⟨q,B,H,g,p⟩:=h;exact⟨q,B,H,ji d u first _ g,ji d u bl _ p⟩
 |.jR ks cs,v,h=>by
   simp only[eT,aa] at h |-;obtain⟨b,es,C,H,g,p,D,F⟩:=h;exact⟨b,es,C,H,g,p,D,ji d u cs _ F⟩
theorem ji {w:World}{A:Nat->Prop}{β:Nat->Value}(d:Nat)(u:Value):∀(m:M AV) (V:M Value),ae w A β V m->ae w A (br β d u) V (gv d m)
 |[],_,h=>by simpa only[gv,ae] using h
 |a::m,V,h=>by
  simp only[gv,ae] at h |-;obtain⟨v,c,H,g,p⟩:=h;exact⟨v,c,H,zI d u a v g,ji d u m c p⟩
end
theorem ę(h:∀k,aC k=β k){a:AV}(H:aa w A β v a):aa w A aC v a:=by
 rwa [show aC=β from funext h]
theorem EU {w:World}{A:Nat->Prop}:∀(n:M (Nat×AB)) (β aC:Nat->Value) (v:Value) (a:AV),(∀k,ai n k=none->aC k=β k)->aa w A β v a->aa w A aC v (mN n a)
 |[],β,aC,v,a,h,H=>by
   grind[mN,ę,ai]
 |(d,b)::r,β,aC,v,a,h,H=>by
  refine EU r _ aC v _ (λk g=>?_) (zI d (aC d) a v H);by_cases f:k=d;grind[br];simp_all[br,if_neg,ai,aO,cond_false]
def BO(n:M (Nat×AB))(cs:M AV):M AV:=match n with
 |[]=>cs
 |(k,_)::r=>BO r (gv k cs)
theorem BP {w:World}{A:Nat->Prop}:∀(n:M (Nat×AB)) (β aC:Nat->Value) (V:M Value) (f:M AV),(∀k,ai n k=none->aC k=β k)->ae w A β V f->ae w A aC V (BO n f)
 |[],β,aC,v,a,h,H=>by
   simp_all[BO,funext,ai]
 |(d,b)::r,β,aC,v,a,h,H=>by
  refine BP r _ aC v _ (λk m=>?_) (ji d (aC d) a v H);by_cases g:k=d;grind[br];simp_all[br,if_neg,ai,aO,cond_false]
def BQ:∀(n:M (Nat×AB)) (cs:M AV),bD n (.cells cs)= .cells (BO n cs)
 |[],_=>rfl
 |(k,_)::r,cs=>by simp[bD,mM,BO,BQ r]
theorem nI:∀(n:M (Nat×AB)) (e:Nat) (row:M Ty) (l:M (Row row)) (fr:Bool),bD n (.row e row l fr)= .row e row l fr
 |[],_,_,_,_=>rfl
 |(k,_)::r,e,row,l,fr=>by simp[bD,mM,nI r]
def Hv:∀(n:M (Nat×AB)) (row:M Ty) (l:M (Row row)),bD n (.arr row l)= .arr row l
 |[],_,_=>rfl
 |(k,_)::r,row,l=>by simp[bD,mM,Hv r]
def oH(n:M (Nat×AB))(j:Option Nat):Option Nat:=match n with
 |[]=>j
 |(k,_)::r=>oH r (uh k j)
theorem vg:∀(N:M (Nat×AB)) (e:Nat) (j:Option Nat) (n m sz:Nat),bD N (.views e j n m sz)= .views e (oH N j) n m sz
 |[],_,_,_,_,_=>rfl
 |(k,_)::r,e,j,n,m,sz=>by simp[bD,mM,oH,vg r]
theorem Hw:∀(n:M (Nat×AB)) (e:Nat) (j:Option Nat) (row:M Ty) (l:M (Row row)) (i:Nat),bD n (.iE e j row l i)= .iE e (oH n j) row l i
 |[],_,_,_,_,_=>rfl
 |(k,_)::r,e,j,row,l,i=>by simp[bD,mM,oH,Hw r]
def Hx:∀(N:M (Nat×AB)) (e sz n:Nat) (cs:M AV),bD N (.bm e sz n cs)= .bm e sz n cs
 |[],_,_,_,_=>rfl
 |_::r,e,sz,n,cs=>Hx r e sz n cs
theorem EV:∀(n:M (Nat×AB)) (e:Nat) (j:Option Nat) (xs:M Value) (i:Nat),bD n (.eG e j xs i)= .eG e (oH n j) xs i
 |[],_,_,_,_=>rfl
 |(d,_)::r,e,j,xs,i=>EV r e _ xs i
def EW:∀(n:M (Nat×AB)) (row:M Ty) (x:Row row),bD n (.fvar row x)= .fvar row x
 |[],_,_=>rfl
 |_::r,row,x=>EW r row x
def LB:∀(n:M (Nat×AB)) (b:Nat) (es:Array MapEntry) (c:Nat),bD n (.mp b es c)= .mp b es c
 |[],_,_,_=>rfl
 |_::r,b,es,c=>LB r b es c
def BS:∀(n:M (Nat×AB)) (e:Nat) (l:M CF),bD n (.dO e none l)= .dO e none l
 |[],_,_=>rfl
 |_::r,e,l=>BS r e l
theorem sn:∀(n:M (Nat×AB)),oH n none=none
 |[]=>rfl
 |(k,_)::r=>by simp[oH,uh,sn r]
theorem so:∀(n:M (Nat×AB)) (j:Option Nat) (J:Nat),oH n j=some J->j=some J/\ai n J=none
 |[],j,J,h=>⟨h,rfl⟩
 |(k,_)::r,none,J,h=>by grind[sn]
 |(k,_)::r,some i,J,h=>by
  simp[oH,uh] at h;cases f:Nat.beq i k with
  |true=>simp_all[K!,sn]
  |false=>
   rw[f] at h;have⟨H,g⟩:=so r _ J h;simp at H;subst H;exact⟨rfl,by simp_all[ai,N!]⟩
def EX:∀(n:M (Nat×AB)) (e j:Nat) (l:M CF),(bD n (.dO e (some j) l)= .dO e (some j) l/\ai n j=none)\/bD n (.dO e (some j) l)= .views e none l.length 0 0
 |[],_,_,_=>.inl ⟨rfl,rfl⟩
 |(d,b)::r,e,j,l=>by
  cases h:Nat.beq j d with
  |true=>simp_all[bD,mM,zD,K!,vg,sn]
  |false=>
   simp_all[bD,mM,zD,ai,N!,EX]
theorem NX(h:aC j=β j)(H:aa w A β v (.view j sz off n)):aa w' A' aC v (.view j sz off n):=by
 grind[aa]
theorem dH{s:Nat}(h:w.ownsRow 0 e s v n xs)(H:∀b,ah v=some b->w'.heap[b]? =w.heap[b]?):w'.ownsRow 0 e s v n xs:=by
 refine⟨h.1,?_⟩;rcases h.2 with k|⟨g,cap,c,rfl,f,m,r⟩;grind;refine .inr ⟨g,cap,c,rfl,f,?_,r⟩;rw[H g rfl];omega
theorem yD {w w':World}{A A':Nat->Prop}{β:Nat->Value}{new:M (Nat×AB)}{k:Nat}(R:∀k,ai new k=none->aC k=β k)(hk:aC k=β k)
  (H:∀b,ah (β k)=some b->w'.heap[b]? =w.heap[b]? /\(A' b->A b)) (C:bI w w' A A') (h:BR w A β k ab):BR w' A' aC k (bD new ab):=by
 cases ab with
 |cells cs=>
  rw[BQ];obtain⟨b,arr,e,h1,g,q,D,S⟩:=h;have f:=H b (by rw[h1];rfl);exact⟨b,arr,e,hk.trans h1,f.1.trans g,λB=>q (f.2 B),BP new β aC _ _ R (cN C _ _ D),S⟩
 |row e row l fr=>
  rw[nI];obtain⟨xs,h1,g,q⟩:=h;simp[BR,hk];refine⟨xs,dH h1 (λb f=>(H b f).1),bR (λc x F=>bE C row c x F) l xs g,λb f=>?_⟩;have:=q b f;cases fr with
  |true=>exact(C b this).1
  |false=>grind
 |arr row l=>
  rw[Hv];obtain⟨b,arr,e,h1,g,q,D⟩:=h;have f:=H b (by rw[h1];rfl);exact⟨b,arr,e,hk.trans h1,f.1.trans g,λB=>q (f.2 B),bR (λc x F=>bE C row c x F) l _ D⟩
 |views e j n m sz=>
  rw[vg];obtain⟨xs,h1,g,q⟩:=h;simp[BR,hk];refine⟨xs,dH h1 (λb f=>(H b f).1),λb f B=>g b f ((H b f).2 B),λJ L i V=>?_⟩;obtain⟨N,W⟩:=so new j J L;grind[NX]
 |iE e j row l i=>
  grind[Hw,BR,dH,bR,bE,so]
 |mp b es ck=>
  rw[LB];obtain⟨h1,g,q⟩:=h;have f:=H b (by rw[h1];rfl);exact⟨hk.trans h1,f.1.trans g,λB=>q (f.2 B)⟩
 |fvar row x=>
  rw[EW];obtain⟨b,arr,e,h1,g,q,D⟩:=h;exact⟨b,arr,e,hk.trans h1,(H b (by rw[h1];rfl)).1.trans g,(C b q).1,bE C _ _ _ D⟩
 |eG e j xs i=>
  rw[EV];obtain⟨y,h1,g,q,D⟩:=h;simp only[BR,hk];refine⟨y,dH h1 (λb f=>(H b f).1),λb f B=>g b f ((H b f).2 B),q,λJ L=>?_⟩<;>grind[dH,so]
 |bm e sz n cs=>
  rw[Hx];obtain⟨xs,h1,g,q⟩:=h;simp only[BR,hk];exact⟨xs,dH h1 (λb f=>(H b f).1),λb f B=>g b f ((H b f).2 B),λU=>cN C _ _ (q U)⟩
 |dO e j l=>
  obtain⟨xs,h1,g,q⟩:=h;have G:=dH h1 (λb f=>(H b f).1);have I:=λb f B=>g b f ((H b f).2 B);cases j with
  |none=>
   rw[BS];simp only[BR,hk];exact⟨xs,G,I,λp O=>(q p (λ_ h=>by cases h)).mono C⟩
  |some j=>
   rcases EX new e j l with⟨h,X⟩|h<;>rw[h]<;>simp only[BR,hk];exact⟨xs,G,I,λp O=>(q p (λJ N=>(O J N).trans x!)).mono C⟩;exact⟨xs,G,I,λ_ h=>by cases h⟩
def oI(st:St)(out:Out)(k:Nat):Prop:=(st.h k).isSome/\((ai out.hX k).isSome\/aw out.del k=true)
variable {C:Ctx}
theorem aq.Ě{β aC:Nat->Value}{st:St}{w w':World}{out:Out}
  (H:aq C A β st a w) (X:∀t,d=some t->t<st.n)
  (S3:∀k b,ai out.new k=some b->st.h k=none/\rJ k=false)
  (S4:∀k b,ai out.hX k=some b->(st.h k).isSome)
  (c:∀k,ai out.new k=none->aC k=β k)
  (W:bI w w' A A')
  (Y:w'.os=w.os) (T:w'.tape=w.tape) (w8:w'.output=w.output) (qp:w.heap.size<=w'.heap.size)
  (FK:∀b,b<w.heap.size->(∀k,oI st out k->ah (β k)≠some b)->w'.heap[b]? =w.heap[b]?)
  (q:∀b,A' b->b<w'.heap.size)
  (hA:∀b,A' b->A b\/w.heap.size<=b\/∃k,oI st out k/\ah (β k)=some b)
  (S5:∀k ab,ai out.hX k=some ab->aw out.del k=false->BR w' A' aC k (w7 out k ab))
  (iP:∀k ab,ai out.new k=some ab->BR w' A' aC k ab)
  (Z:∀k b ab,ai out.new k=some ab->ah (aC k)=some b->w.heap.size<=b\/∃m,aw out.del m=true/\(st.h m).isSome/\ah (β m)=some b)
  (FL:∀k K b,(ai out.new k).isSome->(ai out.new K).isSome->ah (aC k)=some b->ah (aC K)=some b->k=K)
  (w9:aa w' A' aC v out.res):aq C A' aC (st.put d out) (a.put d v) w':=by
 have x:∀k b,(st.h k).isSome->ah (β k)=some b->b<w.heap.size:=by
  intro k b p f;obtain⟨ab,G⟩:=Z!.1 p;have L:=H.blocks k ab G;cases ab with
  |mp y es ck=>
   obtain⟨h1,D,_⟩:=L<;>grind[ah,Option.some.injEq,Array.getElem?_eq_some_iff]
  |arr _ _|fvar _ _=>
   obtain⟨y,arr,e,h1,D,_⟩:=L<;>grind[ah,Option.some.injEq,Array.getElem?_eq_some_iff]
  |cells cs=>
   obtain⟨y,arr,e,h1,D,_⟩:=L<;>grind[ah,Option.some.injEq,Array.getElem?_eq_some_iff]
  |row e row l fr=>
   obtain⟨xs,h1,_⟩:=L;rcases h1.2 with⟨o,_⟩|⟨g,cap,O,z,_,E,_⟩<;>grind[ah,Option.some.injEq,Array.getElem?_eq_some_iff]
  |iE e j row l i=>
   obtain⟨xs,v0,h1,_⟩:=L;rcases h1.2 with⟨o,_⟩|⟨g,cap,O,z,_,E,_⟩<;>grind[ah,Option.some.injEq,Array.getElem?_eq_some_iff]
  |views _ _ _ _ _|dO _ _ _|bm _ _ _ _|eG _ _ _ _=>
   obtain⟨xs,h1,_⟩:=L;rcases h1.2 with⟨o,_⟩|⟨g,cap,O,z,_,E,_⟩<;>grind[ah,Option.some.injEq,Array.getElem?_eq_some_iff]
 have r:∀k N,(st.put d out).h k=some N->(∃ab,ai out.new k=some ab/\ab=N)\/(ai out.new k=none/\aw out.del k=false/\
   ((∃ab,ai out.hX k=some ab/\N=w7 out k ab)\/(ai out.hX k=none/\∃ab,st.h k=some ab/\N=bD out.new ab))):=by
  intro k N p;simp only[St.put,vf] at p;grind
 have s:∀k,((st.put d out).h k).isSome->(ai out.new k).isSome\/(ai out.new k=none/\aw out.del k=false/\(st.h k).isSome):=by
  grind[Option.isSome_iff_exists]
 have R:∀v a,aa w A β v a->aa w' A' aC v (mN out.new a):=λv a h=>EU out.new β aC v a c (jh W a v h)
 refine⟨?_,?_,?_,?_,?_,q,?_,?_,?_,?_,H.qo,λi d X=>(H.laid i d X).mono W,λk p=>by
  rw[c k (by
   cases o:ai out.new k<;>grind)]
  exact H.held k p⟩
 cases d<;>exact H.defers
 . cases d with
   |none=>exact H.size
   |some t=>show(a.put (some t) v).tmps.size=st.n;simp[Act.put,H.size]
 . intro i;cases d with
   |none=>exact R _ _ (H.tmps i)
   |some t=>
    have I:=X t rfl;simp only[St.put,Act.put];by_cases hi:i=t;subst hi;simp only[cY,cond_true];rw[Array.getD_eq_getD_getElem?,Array.getElem?_setIfInBounds_self_of_lt (by rw[H.size];omega)];grind;simp only[aO hi,cond_false];have:=R _ _ (H.tmps i);rw[Array.getD_eq_getD_getElem?,Array.getElem?_setIfInBounds_ne (λh=>hi h.symm),<-Array.getD_eq_getD_getElem?];omega
 intro k N p;rcases r k N p with⟨ab,h,rfl⟩|⟨h1,D,⟨ab,h,rfl⟩|⟨J,ab,h,rfl⟩⟩;grind;grind;have V:=H.blocks k ab h;refine yD c (c k h1) (λb f=>?_) W V
 have hnt:∀K,oI st out K->ah (β K)≠some b:=by
  intro K I F;have :K=k:=H.apart K k b I.1 (by simp[h]) F f;subst this;rcases I.2 with hu|hu;simp[J] at hu;simp[D] at hu
 grind;intro k K b p gk f F;rcases s k p with h1|⟨h1,D,J⟩<;>rcases s K gk with g1|⟨g1,P,u⟩;exact FL k K b h1 g1 f F;obtain⟨ab,G⟩:=Option.isSome_iff_exists.1 h1;rw[c K g1] at F;rcases Z k b ab G f with M|⟨m,B,S,U⟩;exact absurd (x K b u F) w!;have :m=K:=H.apart m K b S u U F;subst this;rw[B] at P;cases P;obtain⟨ab,G⟩:=Option.isSome_iff_exists.1 g1;rw[c k h1] at f;rcases Z K b ab G F with M|⟨m,B,S,U⟩;exact absurd (x k b J f) w!;have :m=k:=H.apart m k b S J U f;subst this;rw[B] at D;cases D;rw[c k h1] at f;rw[c K g1] at F;exact H.apart k K b J u f F;refine⟨Y.trans H.frame.os,T.trans H.frame.tape,w8.trans H.frame.output,Nat.le_trans H.frame.size qp,λb f Q=>?_⟩;rw[FK b (Nat.lt_of_lt_of_le f H.frame.size) (λk I V=>?_)];exact H.frame.block b f Q;rcases H.om k b I.1 V with h|h;omega;exact Q h;intro b f Vf;rcases hA b Vf with M|M|⟨k,I,V⟩;exact H.gG b f M;exact absurd H.frame.size w!;rcases H.om k b I.1 V with h|h;omega;exact .inr h;exact λb f=>(W b (H.base b f)).1;intro k b p f;rcases s k p with h1|⟨h1,D,J⟩;obtain⟨ab,G⟩:=Option.isSome_iff_exists.1 h1;rcases Z k b ab G f with M|⟨m,B,S,U⟩;exact .inl (Nat.le_trans H.frame.size M);exact H.om m b S U;rw[c k h1] at f;exact H.om k b J f
theorem aq.step{β aC:Nat->Value}{st:St}{w w':World}{out:Out}
  (m:aq C A β st a w) (p:∀t,d=some t->t<st.n)
  (S:∀k b,ai out.new k=some b->st.h k=none/\rJ k=false)
  (s:∀k b,ai out.hX k=some b->(st.h k).isSome)
  (c:∀k,ai out.new k=none->aC k=β k)
  (q:bI w w' A A')
  (f:w'.os=w.os) (B:w'.tape=w.tape) (W:w'.output=w.output) (Q:w.heap.size<=w'.heap.size)
  (F:∀b,b<w.heap.size->(∀k,oI st out k->ah (β k)≠some b)->w'.heap[b]? =w.heap[b]?)
  (H:∀b,A' b->b<w'.heap.size)
  (D:∀b,A' b->A b\/w.heap.size<=b\/∃k,oI st out k/\ah (β k)=some b)
  (L:∀k ab,ai out.hX k=some ab->aw out.del k=false->BR w' A' aC k (bD out.new ab))
  (i:∀k ab,ai out.new k=some ab->BR w' A' aC k ab)
  (G:∀k b ab,ai out.new k=some ab->ah (aC k)=some b->w.heap.size<=b\/∃K,aw out.del K=true/\(st.h K).isSome/\ah (β K)=some b)
  (I:∀k g b,(ai out.new k).isSome->(ai out.new g).isSome->ah (aC k)=some b->ah (aC g)=some b->k=g)
  (J:aa w' A' aC v out.res) (M:out.raw=[]:=by rfl):aq C A' aC (st.put d out) (a.put d v) w':=
 m.Ě p S s c q f B W Q F H D (λk ab N O=>by
  grind[w7,bD,aw]) i G I J
def Ĝ(P:Program)(t:TypeId):TypeDesc->Prop
 | .struct F=>P.stoodInHeld t=false/\P.eqGuardType P.depth t=false/\(F.toList.all λf=>f.name != "_")=true
 |_=>True
structure bM (T:b9) (P:Program):Prop where
 ok:∀t te,T.find t=some te->P.underlying t=some te.desc/\∃i,P.info? t=some i/\i.size=te.size/\i.bytes=te.bytes/\i.zero=some te.zero
 held:∀t te,T.find t=some te->Ĝ P t te.desc
theorem bK {o:Oper}{v:Value}{w':World}(h:(execOp a.eval o).run P w= .ok (.value v) w')(H:K (a.put o.dst v) w'):o.wp P a w K Q:=by
 unfold Oper.wp;rw[h];exact H
theorem pP {o:Oper}{w':World}(h:(execOp a.eval o).run P w= .ok .skip w')(H:K (a.put o.dst undef) w'):o.wp P a w K Q:=by
 unfold Oper.wp;rw[h];exact H
theorem X9(v:Value):aa w A β v (DN v):=by
 unfold DN;split;split;simp_all[aa,trivial]
 grind[aa];grind[aa]
 . rename_i s;cases h:Nat.ble s.data.toList.length 1000000 with
   |false=>simp[aa]
   |true=>
    have:=Nat.le_of_ble_eq_true h;simp only[cond_true,aa];grind[maxLen]
 rfl;rfl;rfl;grind[aa]
theorem LC(f:Value->AV)(h:∀v,aa w A β v (f v)):∀(V:M Value),ae w A β V (V.map f)
 |[]=>by rfl
 |v::V=>by
  exact⟨v,V,rfl,h v,LC f h V⟩
def zJ(v:Value):aa w A β v (ofConst v):=by
 unfold ofConst;grind[aa,LC,X9]
theorem aM(h:aq C A β st a w)(x:Operand):aa w A β (a.eval x) (ev st x):=by
 cases x with
 |tmp i=>exact h.tmps i
 |const v=>exact zJ v
 |global g=>
  simp[ev,Act.eval];cases H:st.g g with
  |none=>simp[aa]
  |some d=>
   obtain⟨k,cs,m,p⟩:=h.laid g d (h.qo g d H);grind[aa]
 |func f=>
  exact⟨#[], #[],rfl,by rfl,by rfl⟩
theorem bI.refl(w:World)(A:Nat->Prop):bI w w A A:=λ_ h=>⟨h,rfl⟩
def aq.pure(H:aq C A β st a w)(f:∀t,d=some t->t<st.n)(h:aa w A β v r):
  aq C A β (st.put d {cond:=c,res:=r}) (a.put d v) w:=
 H.step (out:={cond:=c,res:=r}) f (by simp[ai]) (by simp[ai]) (λ_ _=>rfl) (bI.refl w A) rfl rfl rfl (M! _) (λ_ _ _=>rfl) H.bound
  (λb h=>.inl h) (by simp[ai]) (by simp[ai]) (by simp[ai]) (by simp[ai]) h
theorem Rel.kP(h:aq C A β st a w):Rel C st a w:=⟨A,β,h⟩
theorem zK(b:Bool):∀(x y:AV),(if b then aa w A β v x else aa w A β v y)->aa w A β v (Hn b x y):=by
 intro x y h
 have H:∀x y p q,wY x=some p->wY y=some q->(if b then aa w A β v x else aa w A β v y)->aa w A β v (.bool (bif b then p else q)):=by
  intro x y p q f g h;cases b<;>cases x<;>simp_all[wY,aa]<;>cases y<;>simp_all[aa]
 unfold Hn;split;grind[aa];grind;grind[fN,aa,Ty.atG,Option.some.injEq]
 . cases b with
   |true=>grind
   |false=>
    simp only[aa,c?,r?] at h;simp only[aa,Rd,N!];exact⟨none,0,[],w!,z!,z!,by rfl,z!⟩
 . cases b with
   |false=>grind
   |true=>
    simp only[aa,Q?] at h;simp only[aa,Rd,K!];exact⟨none,0,[],w!,z!,z!,by rfl,z!⟩
 grind;grind;grind[Nat.beq,aa,Nat.eq_of_beq_eq_true];grind[aa]
theorem ajO:∀(f:M AV) (V:M Value),ae w A β V f->V.length=f.length
 |[],V,h=>by grind[ae]
 |a::f,V,h=>by
  obtain⟨v,c,rfl,_,H⟩:=h;simp[ajO f c H]
theorem kB(b:Bool):∀(xs Y:M AV) (V:M Value),xs.length=Y.length->(if b then ae w A β V xs else ae w A β V Y)->ae w A β V (uR b xs Y)
 |[],[],V,_,h=>by grind[uR]
 |x::xs,y::Y,V,H,h=>by
  cases b with
  |true=>
   obtain⟨v,c,rfl,f,g⟩:=h;exact⟨v,c,rfl,zK true x y (by simpa using f),kB true xs Y c (by simpa using H) (by simpa using g)⟩
  |false=>
   obtain⟨v,c,rfl,f,g⟩:=h;exact⟨v,c,rfl,zK false x y (by simpa using f),kB false xs Y c (by simpa using H) (by simpa using g)⟩
 |[],_::_,_,H,_|_::_,[],_,H,_=>by grind
theorem EY(b:Bool)(x y:AV)(h:if b then aa w A β v x else aa w A β v y):aa w A β v (Ho b x y):=by
 unfold Ho;split
 . rename_i xs Y;cases H:Nat.beq xs.length Y.length with
   |false=>simp[aa]
   |true=>
    have H:=D! H;simp[K!,aa];cases b with
    |true=>
     simp[if_true,aa] at h;grind[kB]
    |false=>
     simp[Bool.false_eq_true,if_false,aa] at h;grind[kB]
 . rename_i xs Y;cases H:Nat.beq xs.length Y.length with
   |false=>simp[aa]
   |true=>
    have H:=D! H;simp[K!,aa];cases b with
    |true=>
     simp[if_true,aa] at h;grind[kB]
    |false=>
     simp[Bool.false_eq_true,if_false,aa] at h;grind[kB]
 grind[zK]
theorem jk:∀(T:M Ty) (V:M Value) (x:Row T),bJ w A T V x->V.length=T.length
 |[],V,_,h=>by grind[bJ]
 |t::T,V,x,h=>by
  obtain⟨v,c,rfl,_,H⟩:=h;simp[jk T c _ H]
theorem jl {row:M Ty}:∀(l:M (Row row)) (cs:M Value),dZ (bJ w A row) cs l->cs.length=l.length*row.length
 |[],cs,h=>by grind[dZ]
 |x::l,cs,⟨c1,c2,H,h1,f⟩=>by
  subst H;simp[jk row c1 x h1,jl l c2 f,q?,Nat.add_comm]
def vj {row:M Ty}:∀(l:M (Row row)) (cs:M Value) (i:Nat) (h:i<l.length),dZ (bJ w A row) cs l->
  ∃C c f,cs=C++(c++f)/\C.length=i*row.length/\bJ w A row c l[i]/\dZ (bJ w A row) C (l.take i)/\dZ (bJ w A row) f (l.drop (i+1))
 |[],_,_,h,_=>by grind
 |x::l,cs,0,_,⟨C,f,H,h1,g⟩=>⟨[],C,f,x!,z!,x!,by rfl,x!⟩
 |x::l,cs,i+1,h,⟨C,f,H,h1,g⟩=>by
  obtain⟨D,d,k,e,q,E,m,p⟩:=vj l f i x! g;subst H;subst e;exact⟨C++D,d,k,z!,by grind[jk,Nat.add_mul,Nat.add_comm],by simpa using E,⟨C,D,rfl,h1,m⟩,by simpa using p⟩
theorem j5 {α:Type}{R:M Value->α->Prop}:∀(l m:M α) (cs d:M Value),dZ R cs l->dZ R d m->dZ R (cs++d) (l++m)
 |[],m,cs,d,h,H=>by grind[dZ]
 |x::l,m,cs,d,⟨c1,c2,f,h1,g⟩,H=>by
  subst f;exact⟨c1,c2++d,z!,h1,j5 l m c2 d g H⟩
theorem gK {row:M Ty}:∀(l:M (Row row)) (cs:M Value) (i:Nat),dZ (bJ w A row) cs l->
  dZ (bJ w A row) (cs.take (i*row.length)) (l.take i)/\dZ (bJ w A row) (cs.drop (i*row.length)) (l.drop i)
 |[],cs,i,h=>by grind[dZ]
 |x::l,cs,0,h=>by grind[dZ]
 |x::l,cs,i+1,⟨c1,c2,H,h1,f⟩=>by
  subst H;have g:=jk row c1 x h1;have I:=gK l c2 i f;have e:(i+1)*row.length=c1.length+i*row.length:=by grind
  rw[e];refine⟨⟨c1,c2.take (i*row.length),?_,h1,I.1⟩,?_⟩;grind;rw[List.drop_length_add_append];grind
theorem zL{C c f:M Value}(h:w.rangeAt b o (C++(c++f))):w.rangeAt b (o+C.length) c:=by
 intro j v H
 have:=h (C.length+j) v (by
  grind)
 grind
theorem avE(h:w.rangeAt b o cs):w.rangeAt b (o+n) (cs.drop n):=by
 intro j v H;have:=h (n+j) v x!;grind
theorem kC(h:w.rangeAt b o cs):w.rangeAt b o (cs.take n):=by
 intro j v H;refine h j v ?_;grind
theorem Ya:∀(t:Ty) (v:Value) (x:D t),Rd w A t v x->aa w A β v (Hh t x)
 |.int k,v,x,h=>by grind[Hh,aa,Rd]
 |.bool,v,x,h|.str,v,x,h=>by grind[Hh,aa,Rd]
 |.slice row,v,x,h=>by grind[Hh,aa]
theorem hZ:∀(T:M Ty) (V:M Value) (x:Row T),bJ w A T V x->ae w A β V (ax T x)
 |[],V,_,h=>by grind[ax,ae,bJ]
 |t::T,V,x,h=>by
  obtain⟨v,c,rfl,H,f⟩:=h;exact⟨v,c,rfl,Ya t v _ H,hZ T c _ f⟩
theorem fA:∀(T:M Ty) (x:Row T),(ax T x).length=T.length
 |[],_=>rfl
 |t::T,x=>by simp[ax,fA T]
theorem my:∀(f:M AV) (V:M Value) (n:Nat),ae w A β V f->ae w A β (V.take n) (f.take n)/\ae w A β (V.drop n) (f.drop n)
 |[],V,n,h=>by grind[ae]
 |a::f,V,0,h=>by grind[ae]
 |a::f,V,n+1,h=>by
  obtain⟨v,c,rfl,H,g⟩:=h;have i:=my f c n g;exact⟨⟨v,_,rfl,H,i.1⟩,i.2⟩
def xa:∀(f:M AV) (V:M Value) (i:Nat) (r:AV),ae w A β V f->f[i]? =some r->∃v,V[i]? =some v/\aa w A β v r
 |[],V,i,r,h,H=>by grind
 |a::f,V,0,r,h,H=>by
  grind[ae]
 |a::f,V,i+1,r,h,H=>by
  obtain⟨v,c,rfl,m,g⟩:=h;obtain⟨u,k,q⟩:=xa f c i r g (by simpa using H);exact⟨u,by simpa using k,q⟩
theorem Sj(d:TypeDesc):d.o0=d.isRow:=by rfl
def lW(k:bM T P)(m:T.find t=some te){as_:M AV}(h:ae w A β cs as_)(H:pick te as_ off=some r)
  (f:w.rangeAt b o cs):∃v,(Instr.loadAt t (.pointer (some ⟨b,o+off,none⟩))).run P w= .ok v w/\aa w A β v r:=by
 obtain⟨hu,i,D,F,_,_⟩:=k.ok t te m;unfold pick at H;cases Y:te.desc.o0 with
 |true=>
  simp[Y,K!] at H;cases hle:Nat.ble (off+te.size) as_.length with
  |false=>grind
  |true=>
   have hle:=Nat.le_of_ble_eq_true hle;simp[hle,Nat.ble_eq_true_of_le,cond_true,Option.some.injEq] at H;subst H;have g:=ajO as_ cs h;refine⟨.agg ((cs.drop off).take te.size).toArray,?_,?_⟩;refine run_loadAt_mid w b (o+off) t ((cs.drop off).take te.size) te.desc (kC (avE f)) hu (by grind[Sj]) ?_;grind;exact⟨_,rfl,by simp_all[my]⟩
 |false=>
  simp[Y,N!] at H;obtain⟨v,p,q⟩:=xa as_ cs off r h H;have G:=f off v p
  have B:(isAgg t).run P w= .ok false w:=by
   unfold isAgg;rw[Sem.run_bind,run_underlying hu w];cases I:te.desc<;>simp_all[TypeDesc.o0]
  simp_all[Instr.loadAt,Instr.sureAddr,loadVar]
def iF(H:bM T P)(h:bH T t n=true):∃e i,P.underlying t=some (.slice e)/\P.info? e=some i/\i.size=n/\0<n:=by
 unfold bH nG at h;cases f:T.find t with
 |none=>grind
 |some te=>
  simp[f] at h;cases hd:te.desc with
  |slice e=>
   simp[hd] at h;cases he:T.find e with
   |none=>grind
   |some E=>
    simp only[he,B!] at h;obtain⟨_,i,g,k,_⟩:=H.ok e E he;exact⟨e,i,by rw[(H.ok t te f).1,hd],g,k.trans (D! h.1),by simp_all⟩
  |_=>grind
theorem j6 {e:TypeId}(hu:P.underlying t=some (.slice e))(hi:P.info? e=some i)(b o l cap:Nat)(k:IntKind)(n:Int)(h:0<=n)(h1:n<(l:Int)):
  (Instr.indexAt t (.slice (some ⟨b,o,none⟩) l cap) (.int k n)).run P w= .ok (.pointer (some ⟨b,o+n.toNat*i.size,none⟩)) w:=by
 simp[Instr.indexAt,asIntOf,run_underlying hu,sizeOf,typeInfo,hi,h,h1,Addr.add_mid]
def S6(H:bM T P)(h:NR T t=some (n,sz)):∃e i,P.underlying t=some (.array n e)/\P.info? e=some i/\i.size=sz:=by
 unfold NR at h;split at h;rename_i te j;obtain⟨f,_⟩:=H.ok t te j;split at h;rename_i k e g;split at h;rename_i E x;obtain⟨_,i,m,p,_⟩:=H.ok e E x;grind;grind;grind;grind
theorem EZ {e:TypeId}{l:Nat}(hu:P.underlying t=some (.array l e))(hi:P.info? e=some i)(b o:Nat)(k:IntKind)(n:Int)(h:0<=n)(h1:n<(l:Int)):
  (Instr.indexAt t (.pointer (some ⟨b,o,none⟩)) (.int k n)).run P w= .ok (.pointer (some ⟨b,o+n.toNat*i.size,none⟩)) w:=by
 simp[Instr.indexAt,Instr.sureAddr,asIntOf,run_underlying hu,sizeOf,typeInfo,hi,h,h1,Addr.add_mid]
theorem BU:∀(xs y:M AV) (u V:M Value),ae w A β u xs->ae w A β V y->ae w A β (u++V) (xs++y)
 |[],y,u,V,h,g=>by
   grind[ae]
 |a::as_,y,u,V,h,g=>by
  obtain⟨v,J,rfl,H,f⟩:=h;exact⟨v,J++V,rfl,H,BU as_ y J V f g⟩
theorem S7(row:M Ty):∀(l:M (Row row)) (cs:M Value),dZ (bJ w A row) cs l->ae w A β cs (l.flatMap (ax row))
 |[],cs,h=>by grind[dZ,ae]
 |x::l,cs,⟨c1,c2,H,h1,f⟩=>by
  subst H;exact BU _ _ _ _ (hZ row c1 x h1) (S7 row l c2 f)
theorem getD_eq(l:M α)(i:Nat)(d:α)(h:i<l.length):l.getD i d=l[i]:=by
 grind
def S8(row:M Ty)(l:M (Row row))(v:Value)(n:Int)(g:Rd w A (.slice row) v l)(G:0<=n)(I:n<(l.length:Int)):
  row≠ []->∃b o cap,v= .slice (some ⟨b,o,none⟩) l.length cap/\aa w A β (.pointer (some ⟨b,o+n.toNat*row.length,none⟩)) (.dc row (l.getD n.toNat (Row.zero row)) 0):=by
 intro m;obtain⟨a,cap,cs,k,_,_,p,q⟩:=g;have f:n.toNat<l.length:=by omega
 obtain⟨C,c,J,e,B,E,_,_⟩:=vj l cs n.toNat f p;have L:=jk row c _ E
 have d:cs≠ []:=by
  intro h;rw[h] at e;have:=congrArg List.length e;simp at this;exact m (D? w!)
 obtain⟨b,o,D,F,H⟩:=q d;refine⟨b,o,cap,by rw[k,D],?_⟩;refine⟨b,o+n.toNat*row.length,c,z!,F,?_,?_⟩;rw[e] at H;have:=zL H;rwa [B] at this
 rw[getD_eq l _ _ f];exact E
theorem xb(T:b9)(h:aP)(t:TypeId)(n:Option Int)(x y:AV):ve T h t n x y=gX T h t x y:=by
 unfold ve;grind[gX,SZ]
theorem fH {x:Prop}(h:∀p∈(x::l),p):x:=h _ (List.Mem.head _)
def aD5 {x y:Prop}(h:∀p∈(x::y::l),p):y:=h _ (List.Mem.tail _ (List.Mem.head _))
def Out.quiet(out:Out):Prop:=out.hX=[]/\out.del=[]/\out.new=[]
theorem aq.quiet(H:aq C A β st a w)(f:∀t,d=some t->t<st.n)(g:out.quiet)(h:aa w A β v out.res):
  aq C A β (st.put d out) (a.put d v) w:=by
 obtain⟨c,r,u,D,N,R⟩:=out;obtain⟨k,m,p⟩:=g;subst k m p;exact H.pure (c:=c) f h
def Reads(P:Program)(A:Nat->Prop)(β:Nat->Value)(w:World)(s:Sem Value)(out:Out):Prop:=out.quiet/\∃v,s.run P w= .ok v w/\aa w A β v out.res
theorem lX(f:aq C A β st a w){k:Nat}{row:M Ty}{l:M (Row row)}(h:st.h k=some (.row e row l fr)):
  (β k= .slice none 0 0/\l=[])\/∃b cap c,β k= .slice (some ⟨b,0,none⟩) l.length cap/\w.heap[b]? =some (.cells c e (0,0))/\l.length<=cap/\cap<=maxLen/\c.size=cap*row.length/\
    dZ (bJ w A row) (c.toList.take (l.length*row.length)) l/\(if fr then A b else ¬A b):=by
 obtain⟨xs,m,G,p⟩:=f.blocks k _ h;rcases m.2 with⟨H,I⟩|⟨g,cap,c,H,_,q,B,D,F,J⟩;grind;exact .inr ⟨g,cap,c,H,q,B,D,F,x!,p g (by rw[H];rfl)⟩
def JK(B:bM T P)(O:aq C A β st a w){i:AV}(f:aa w A β vx x)(hi:aa w A β vi i)
  (h:gX T st.h t x i=some out) (q:∀p∈out.cond,p):Reads P A β w (Instr.indexAt t vx vi) out:=by
 unfold gX at h;split at h
 . rename_i row l k n;cases H:bH T t row.length with
   |false=>grind
   |true=>
    simp only[H,cond_true,Option.some.injEq] at h;subst h;obtain⟨g,h1⟩:=fH q;obtain⟨e,I,hu,K,E,D⟩:=iF B H;simp only[aa] at f hi;obtain⟨b,o,cap,F,G⟩:=S8 (β:=β) row l vx n f g h1 x!;refine⟨⟨rfl,rfl,rfl⟩,_,?_,G⟩;grind[j6]
 . rename_i row l k n;cases H:bH T t row.length with
   |false=>grind
   |true=>
    simp only[H,cond_true,Option.some.injEq] at h;subst h;obtain⟨g,h1⟩:=fH q;obtain⟨e,I,hu,K,E,D⟩:=iF B H;simp only[aa] at f hi;obtain⟨b,o,cap,F,G⟩:=S8 (β:=β) row l vx n f.1 g h1 x!;refine⟨⟨rfl,rfl,rfl⟩,_,?_,G⟩;grind[j6]
 . rename_i k J n;split at h
   . rename_i R row l fr M;cases H:bH T t row.length with
     |false=>grind
     |true=>
      simp only[H,cond_true,Option.some.injEq] at h;subst h;obtain⟨g,h1⟩:=fH q;obtain⟨e,I,hu,K,E,D⟩:=iF B H;simp only[aa] at f hi;rcases lX O M with⟨_,S⟩|⟨b,cap,U,F,_⟩;grind;refine⟨⟨rfl,rfl,rfl⟩,.pointer (some ⟨b,0+n.toNat*row.length,none⟩),?_,?_⟩;simp_all[hi,j6]
      grind[aa]
   grind
 . rename_i k m J n;split at h
   . rename_i R row l fr M;cases H:bH T t row.length with
     |false=>grind
     |true=>
      simp only[H,K!,A!] at h;subst h;obtain⟨g,h1⟩:=fH q;obtain⟨e,I,hu,K,E,D⟩:=iF B H;simp only[aa] at f hi;rcases f with⟨_,_,S⟩|⟨b,V,cap,F,W,_⟩;omega;refine⟨⟨rfl,rfl,rfl⟩,.pointer (some ⟨b,0+n.toNat*row.length,none⟩),?_,?_⟩;simp_all[hi,j6]
      grind[aa]
   grind
 . rename_i k sz off m J n;cases H:bH T t sz with
   |false=>grind
   |true=>
    simp only[H,cond_true,Option.some.injEq] at h;subst h;obtain⟨g,h1⟩:=fH q;obtain⟨e,I,hu,K,E,D⟩:=iF B H;simp only[aa] at f hi;rcases f with⟨X,_⟩|⟨b,V,cap,j,F,W,_⟩;omega;refine⟨⟨rfl,rfl,rfl⟩,.pointer (some ⟨b,off*sz+n.toNat*sz,none⟩),?_,?_⟩;grind[j6];grind[aa,Nat.add_mul]
 . rename_i row l k n;split at h
   . rename_i m sz L;cases N:Nat.beq sz row.length with
     |false=>grind
     |true=>
      rw[N] at h;simp only[K!,A!] at h;subst h;have X:=fH q;have r:=D! N;obtain⟨g,h1⟩:=aD5 q;obtain⟨e,I,hu,K,E⟩:=S6 B L;simp only[aa] at f hi;obtain⟨b,o,cs,rfl,s,G,Y⟩:=f;have Z:n.toNat<l.length:=by omega
      obtain⟨u,c,v,y,z,Q,_,_⟩:=vj l cs n.toNat Z Y;refine⟨⟨rfl,rfl,rfl⟩,.pointer (some ⟨b,o+n.toNat*row.length,none⟩),?_,?_⟩;grind[EZ];grind[aa,zL,getD_eq]
   grind
 rename_i k off J n;split at h;rename_i m sz L;simp only[Option.some.injEq] at h;subst h;obtain⟨g,h1⟩:=fH q;obtain⟨e,I,hu,K,E⟩:=S6 B L;simp only[aa] at f hi;obtain⟨b,d,rfl⟩:=f;refine⟨⟨rfl,rfl,rfl⟩,.pointer (some ⟨b,off+n.toNat*sz,none⟩),?_,?_⟩;rw[hi.1,EZ hu K b off J n g h1,E];simp only[aa];exact⟨b,d,rfl⟩;grind;grind
def BV(F:bM T P)(N:aq C A β st a w)(g:aa w A β vx x)
  (h:ql T st.h t x=some out) (O:∀p∈out.cond,p):Reads P A β w (Instr.loadAt t vx) out:=by
 unfold ql at h;split at h;rename_i row x j;split at h;rename_i te q;split at h;rename_i r f;simp only[Option.some.injEq] at h;subst h;simp only[aa] at g;obtain⟨b,o,cs,rfl,R,H,B⟩:=g;obtain⟨v,D,G⟩:=lW (β:=β) F q (hZ row cs x B) f H;exact⟨⟨rfl,rfl,rfl⟩,v,D,G⟩;grind;grind;rename_i row l;split at h;rename_i te q;split at h;rename_i r f;simp only[Option.some.injEq] at h;subst h;simp only[aa] at g;obtain⟨b,o,cs,rfl,R,H,B⟩:=g;obtain⟨v,D,G⟩:=lW (β:=β) F q (S7 row l cs B) f H;exact⟨⟨rfl,rfl,rfl⟩,v,w!,G⟩;grind;grind;rename_i k off;split at h;rename_i te cs q I;split at h;rename_i r f;simp only[Option.some.injEq] at h;subst h;simp only[aa] at g;obtain⟨b,J,rfl⟩:=g;obtain⟨S,arr,e,D,G,_,U,_⟩:=N.blocks k _ I;rw[J] at D;simp at D;subst D
 have H:w.rangeAt b 0 arr.toList:=λj v V=>by
  grind[World.cell?]
 obtain⟨v,W,L⟩:=lW (β:=β) F q U f H;exact⟨⟨rfl,rfl,rfl⟩,v,x!,L⟩;grind;grind
 . rename_i k sz i j;split at h
   . rename_i te e row l fr q I;cases E:Nat.beq sz row.length with
     |false=>grind
     |true=>
      have E:=Nat.eq_of_beq_eq_true E;subst E;simp only[cY,cond_true] at h;split at h;rename_i r f;simp only[Option.some.injEq] at h;subst h;have hi:i<l.length:=fH O;obtain⟨b,m,cap,J,rfl⟩:=g;rcases lX N I with⟨_,s⟩|⟨S,u,M,B,y,_,_,z,X,_⟩;grind;rw[J] at B;simp at B;obtain⟨Y,_,_⟩:=B;subst Y;obtain⟨K,c,Q,Z,d,n,_,_⟩:=vj l _ i hi X
      have H:w.rangeAt b 0 (M.toList.take (l.length*row.length)):=λj v V=>by
       grind[World.cell?]
      rw[Z] at H;have H:=zL H;rw[d] at H;rw[getD_eq l _ _ hi] at f;obtain⟨v,W,L⟩:=lW (β:=β) F q (hZ row c _ n) f H;exact⟨⟨rfl,rfl,rfl⟩,v,x!,L⟩;grind
   grind
 grind
def LD(p:bM T P){f k:Nat}(h:Hi T s f=some (k,o)):∃F g,P.underlying s=some (.struct F)/\F[f]? =some g/\g.type=k/\g.offset=o:=by
 unfold Hi at h;cases H:T.find s with
 |none=>grind
 |some te=>
  simp[H] at h;cases hd:te.desc with
  |struct F=>
   simp[hd] at h;cases m:F[f]? with
   |none=>grind
   |some g=>
    simp[m,A!,Prod.mk.injEq] at h;exact⟨F,g,by rw[(p.ok s te H).1,hd],m,h.1,h.2⟩
  |_=>grind
def Yc(f:bM T P)(h:Hj T t=true):∃i,P.info? t=some i/\i.size≠0:=by
 unfold Hj at h;cases H:T.find t with
 |none=>grind
 |some te=>
  simp only[H] at h;obtain⟨_,i,g,k,_⟩:=f.ok t te H;have:=Nat.le_of_ble_eq_true h;grind
theorem zM {s f:Nat}{g:Array Field}{F:Field}(hu:P.underlying s=some (.struct g))(h:g[f]? =some F)(hi:P.info? F.type=some i)(H:i.size≠0)(b o:Nat):
  (Instr.fieldAt s (.pointer (some ⟨b,o,none⟩)) f).run P w= .ok (.pointer (some ⟨b,o+F.offset,none⟩)) w:=by
 simp[Instr.fieldAt,run_underlying hu,h,Instr.sureAddr,fieldPlace,sizeOf,typeInfo,hi,H,Addr.add_mid]
def JL(q:bM T P){s f:Nat}(k:aa w A β vx x)
  (h:xR T s f x=some out):Reads P A β w (Instr.fieldAt s vx f) out:=by
 unfold xR at h;split at h
 . rename_i F o D;obtain⟨I,J,p,H,e,E⟩:=LD q D;cases B:Hj T F with
   |false=>grind
   |true=>
    simp[B,cond_true] at h;obtain⟨i,g,d⟩:=Yc q B;rw[<-e] at g;split at h;simp at h;subst h;obtain⟨b,G,rfl⟩:=k;refine⟨⟨rfl,rfl,rfl⟩,_,zM p H g d b _,?_⟩;grind[aa];simp at h;subst h;obtain⟨b,O,cs,rfl,L,M,N⟩:=k;refine⟨⟨rfl,rfl,rfl⟩,_,zM p H g d b _,?_⟩;grind[aa,Nat.add_assoc];simp at h;subst h;obtain⟨b,m,cap,G,rfl⟩:=k;refine⟨⟨rfl,rfl,rfl⟩,_,zM p H g d b _,?_⟩;grind[aa,Nat.add_assoc];grind
 grind
def yE(g:bM T P)(k:T.find t=some te){cs:M AV}(H:ae w A β arr.toList cs)(h:pick te cs off=some r):
  ∃v,(part t arr off).run P w= .ok v w/\aa w A β v r:=by
 obtain⟨hu,i,hi,q,_,_⟩:=g.ok t te k;unfold pick at h;cases Y:te.desc.o0 with
 |true=>
  simp[Y,K!] at h;cases hle:Nat.ble (off+te.size) cs.length with
  |false=>grind
  |true=>
   simp[hle,Nat.ble_eq_true_of_le,K!,A!] at h;subst h
   have f:(isAgg t).run P w= .ok true w:=by
    unfold isAgg;rw[Sem.run_bind,run_underlying hu w];cases m:te.desc<;>simp_all[TypeDesc.o0]
   refine⟨.agg (arr.extract off (off+te.size)),?_,?_⟩;simp_all[part,sizeOf,typeInfo,hi]
   simp[aa];simp_all[my,Array.toList_extract,List.extract]
 |false=>
  simp[Y,N!] at h;obtain⟨v,B,p⟩:=xa cs _ off r H h
  have f:(isAgg t).run P w= .ok false w:=by
   unfold isAgg;rw[Sem.run_bind,run_underlying hu w];cases m:te.desc<;>simp_all[TypeDesc.o0]
  simp_all[part]
variable {n:Int}{d:Nat}{b:AB}{o:Oper}
def ğ(H:aq C A β st a w)(g:aa w A β vx x)(h:JG st.h x=some n):
  (∃f l c,vx= .slice f l c/\n=(l:Int)/\l<=maxLen)\/(∃s,x= .str s/\n=(s.length:Int)):=by
 unfold JG at h;grind[Option.some.injEq,aa,Rd,lX,trans,Value.slice.injEq]
theorem BW {k:IntKind}(h:lo k<=n/\n<=hi k):k.wrap n=n:=by
 cases k<;>simp[lo,hi] at h<;>simp[IntKind.wrap,IntKind.signed,IntKind.bits]<;>omega
def Ġ {k:IntKind}{c:Int}(h:rv k=some c):k.wrap n=n%c:=by
 cases k<;>simp[rv] at h<;>subst h<;>simp[IntKind.wrap,IntKind.signed,IntKind.bits]
def Yd {k:IntKind}{c:Int}(h:rv k=some c):lo k<=n%c/\n%c<=hi k:=by
 cases k<;>simp[rv] at h<;>subst h<;>simp[lo,hi]<;>omega
def rK {k:IntKind}{cs:M Prop}(h:wX k cs n=some out)(H:∀p∈out.cond,p):
  out.quiet/\aa w A β (.int k (k.wrap n)) out.res/\∀p∈cs,p:=by
 unfold wX at h;simp at h;subst h;unfold fit at H |-;cases g:rv k with
 |none=>
  refine⟨⟨rfl,rfl,rfl⟩,?_,λp f=>H p x!⟩;simp_all[BW,aa,trivial]
 |some c=>
  refine⟨⟨rfl,rfl,rfl⟩,?_,λp f=>H p x!⟩;simp_all[Ġ,aa,trivial,Yd]
variable {x:Operand}
theorem JM{k K:IntKind}{m:Int}:(eqGuard op t x y (.int k n) (.int K m)).run P w= .ok () w:=by
 simp_all[eqGuard]
theorem JN{s u:ByteArray}:(eqGuard op t x y (.string s) (.string u)).run P w= .ok () w:=by
 simp_all[eqGuard]
theorem FN{p q:Option Addr}{n m N M:Nat}:(eqGuard op t x y (.slice p n m) (.slice q N M)).run P w= .ok () w:=by
 simp_all[eqGuard]
def JO(w:World)(d:Nat)(t e:TypeId)(a:Option Addr)(n c N C:Nat)(h:P.underlying t=some (.slice e)):
  (Op.equalIn (d+1) t (.slice a n c) (.slice none N C)).run P w= .ok a.isNone w:=by
 cases a<;>simp[Op.equalIn,run_underlying h]
theorem Vh(w:World)(t e:TypeId)(a:Option Addr)(n c N C:Nat)(h:P.underlying t=some (.slice e)):
  (binOp .eql t (.slice a n c) (.slice none N C)).run P w= .ok (.bool a.isNone) w:=by
 simp_all[binOp,Op.equal,Op.maxDepth,JO]
theorem Hy{s u:Bool}:(eqGuard op t x y (.bool s) (.bool u)).run P w= .ok () w:=by
 simp_all[eqGuard]
def sN {k:IntKind}(f:lo k<=n)(h:∀p∈ET k n,p):0<=n:=by
 unfold ET at h;cases H:rv k with
 |none=>simp[H] at h;exact h _ z!
 |some c=>cases k<;>simp[rv] at H<;>simpa[lo] using f
def sO:IntKind->Nat
 |.i8=>7|.i16=>15|.i32=>31|.i64=>63|.u8=>8|.u16=>16|.u32=>32|.u64=>64
theorem toNat_lt {k:IntKind}(H:0<=n)(h:n<=hi k):n.toNat<2^sO k:=by
 cases k<;>simp[hi] at h<;>simp[sO]<;>omega
def ajE {k:IntKind}{n:Nat}(h:n<2^sO k):lo k<=(n:Int)/\(n:Int)<=hi k:=by
 cases k<;>simp[sO] at h<;>simp[lo,hi]<;>omega
def uj {k:IntKind}(H:0<=n)(h:n<=hi k):(BitVec.ofInt k.bits n).toNat=n.toNat:=by
 cases k<;>simp[hi] at h<;>simp[IntKind.bits]<;>omega
def NZ {k:IntKind}{m:Int}(f:Nat->Nat->Nat)(g:BitVec k.bits->BitVec k.bits->BitVec k.bits)(h:∀x y,(g x y).toNat=f x.toNat y.toNat)
  (B:∀a b,a<2^sO k->b<2^sO k->f a b<2^sO k) (H:lo k<=n/\n<=hi k) (p:lo k<=m/\m<=hi k) (q:0<=n) (h1:0<=m):
  k.wrap ((g (BitVec.ofInt k.bits n) (BitVec.ofInt k.bits m)).toNat:Int)=(f n.toNat m.toNat:Int)/\lo k<=(f n.toNat m.toNat:Int)/\(f n.toNat m.toNat:Int)<=hi k:=by
 rw[h,uj q H.2,uj h1 p.2];have:=ajE (B _ _ (toNat_lt q H.2) (toNat_lt h1 p.2));exact⟨BW this,this⟩
theorem E1(s:B8):(⟨s.toArray⟩:ByteArray).toList=s:=by
 simp_all
theorem BX(s:B8):(⟨s.toArray⟩:ByteArray).size=s.length:=by rfl
def ġ(s u:B8):(⟨s.toArray⟩:ByteArray)++⟨u.toArray⟩=⟨(s++u).toArray⟩:=by
 rfl
theorem N0 {x:AV}{p:Bool}(H:aa w A β v x)(h:wY x=some p):v= .bool p:=by cases x<;>simp_all[wY,aa]
theorem S9 {d:Nat}{E:TypeId->AV->AV->Option Bool}(H:bM T P)(m:∀t x y v u r,aa w A β v x->aa w A β u y->E t x y=some r->(Op.equalIn d t v u).run P w= .ok r w)
  {arr B:Array Value} {xs Y:M AV} (p:ae w A β arr.toList xs) (D:ae w A β B.toList Y):∀(F:M Field) (r:Bool),(F.all λf=>f.name != "_")=true->S0 T E xs Y F=some r->(Op.eqFields d arr B F).run P w= .ok r w
 |[],r,_,h=>by simp_all[S0,A!,Op.eqFields]
 |f::F,r,G,h=>by
  simp only[List.all_cons,Bool.and_eq_true] at G;have N:f.name≠ "_":=by grind
  simp[S0] at h;cases k:T.find f.type with
  |none=>grind
  |some te=>
   simp[k] at h;cases I:pick te xs f.offset with
   |none=>grind
   |some a=>cases J:pick te Y f.offset with
    |none=>grind
    |some b=>
     simp[I,J] at h;cases he:E f.type a b with
     |none=>grind
     |some q=>cases L:S0 T E xs Y F with
      |none=>grind
      |some Q=>
       simp[he,L,A!] at h;subst h;obtain⟨W,O,R⟩:=yE H k p I;obtain⟨X,S,U⟩:=yE H k D J;have e:=m _ _ _ _ _ _ R U he;have V:=S9 H m p D F Q G.2 L;simp[Op.eqFields,N,ne_eq,not_false_eq_true,Q?,Sem.run_bind,O,S,e,Result.andThen_ok];cases F with
       |nil=>
        cases q<;>simp[Op.eqFields]
       |cons g gs=>cases q<;>simp[V]
def Ta(H:bM T P):∀(n d:Nat) (t:TypeId) (x y:AV) (v u:Value) (r:Bool),n<=d->aa w A β v x->aa w A β u y->Lz T n t x y=some r->(Op.equalIn d t v u).run P w= .ok r w
 |0,_,_,_,_,_,_,_,_,_,_,h=>by grind[Lz]
 |n+1,0,_,_,_,_,_,_,hd,_,_,_=>by omega
 |n+1,d+1,t,x,y,v,u,r,hd,hx,f,h=>by
  simp[Lz] at h;cases g:T.find t with
  |none=>grind
  |some te=>
   simp[g] at h;obtain⟨hu,_⟩:=H.ok t te g;split at h;rename_i F J;split at h;obtain⟨arr,rfl,hx⟩:=hx;obtain⟨b,rfl,f⟩:=f;have k:=H.held t te g;rw[J] at k hu;have m:P.fieldsOf t=F:=by grind[Program.fieldsOf]
   rw[run_equalIn_struct w d t arr b x! k.1,m];exact S9 H (λt x y v u r G B D=>Ta H n d t x y v u r w! G B D) hx f _ _ k.2.2 h;grind;grind[Option.some.injEq,aa,run_equalIn_int];grind[Option.some.injEq,aa,run_equalIn_string,E1];rename_i J;rw[J] at hu;split at h;rename_i p q I L;simp at h;subst h;rw[N0 hx I,N0 f L,run_equalIn_bool' w d t _ _ hu];grind;grind
def Yf(g:bM T P){n:Nat}{xs y:M AV}{r:Bool}(h:Lz T n t (.agg xs) (.agg y)=some r):P.eqGuardType P.depth t=false:=by
 cases n with
 |zero=>grind[Lz]
 |succ n=>
  simp[Lz] at h;cases H:T.find t with
  |none=>grind
  |some te=>
   simp[H] at h;have f:=g.held t te H;split at h;rename_i F J;rw[J] at f;exact f.2.1;cases h;cases h;grind[wY];grind
theorem JQ{p q:Option Addr}:(eqGuard op t x y (.pointer p) (.pointer q)).run P w= .ok () w:=by
 simp_all[eqGuard]
def MU(w:World)(d:Nat)(t e:TypeId)(p:Option Addr)(h:P.underlying t=some (.pointer e)):
  (Op.equalIn (d+1) t (.pointer p) (.pointer none)).run P w= .ok p.isNone w:=by
 cases p<;>simp[Op.equalIn,run_underlying h]
variable {x y:AV}
def ajG(m:bM T P){o O:Operand}(H:aa w A β vx x)(f:aa w A β vy y)
  (h:Ė T t op x y=some out):Reads P A β w (do eqGuard op t o O vx vy;binOp op t vx vy) out:=by
 unfold Ė at h;split at h
 . rename_i b g
   obtain⟨p,rfl,D⟩:∃p,vx= .pointer p/\p.isNone=b:=by
    cases x<;>simp only[aD2,A!,reduceCtorEq] at g<;>subst g<;>simp only[aa] at H;exact⟨_,H,rfl⟩;obtain⟨b,_,q⟩:=H;exact⟨_,q,rfl⟩
   simp only[aa] at f;subst f;cases hd:cW T t U8 with
   |false=>grind
   |true=>
    simp only[hd,K!] at h
    obtain⟨e,B⟩:∃e,P.underlying t=some (.pointer e):=by
     unfold cW at hd;cases k:T.find t with
     |none=>grind
     |some te=>
      simp only[k] at hd;rw[(m.ok t te k).1];cases F:te.desc<;>simp_all[U8]
    have r:=MU w 9999 t e p B;unfold Reads;simp only[Sem.run_bind,JQ,Result.andThen_ok];split at h;simp only[Option.some.injEq] at h;subst h;refine⟨⟨rfl,rfl,rfl⟩,.bool p.isNone,?_,?_⟩;simp_all[binOp,Op.equal,Op.maxDepth]
    cases b<;>simp_all[aa];simp only[A!] at h;subst h;refine⟨⟨rfl,rfl,rfl⟩,.bool (!p.isNone),?_,?_⟩;simp_all[binOp,Op.equal,Op.maxDepth]
    cases b<;>simp_all[aa];grind
 cases h
set_option maxHeartbeats 1000000 in
def ģ(U:bM T P){o i:Operand}(B:aa w A β vx x)(D:aa w A β vy y)
  (h:U9 T t op x y=some out) (H:∀p∈out.cond,p):Reads P A β w (do eqGuard op t o i vx vy;binOp op t vx vy) out:=by
 unfold U9 at h;split at h
 . rename_i k n K m;simp only[aa] at B D;obtain⟨rfl,F⟩:=B;obtain⟨rfl,M⟩:=D;unfold Reads;simp only[Sem.run_bind,JM,Result.andThen_ok];split at h;obtain⟨J,I,C⟩:=rK (w:=w) (A:=A) (β:=β) h H;obtain⟨f,g⟩:=fH C;refine⟨J,_,?_,I⟩;have N:¬m<0:=by omega
   have O:min m.toNat k.bits=m.toNat:=by
    cases k<;>simp[bitsOf] at g<;>simp[IntKind.bits]<;>omega
   simp[binOp,Op.shift,N,O];simp only[A!] at h;subst h;obtain⟨f,g⟩:=fH H;have N:¬m<0:=by omega
   have O:min m.toNat k.bits=m.toNat:=by
    cases k<;>simp[bitsOf] at g<;>simp[IntKind.bits]<;>omega
   refine⟨⟨rfl,rfl,rfl⟩,.int k (n/2^m.toNat),?_,?_⟩;simp only[binOp,Op.shift,N,O,if_false,Sem.run_pure];grind;simp only[aa];have G:(1:Int)<=2^m.toNat:=Int.pow_pos w!;refine⟨trivial,?_,?_⟩;have V:lo k<=0:=by cases k<;>simp[lo]
   rcases Int.le_total 0 n with R|R;exact Int.le_trans V (Int.ediv_nonneg R w!)
   have :n<=n/2^m.toNat:=by
    rw[Int.le_ediv_iff_mul_le w!];have:=Int.mul_le_mul_of_nonpos_left R G;omega
   omega;have V:0<=hi k:=by cases k<;>simp[hi]
   rcases Int.le_total 0 n with R|R;have :n/2^m.toNat<=n:=Int.ediv_le_self _ R;omega;have :n/2^m.toNat<=0:=Int.ediv_nonpos_of_nonpos_of_neg R w!;omega
   . rename_i Q Vi;by_cases Z:k=K
     . subst Z;simp only[Q?] at h
       have L:binOp op t (.int k n) (.int k m)=match op with
         |.add|.sub|.mul=>Op.intArith op k n m
         |.quo|.rem=>Op.intDiv op k n m
         |.and|.or|.xor|.andNot=>Op.intBits op k n m
         |_=>Op.intCmp op n m:=by
        cases op<;>first|exact absurd rfl Q|exact absurd rfl Vi|simp[binOp]
       rw[L];split at h;obtain⟨J,I,_⟩:=rK (w:=w) (A:=A) (β:=β) h H;simp_all[Op.intArith]
       obtain⟨J,I,_⟩:=rK (w:=w) (A:=A) (β:=β) h H;simp_all[Op.intArith]
       obtain⟨J,I,_⟩:=rK (w:=w) (A:=A) (β:=β) h H;simp_all[Op.intArith]
       simp only[Option.some.injEq] at h;subst h;have f:0<=n:=sN F.1 (λp G=>H p x!);have g:0<m:=H _ z!;have j:¬m=0:=by omega
       have V:0<=n/m:=Int.ediv_nonneg f w!;have v:n/m<=n:=Int.ediv_le_self _ f;have Vj:lo k<=0:=by cases k<;>simp[lo]
       have I:lo k<=n/m/\n/m<=hi k:=⟨w!,w!⟩;refine⟨⟨rfl,rfl,rfl⟩,.int k (n/m),?_,by simp_all[aa,trivial]⟩;simp_all[Op.intDiv,r?,Int.tdiv_eq_ediv_of_nonneg,BW,Sem.run_pure]
       simp only[Option.some.injEq] at h;subst h;have f:0<=n:=sN F.1 (λp G=>H p x!);have g:0<m:=H _ z!;have j:¬m=0:=by omega
       have V:0<=n%m:=Int.emod_nonneg _ j
       have v:n%m<=n:=by
        have E:=Int.emod_def n m;have S:0<=m*(n/m):=Int.mul_nonneg w! (Int.ediv_nonneg f w!);omega
       have Vj:lo k<=0:=by cases k<;>simp[lo]
       have I:lo k<=n%m/\n%m<=hi k:=⟨w!,w!⟩;refine⟨⟨rfl,rfl,rfl⟩,.int k (n%m),?_,by simp_all[aa,trivial]⟩;simp_all[Op.intDiv,r?,Int.tmod_eq_emod_of_nonneg,Sem.run_pure]
       simp only[Option.some.injEq] at h;subst h;have f:0<=n:=sN F.1 (λp G=>H p x!);have g:0<=m:=sN M.1 (λp G=>H p x!);obtain⟨E,S⟩:=NZ (k:=k) (· &&& ·) (· &&& ·) (λx y=>BitVec.toNat_and x y) (λa b W L=>Nat.lt_of_le_of_lt Nat.and_le_left W) F M f g;exact⟨⟨rfl,rfl,rfl⟩,_,by simp only[Op.intBits,Sem.run_pure,E];rfl,by simp only[aa];exact⟨rfl,S⟩⟩;simp only[Option.some.injEq] at h;subst h;have f:0<=n:=sN F.1 (λp G=>H p x!);have g:0<=m:=sN M.1 (λp G=>H p x!);obtain⟨E,S⟩:=NZ (k:=k) (· ||| ·) (· ||| ·) (λx y=>BitVec.toNat_or x y) (λa b W L=>Nat.or_lt_two_pow W L) F M f g;exact⟨⟨rfl,rfl,rfl⟩,_,by simp only[Op.intBits,Sem.run_pure,E];rfl,by simp only[aa];exact⟨rfl,S⟩⟩;simp only[Option.some.injEq] at h;subst h;have f:0<=n:=sN F.1 (λp G=>H p x!);have g:0<=m:=sN M.1 (λp G=>H p x!);obtain⟨E,S⟩:=NZ (k:=k) (· ^^^ ·) (· ^^^ ·) (λx y=>BitVec.toNat_xor x y) (λa b W L=>Nat.xor_lt_two_pow W L) F M f g;exact⟨⟨rfl,rfl,rfl⟩,_,by simp only[Op.intBits,Sem.run_pure,E];rfl,by simp only[aa];exact⟨rfl,S⟩⟩;simp only[Option.some.injEq] at h;subst h;exact⟨⟨rfl,rfl,rfl⟩,.bool (decide (n=m)),by rfl,by rfl⟩;simp only[Option.some.injEq] at h;subst h;exact⟨⟨rfl,rfl,rfl⟩,.bool (!decide (n=m)),by rfl,by rfl⟩;simp only[Option.some.injEq] at h;subst h;exact⟨⟨rfl,rfl,rfl⟩,.bool (decide (n<m)),by rfl,by rfl⟩;simp only[Option.some.injEq] at h;subst h;exact⟨⟨rfl,rfl,rfl⟩,.bool (decide (n<=m)),by rfl,by rfl⟩;simp only[Option.some.injEq] at h;subst h;exact⟨⟨rfl,rfl,rfl⟩,.bool (decide (m<n)),by rfl,by rfl⟩;simp only[Option.some.injEq] at h;subst h;exact⟨⟨rfl,rfl,rfl⟩,.bool (decide (m<=n)),by rfl,by rfl⟩;grind
     grind
 . rename_i s u;simp only[aa] at B D;obtain⟨rfl,F⟩:=B;obtain⟨rfl,M⟩:=D;unfold Reads;simp only[Sem.run_bind,JN,Result.andThen_ok];have L:binOp op t (.string ⟨s.toArray⟩) (.string ⟨u.toArray⟩)=Op.stringOp op ⟨s.toArray⟩ ⟨u.toArray⟩:=by cases op<;>rfl
   have c:(s==u)=decide (s=u):=by
    grind
   rw[L];split at h;simp only[A!] at h;subst h;have f:=fH H;refine⟨⟨rfl,rfl,rfl⟩,.string ⟨(s++u).toArray⟩,?_,?_⟩;simp_all[IntKind.max,IntKind.signed,IntKind.bits,Op.stringOp,BX,ġ]
   simp only[aa];refine⟨trivial,?_⟩;grind[List.length_append,maxLen];all_goals first|(simp only[Option.some.injEq] at h;subst h;exact⟨⟨rfl,rfl,rfl⟩,_,by simp only[Op.stringOp,Sem.run_pure,E1,c];rfl,by rfl⟩)|cases h
 . rename_i r rs l;cases hd:cW T t nH with
   |false=>grind
   |true=>
    simp only[hd,K!] at h
    obtain⟨e,Y⟩:∃e,P.underlying t=some (.slice e):=by
     unfold cW at hd;cases X:T.find t with
     |none=>grind
     |some te=>
      simp only[X] at hd;rw[(U.ok t te X).1];cases FO:te.desc<;>simp_all[nH]
    simp only[aa,Rd] at B D;obtain⟨z,cap,cs,rfl,g,V,v,h4⟩:=B;subst D;split at h
    . simp only[Option.some.injEq] at h;subst h;unfold Reads;simp only[Sem.run_bind,FN,Result.andThen_ok];refine⟨⟨rfl,rfl,rfl⟩,.bool z.isNone,Vh w t e z _ _ _ _ Y,?_⟩;simp only[aa];refine⟨_,rfl,λF=>?_⟩;cases l with
      |nil=>rfl
      |cons x l=>
       grind[dZ,bJ]
    grind
 rename_i xs ys;split at h;rename_i r I;have hg:=Yf U I;have J:=Ta (w:=w) (A:=A) (β:=β) U 8 10000 t _ _ _ _ r w! B D I;simp only[aa] at B D;obtain⟨arr,rfl,B⟩:=B;obtain⟨d,rfl,D⟩:=D;unfold Reads;simp only[Sem.run_bind,run_eqGuard_agg w op t o i arr d hg,Result.andThen_ok];split at h;simp only[Option.some.injEq] at h;subst h;exact⟨⟨rfl,rfl,rfl⟩,_,by rw[run_eql_struct,J];rfl,by rfl⟩;simp only[Option.some.injEq] at h;subst h;exact⟨⟨rfl,rfl,rfl⟩,_,by rw[run_neq_struct,J];rfl,by rfl⟩;grind;grind
 . rename_i Sk hy1 hz1;split at h
   . rename_i p q G J;have ex:vx= .bool p:=by cases x<;>simp_all[wY,aa]
     have ey:vy= .bool q:=by cases y<;>simp_all[wY,aa]
     subst ex;subst ey;unfold Reads;simp only[Sem.run_bind,Hy,Result.andThen_ok];cases hd:cW T t NS with
     |false=>grind
     |true=>
      simp only[hd,K!] at h
      have Y:P.underlying t=some .bool:=by
       unfold cW at hd;cases X:T.find t with
       |none=>grind
       |some te=>
        simp only[X] at hd;rw[(U.ok t te X).1];grind[NS]
      split at h;simp only[Option.some.injEq] at h;subst h;exact⟨⟨rfl,rfl,rfl⟩,.bool (p==q),run_eql_bool w t p q Y,by rfl⟩;simp only[Option.some.injEq] at h;subst h;exact⟨⟨rfl,rfl,rfl⟩,.bool (!(p==q)),run_neq_bool w t p q Y,by rfl⟩;grind
   exact ajG U B D h
theorem N1(sz j:Nat):∀(k:Nat) (cs:M AV) (i:Nat),i<k->(every sz j k cs)[i]? =some (cs.getD (i*sz+j) .db)
 |k+1,cs,0,_=>by simp[every]
 |k+1,cs,i+1,h=>by
  simp[every,y?];rw[N1 sz j k (cs.drop sz) i w!];simp;rw[show sz+(i*sz+j)=(i+1)*sz+j by rw[q?];omega]
theorem Hz:∀(l:M AV) (k:IntKind) (n:U),Hr l=some (k,n)->∀(i:Nat) (a:AV),l[i]? =some a->a= .int k (n.getD i 0)
 |[],k,n,h,i,a,hi=>by grind
 |x::r,k,n,h,i,a,hi=>by
  unfold Hr at h;split at h
  . split at h
    . obtain⟨rfl,rfl⟩:=h;cases i with
      |zero=>simp at hi;subst hi;simp
      |succ i=>simp at hi
    . split at h
      . rename_i K l H;split at h
        . rename_i f;subst f;obtain⟨rfl,rfl⟩:=h;cases i with
          |zero=>simp at hi;subst hi;simp
          |succ i=>
           have:=Hz _ _ _ H i a hi;rw[this];simp[List.getD]
        cases h
      cases h
  cases h
def BY {sz k:Nat}{cs:M AV}{n:Int}(H:n.toNat<k):∀(m:Nat) (v:M AV),Ht sz k cs n m=some v->v.length=m/\∀j,j<m->v[j]? =some (cs.getD (n.toNat*sz+j) .db)
 |0,v,h=>by grind[Ht,Option.some.injEq]
 |m+1,v,h=>by
  simp only[Ht] at h;split at h;rename_i u K l f p;simp only[Option.some.injEq] at h;obtain⟨G,q⟩:=BY H m u f;refine⟨x!,λj B=>?_⟩;by_cases g:j<m;grind;have :j=m:=by omega
  grind[Hz,N1];grind
def Yg(H:bM T P){k:Nat}{E:TE}(h:NU T t=some (k,E)):∃e i,P.underlying t=some (.array k e)/\T.find e=some E/\P.info? e=some i/\i.size=E.size:=by
 unfold NU at h;split at h;rename_i te j;obtain⟨g,_⟩:=H.ok t te j;split at h;rename_i K e m;split at h;rename_i f x;obtain⟨_,i,p,q,_⟩:=H.ok e f x;grind;grind;grind;grind
theorem MW(H:bM T P){cs:M AV}{G:IntKind}(g:ae w A β arr.toList cs)(hi:vi= .int G n)
  (h:zG T t cs n=some out) (m:∀p∈out.cond,p):Reads P A β w (Instr.index t (.agg arr) vi) out:=by
 unfold zG at h;split at h
 . rename_i k E I;cases q:Nat.beq cs.length (k*E.size) with
   |false=>grind
   |true=>
    rw[q] at h;simp only[K!] at h;have hlen:=D! q;obtain⟨e,i,S,x,J,U⟩:=Yg H I
    have W:∀(B:0<=n) (D:n<(k:Int)),(Instr.index t (.agg arr) vi).run P w=(part e arr (n.toNat*E.size)).run P w:=by
     simp_all[hi,Instr.index,asIntOf,run_underlying,sizeOf,typeInfo]
    split at h
    . rename_i L F;cases V:E.desc.o0 with
      |true=>
       rw[V] at h;simp only[K!,A!] at h;subst h;obtain⟨B,D⟩:=fH m;obtain⟨N,O⟩:=BY w! _ _ F
       have hle:n.toNat*E.size+E.size<=cs.length:=by
        rw[hlen,<-Nat.succ_mul];exact I? _ w!
       have f:pick E cs (n.toNat*E.size)=some (.agg L):=by
        unfold pick;rw[V,cond_true,show Nat.ble (n.toNat*E.size+E.size) cs.length=true from Nat.ble_eq_true_of_le hle,cond_true];congr 2
        refine List.ext_getElem? λj=>?_;grind
       obtain⟨v,R,K⟩:=yE H x g f;exact⟨⟨rfl,rfl,rfl⟩,v,x!,K⟩
      |false=>
       rw[V] at h;simp only[cond_false] at h;split at h;rename_i a;simp only[Option.some.injEq] at h;subst h;obtain⟨B,D⟩:=fH m;obtain⟨N,O⟩:=BY w! _ _ F;have X:E.size=1:=by grind
       have f:pick E cs (n.toNat*E.size)=some a:=by
        simp_all[pick,N!,Z?,A!,Nat.add_zero,C!,List.getD]
       obtain⟨v,R,K⟩:=yE H x g f;exact⟨⟨rfl,rfl,rfl⟩,v,x!,K⟩;grind
    grind
 grind
theorem uS(n:Int):∀K,NV n K=true↔n∈K
 |[]=>by simp[NV]
 |k::r=>by simp[NV,uS n r]
theorem BZ(n:Int):∀K,zH n K↔n∉K
 |[]=>by simp[zH]
 |k::r=>by simp[zH,BZ n r]
def sr(n:Int):∀(es:M MapEntry) (K:U) (i:Nat),es.map (·.key)=K.map (Value.int .i64)->n∉K->Instr.findNow (.int .i64) (.int .i64 n) es i=some none
 |[],_,_,_,_=>rfl
 |e::es,[],_,h,_=>by grind
 |e::es,k::K,i,h,H=>by
  simp at h;have hk:n≠k:=λq=>H (by rw[q];exact G! ..)
  have f:Instr.sameNow (.int .i64) (.int .i64 n) e.key=some false:=by
   rw[h.1];simp[Instr.sameNow,hk]
  simp[Instr.findNow,f];exact sr n es K (i+1) h.2 (λq=>H (F! _ q))
def B0(n:Int):∀(es:M MapEntry) (K:U) (i j:Nat),es.map (·.key)=K.map (Value.int .i64)->gY K=true->K[j]? =some n->
  ∃e,es[j]? =some e/\Instr.findNow (.int .i64) (.int .i64 n) es i=some (some (i+j,e.val))
 |[],[],_,j,_,_,H=>by grind
 |[],_::_,_,_,h,_,_=>by grind
 |e::es,[],_,_,h,_,_=>by grind
 |e::es,k::K,i,j,h,hd,H=>by
  simp at h;simp[gY,B!,K?] at hd;cases j with
  |zero=>
   have f:Instr.sameNow (.int .i64) (.int .i64 k) e.key=some true:=by
    grind[Instr.sameNow]
   exact⟨e,rfl,by grind[Instr.findNow]⟩
  |succ j=>
   have g:n≠k:=by
    grind[List.mem_of_getElem?,uS]
   have f:Instr.sameNow (.int .i64) (.int .i64 n) e.key=some false:=by
    grind[Instr.sameNow]
   obtain⟨E,m,p⟩:=B0 n es K (i+1) j h.2 hd.2 H;grind[Instr.findNow]
def xc:∀(K:U),gY K=true↔K.Nodup
 |[]=>by simp[gY]
 |k::r=>by
  simp only[gY,B!,K?,List.nodup_cons,xc r];rw[<-uS,Bool.not_eq_true]
def FP {g:Type}{f:α->g}{m k:M g}(h:m.Perm k):∀(l:M α),k=l.map f->∃L:M α,L.Perm l/\m=L.map f:=by
 induction h with
 |nil=>exact λl h=>⟨[],by simp_all,rfl⟩
 |cons x _ B=>
  intro l H;cases l with
  |nil=>cases H
  |cons a l=>
   simp only[G?,List.cons.injEq] at H;obtain⟨L,p,q⟩:=B l H.2;exact⟨a::L,p.cons a,by rw[G?,q,H.1]⟩
 |swap x y N=>
  intro l H;match l,H with
  |a::b::r,H=>
   simp only[G?,List.cons.injEq] at H;exact⟨b::a::r,.swap a b r,by simp[H.1,H.2.1,H.2.2]⟩
 |trans _ _ i I=>
  intro l H;obtain⟨D,P,Q⟩:=I l H;obtain⟨F,G,J⟩:=i D Q;exact⟨F,G.trans P,J⟩
def Yh{k:U}(h:Ey.Perm es)(f:es.map (·.key)=k.map (Value.int .i64)):∃H:U,H.Perm k/\Ey.map (·.key)=H.map (Value.int .i64):=
 FP (h.map (·.key)) k f
def perm_keys{k:U}(f:Ey.Perm es)(g:es.map (·.key)=k.map (Value.int .i64))(m:n∉k):∃H:U,Ey.map (·.key)=H.map (Value.int .i64)/\n∉H:=by
 obtain⟨H,p,q⟩:=Yh f g;exact⟨H,q,λh=>m (p.mem_iff.1 h)⟩
def Sl(n:Int){k:U}(g:Ey.Perm es)(hk:es.map (·.key)=k.map (Value.int .i64))(B:gY k=true)(D:k[j]? =some n):
  ∃e,es[j]? =some e/\∃i,Instr.findNow (.int .i64) (.int .i64 n) Ey 0=some (some (i,e.val)):=by
 obtain⟨H,p,q⟩:=Yh g hk;obtain⟨e,h1,_⟩:=B0 n es k 0 j hk B D;refine⟨e,h1,?_⟩
 have he:e.key= .int .i64 n:=by
  have :(es.map (·.key))[j]? =(k.map (Value.int .i64))[j]? :=by rw[hk]
  simpa[A?,h1,D] using this
 obtain⟨i,hi,f⟩:=l? (g.mem_iff.2 (W! h1));have G:Ey[i]? =some e:=by rw[C! hi,f]
 have Y:H[i]? =some n:=by
  have :(Ey.map (·.key))[i]? =(H.map (Value.int .i64))[i]? :=by rw[q]
  rw[A?,G,A?] at this;cases h:H[i]? with
  |none=>rw[h] at this;cases this
  |some m=>rw[h] at this;simp[he] at this;rw[this]
 obtain⟨E,F,I⟩:=B0 n Ey H 0 i q ((xc _).2 (p.nodup_iff.2 ((xc _).1 B))) Y;rw[G] at F;cases F;exact⟨_,I⟩
def N2:∀(f:M AV) (V:M Value) (i:Nat) (x:AV) (v:Value),ae w A β V f->f[i]? =some x->V[i]? =some v->aa w A β v x
 |[],_,i,x,v,_,h,_=>by grind
 |a::f,V,i,x,v,h,hx,H=>by
  obtain⟨u,c,rfl,g,k⟩:=h;cases i with
  |zero=>
   simp at hx H;rw[<-hx,<-H];exact g
  |succ i=>exact N2 f c i x v k (by simpa using hx) (by simpa using H)
theorem Sm(q:bM T P){ok:Bool}{K:U}{cs:M AV}{J:Nat}{v:Value}(L:aa w A β v (.jR K cs))
  (h:FJ T J t ok K cs n=some out) (N:∀p∈out.cond,p):Reads P A β w (Instr.lookup t v (.int .i64 n) ok) out:=by
 simp only[aa] at L;obtain⟨b,es,C,rfl,u,⟨Ey,O,R⟩,S,X⟩:=L;unfold FJ at h;split at h
 . rename_i te j;obtain⟨hu,_⟩:=q.ok t te j;split at h
   . rename_i g V hd;rw[hd] at hu;cases m:(cW T g xU&&gY K) with
     |false=>grind
     |true=>
     rw[m] at h;simp only[K!] at h;simp only[B!] at m
     have y:P.underlying g=some (.int .i64):=by
      have W:=m.1;unfold cW at W;split at W;rename_i Y Z;obtain⟨a,_⟩:=q.ok g Y Z;grind[xU];grind
     have H:∀e,(Instr.checkKey e 10000 g (.int .i64 n)).run P w= .ok () w:=λe=>MapKept.run_checkKey y (by rfl) e 9999;split at h;rename_i k c d B;simp only[Option.some.injEq] at h;subst h;have D:n=k:=N _ (List.mem_cons_self ..);subst D;obtain⟨e,z,Q,F⟩:=Sl n R S m.2 d;have f:=N2 cs _ J c e.val X B x!;refine⟨⟨rfl,rfl,rfl⟩,(if ok then .tuple #[e.val,.bool true] else e.val),?_,?_⟩;simp[Instr.lookup,run_underlying hu,MapKept.run_getObj_map O,H,MapKept.run_findKey y F,Result.andThen];cases ok;grind;simp only[cond_true,if_true,aa];exact⟨_,rfl,by simp only[ae];exact⟨_,_,rfl,f,_,_,rfl,by rfl,rfl⟩⟩
     . split at h
       . rename_i E x;cases hz:Ę E.zero with
         |false=>grind
         |true=>
         rw[hz] at h;simp only[K!,A!] at h;subst h;have D:n∉K:=(BZ n K).1 (N _ (G! ..));obtain⟨l,o,G⟩:=perm_keys R S D;have F:=sr n Ey.toList l 0 o G;obtain⟨_,i,hi,_,_,r⟩:=q.ok V E x
         have s:E.zero= .nilFunc:=by
          grind[Ę]
         have I:(zeroValue V).run P w= .ok .nilFunc w:=by
          simp_all[zeroValue,typeInfo,hi]
         refine⟨⟨rfl,rfl,rfl⟩,(if ok then .tuple #[.nilFunc,.bool false] else .nilFunc),?_,?_⟩;simp[Instr.lookup,run_underlying hu,MapKept.run_getObj_map O,H,MapKept.run_findKey y F,I,Result.andThen];cases ok;rfl;exact⟨_,rfl,by simp only[ae];exact⟨_,_,rfl,by simp[aa],_,_,rfl,by simp[aa],rfl⟩⟩
       grind
   grind
 grind
def ajI {op:UnOp}(H:aa w A β vx x)(h:ė op x=some out)(m:∀p∈out.cond,p):Reads P A β w (Op.unary op vx) out:=by
 unfold ė at h;split at h;split at h;simp at h;subst h;subst H;exact⟨⟨rfl,rfl,rfl⟩,_,rfl,by rfl⟩;grind;split at h;simp at h;subst h;subst H;exact⟨⟨rfl,rfl,rfl⟩,_,rfl,by rfl⟩;grind;split at h;simp at h;subst h;subst H;exact⟨⟨rfl,rfl,rfl⟩,_,rfl,by rfl⟩;grind
 . rename_i k n;obtain⟨rfl,f⟩:=H;split at h;obtain⟨q,g,_⟩:=rK (w:=w) (A:=A) (β:=β) h m;exact⟨q,.int k (k.wrap (0-n)),by rfl,g⟩
   . cases hk:rv k with
     |none=>grind
     |some c=>
      simp[hk,A!] at h;subst h;have G:k.signed=false:=by cases k<;>simp[rv] at hk<;>rfl
      have B:0<=n:=by cases k<;>simp[rv] at hk<;>simpa[lo] using f.1
      have D:c-1=hi k:=by cases k<;>simp[rv] at hk<;>subst hk<;>rfl
      have H:(c-1-n)=k.wrap ((BitVec.ofInt k.bits (hi k)^^^BitVec.ofInt k.bits n).toNat:Int):=by
       rw[BitVec.toNat_xor,uj w! (Int.le_refl _),uj B f.2]
       have e:(hi k).toNat^^^n.toNat=(hi k).toNat-n.toNat:=by
        have E:(hi k).toNat=2^sO k-1:=by cases k<;>simp[rv] at hk<;>rfl
        rw[E];apply Nat.eq_of_testBit_eq;grind[Nat.lt_or_ge,Nat.testBit_lt_two_pow,Nat.lt_of_lt_of_le,Nat.pow_le_pow_right]
       have g:lo k<=(((hi k).toNat-n.toNat:Nat):Int)/\(((hi k).toNat-n.toNat:Nat):Int)<=hi k:=by
        have :lo k=0:=by cases k<;>simp[rv] at hk<;>rfl
        omega
       grind[BW]
      have a:lo k<=c-1-n/\c-1-n<=hi k:=by
       have :lo k=0:=by cases k<;>simp[rv] at hk<;>rfl
       omega
      refine⟨⟨rfl,rfl,rfl⟩,.int k (c-1-n),?_,by simp_all[aa,trivial]⟩;have F:k.max=hi k:=by cases k<;>simp[rv] at hk<;>rfl
      simp_all[Op.unary,Op.intBits,c?,r?,Sem.run_pure]
   grind
 grind
def HC(s:B8)(x y:Nat)(h:y<=s.length):(⟨s.toArray⟩:ByteArray).extract x y=⟨((s.take y).drop x).toArray⟩:=by
 apply ByteArray.ext;grind[Array.ext',ByteArray.data_extract,List.drop_take]
def run_sliceBound {k:IntKind}{y:Nat}{c:BoundsCode}(h:0<=n)(H:n<=(y:Int)):(Instr.sliceBound (.int k n) y c).run P w= .ok n.toNat w:=by
 simp_all[Instr.sliceBound,asIntOf]
def fQ:Option Int->Nat
 |none=>0
 |some a=>a.toNat
def bF(l:Nat):Option Int->Nat
 |none=>l
 |some b=>b.toNat
def avX(w:World)(A:Nat->Prop)(β:Nat->Value):Option AV->Option Value->Prop
 |none,none=>True
 |some x,some v=>aa w A β v x
 |_,_=>False
theorem iG {x:Option AV}{n:Option Int}{v:Option Value}(h:wZ x=some n)(H:avX w A β x v):
  (n=none/\v=none)\/∃k m,n=some m/\v=some (.int k m):=by
 cases x with
 |none=>
  grind[wZ,avX]
 |some x=>
  cases v with
  |none=>grind[avX]
  |some v=>
   cases x with
   |int k m=>
    grind[wZ,Option.some.injEq,avX,aa]
   |_=>grind[wZ]
def nJ {s:Bool}{l:Nat}{L h:Option Int}{vl vh:Option Value}(g:(L=none/\vl=none)\/∃k m,L=some m/\vl=some (.int k m))(p:(h=none/\vh=none)\/∃k m,h=some m/\vh=some (.int k m))
  (H:l<=cap) (f:∀m,h=some m->0<=m/\m<=(l:Int)) (q:∀m,L=some m->0<=m/\m<=(bF l h:Int)):
  (Instr.sliceBounds s l cap vl vh none).run P w= .ok (fQ L,bF l h,cap) w:=by
 rcases g with⟨rfl,rfl⟩|⟨k,m,rfl,rfl⟩<;>rcases p with⟨rfl,rfl⟩|⟨K,M,rfl,rfl⟩;rfl;obtain⟨g0,G⟩:=f M rfl;simp[Instr.sliceBounds,fQ,bF,run_sliceBound (P:=P) (w:=w) (k:=K) g0 (show M<=(cap:Int) by omega)];simp_all[bF,Instr.sliceBounds,fQ,run_sliceBound]
 obtain⟨g0,G⟩:=f M rfl;obtain⟨f0,f1⟩:=q m rfl;simp only[bF] at f1;simp[Instr.sliceBounds,fQ,bF,run_sliceBound (P:=P) (w:=w) (k:=K) g0 (show M<=(cap:Int) by omega),run_sliceBound (P:=P) (w:=w) (k:=k) f0 f1]
theorem zN {row:M Ty}{l:M (Row row)}(h:Rd w A (.slice row) v l):∃a cap,v= .slice a l.length cap/\l.length<=cap/\cap<=maxLen:=by
 grind[Rd]
theorem Yj {row:M Ty}{a:Option Addr}{L cap:Nat}{l:M (Row row)}(h:Rd w A (.slice row) (.slice a L cap) l)(x y:Nat)(p:x<=y)(q:y<=l.length)(J:Option Addr)
  (B:x<cap->J=a.map (·.add (x*row.length))):Rd w A (.slice row) (.slice J (y-x) (cap-x)) ((l.take y).drop x):=by
 obtain⟨D,f,cs,g,F,G,k,I⟩:=h;obtain⟨rfl,rfl,rfl⟩:=g;have m:=gK (w:=w) (A:=A) l cs y k;have V:=gK (w:=w) (A:=A) (l.take y) _ x m.1;have H:((l.take y).drop x).length=y-x:=by grind
 refine⟨J,cap-x,((cs.take (y*row.length)).drop (x*row.length)),x!,w!,w!,V.2,λd=>?_⟩;have e:cs≠ []:=by grind
 grind[avE,kC,Addr.add_mid]
theorem JS(h:P.underlying t=some .string)(s:B8){x y c:Nat}(H:y<=s.length)(f:(Instr.sliceBounds false s.length s.length vl vh none).run P w= .ok (x,y,c) w):
  (Instr.sliceAt t (.string ⟨s.toArray⟩) vl vh none).run P w= .ok (.string ⟨((s.take y).drop x).toArray⟩) w:=by
 simp_all[Instr.sliceAt,Instr.slice,run_underlying,BX,HC]
theorem tp {e:TypeId}(h:P.underlying t=some (.slice e))(hi:P.info? e=some i)(a:Option Addr)(l cap:Nat){x y:Nat}(H:(Instr.sliceBounds true l cap vl vh none).run P w= .ok (x,y,cap) w):
  (Instr.sliceAt t (.slice a l cap) vl vh none).run P w= .ok (.slice (if cap=x then a else a.map (·.add (x*i.size))) (y-x) (cap-x)) w:=by
 simp_all[Instr.sliceAt,Instr.slice,run_underlying,sizeOf,typeInfo,hi]
theorem nh(h:bM T P)(H:T.find t=some te):P.underlying t=some te.desc:=(h.ok t te H).1
def Vl(Q:bM T P)(hB:aq C A β st a w){lo hi mx:Option AV}{W:Option Value}(R:aa w A β vx x)
  (hl:avX w A β lo vl)
  (hh:avX w A β hi vh)
  (hm:avX w A β mx W)
  (h:uO T st.h t x lo hi mx=some out) (L:∀p∈out.cond,p):Reads P A β w (Instr.sliceAt t vx vl vh W) out:=by
 unfold uO at h;split at h
 . rename_i s F G V U Z
   have D:W=none:=by
    grind[iG]
   subst D;have X:=iG V hl;have H:=iG U hh;simp only[aa] at R;obtain⟨rfl,I⟩:=R;cases hd:cW T t ui with
   |false=>grind
   |true=>
    simp only[hd,K!] at h
    have hu:P.underlying t=some .string:=by
     unfold cW at hd;cases ht:T.find t with
     |none=>grind
     |some te=>
      simp only[ht] at hd;rw[(Q.ok t te ht).1];grind[ui]
    have f:∀(r:B8),(bF s.length G<=s.length)->(∀m,G=some m->0<=m/\m<=(s.length:Int))->(∀m,F=some m->0<=m/\m<=(bF s.length G:Int))->
      r=((s.take (bF s.length G)).drop (fQ F))->∃v,(Instr.sliceAt t (.string ⟨s.toArray⟩) vl vh none).run P w= .ok v w/\aa w A β v (.str r):=by
     intro r h1 N Y h4;have S:=nJ (P:=P) (w:=w) (s:=false) (cap:=s.length) X H (Nat.le_refl _) N Y;refine⟨_,JS hu s h1 S,?_⟩;grind[aa]
    split at h;simp only[Option.some.injEq] at h;subst h;exact⟨⟨rfl,rfl,rfl⟩,f s (by simp[bF]) z! z! (by simp[bF,fQ])⟩;rename_i b;simp only[Option.some.injEq] at h;subst h;obtain⟨J,q⟩:=fH L;exact⟨⟨rfl,rfl,rfl⟩,f _ (by grind[bF]) x! z! (by rfl)⟩;rename_i x;simp only[Option.some.injEq] at h;subst h;obtain⟨J,q⟩:=fH L;exact⟨⟨rfl,rfl,rfl⟩,f _ (by simp[bF]) z! (by grind[Option.some.injEq,bF]) (by simp[bF,fQ])⟩;rename_i x b;simp only[Option.some.injEq] at h;subst h;obtain⟨J,q,d⟩:=fH L;exact⟨⟨rfl,rfl,rfl⟩,f _ (by grind[bF]) x! (by grind[Option.some.injEq,bF]) (by rfl)⟩
 . rename_i row l F G V U Z
   have D:W=none:=by
    grind[iG]
   subst D;have X:=iG V hl;have H:=iG U hh;simp only[aa] at R;cases I:bH T t row.length with
   |false=>grind
   |true=>
    simp only[I,K!] at h;obtain⟨e,ii,hu,K,eH,pQ⟩:=iF Q I;obtain⟨O,cap,rfl,i,hml⟩:=zN R
    have f:∀(r:M (Row row)),(bF l.length G<=l.length)->(fQ F<=bF l.length G)->(∀m,G=some m->0<=m/\m<=(l.length:Int))->(∀m,F=some m->0<=m/\m<=(bF l.length G:Int))->
      r=((l.take (bF l.length G)).drop (fQ F))->∃v,(Instr.sliceAt t (.slice O l.length cap) vl vh none).run P w= .ok v w/\aa w A β v (.sl row r):=by
     intro r h1 o N Y h4;have S:=nJ (P:=P) (w:=w) (s:=true) (cap:=cap) X H i N Y;refine⟨_,tp hu K O l.length cap S,?_⟩;grind[aa,Yj]
    split at h;simp only[Option.some.injEq] at h;subst h;exact⟨⟨rfl,rfl,rfl⟩,f l (by simp[bF]) (by simp[fQ]) z! z! (by simp[bF,fQ])⟩;rename_i b;simp only[Option.some.injEq] at h;subst h;obtain⟨J,q⟩:=fH L;exact⟨⟨rfl,rfl,rfl⟩,f _ (by grind[bF]) (by simp[fQ]) x! z! (by rfl)⟩;rename_i x;simp only[Option.some.injEq] at h;subst h;obtain⟨J,q⟩:=fH L;exact⟨⟨rfl,rfl,rfl⟩,f _ (by simp[bF]) (by grind[bF,fQ]) z! (by grind[Option.some.injEq,bF]) (by simp[bF,fQ])⟩;rename_i x b;simp only[Option.some.injEq] at h;subst h;obtain⟨J,q,d⟩:=fH L;exact⟨⟨rfl,rfl,rfl⟩,f _ (by grind[bF]) (by grind[bF,fQ]) x! (by simp only[Option.some.injEq,bF];rintro m rfl;omega) (by simp[bF,fQ])⟩
 . rename_i row l b c V U Z
   have hvl:vl=none:=by
    rcases iG V hl with⟨_,h⟩|⟨k,m,h,_⟩;exact h;cases h
   subst hvl
   obtain⟨u,rfl⟩:∃u,vh=some (.int u b):=by
    rcases iG U hh with⟨h,_⟩|⟨k,m,h,N⟩;cases h;cases h;exact⟨k,N⟩
   obtain⟨z,rfl⟩:∃z,W=some (.int z c):=by
    rcases iG Z hm with⟨h,_⟩|⟨k,m,h,N⟩;cases h;cases h;exact⟨k,N⟩
   simp only[aa] at R;cases I:bH T t row.length with
   |false=>simp[I] at h
   |true=>
    simp only[I,K!] at h;obtain⟨e,ii,hu,K,eH,pQ⟩:=iF Q I;obtain⟨O,cap,rfl,i,hml⟩:=zN R;simp only[A!] at h;subst h;obtain⟨J,q,d⟩:=fH L;subst q
    have S:(Instr.sliceBounds true l.length cap none (some (.int u b)) (some (.int z b))).run P w= .ok (0,b.toNat,b.toNat) w:=by
     simp[Instr.sliceBounds,run_sliceBound (P:=P) (w:=w) (k:=z) (n:=b) (y:=cap) w! w!,run_sliceBound (P:=P) (w:=w) (k:=u) (n:=b) (y:=b.toNat) w! w!]
    have iQ:(Instr.sliceAt t (.slice O l.length cap) none (some (.int u b)) (some (.int z b))).run P w=
      .ok (.slice (if b.toNat=0 then O else O.map (·.add (0*ii.size))) (b.toNat-0) (b.toNat-0)) w:=by
     simp[Instr.sliceAt,Instr.slice,run_underlying hu,sizeOf,typeInfo,K,S]
    have hR:=Yj R 0 b.toNat w! w! (if b.toNat=0 then O else O.map (·.add (0*ii.size))) (λ_=>by
     by_cases hz:b.toNat=0;rw[Q! hz];cases O<;>simp[Addr.add];rw[R! hz];cases O<;>simp[Addr.add])
    have hlen:((l.take b.toNat).drop 0).length=b.toNat:=by rw[List.drop_zero,C?];omega
    simp only[Rd] at hR;obtain⟨a0,aL8,cs,g1,B,g,g4,g5⟩:=hR;simp only[Value.slice.injEq] at g1;obtain⟨g6,g7,g8⟩:=g1;rw[List.drop_zero] at hlen g4;rw[g6,Nat.sub_zero] at iQ;refine⟨⟨rfl,rfl,rfl⟩,.slice a0 b.toNat b.toNat,iQ,?_⟩;simp only[aa,Rd];refine⟨⟨a0,b.toNat,cs,?_,w!,w!,g4,g5⟩,a0,?_⟩<;>rw[hlen]
 . rename_i k F G V U Z
   have D:W=none:=by
    rcases iG Z hm with⟨_,h⟩|⟨k,m,h,_⟩;exact h;cases h
   subst D;have X:=iG V hl;have H:=iG U hh;split at h
   . rename_i e' row l fr hk;cases I:bH T t row.length with
     |false=>simp[I] at h
     |true=>
      simp only[I,K!] at h;obtain⟨e,ii,hu,K,eH,pQ⟩:=iF Q I;simp only[aa] at R;obtain⟨rfl,_⟩:=R
      have f:(bF l.length G<=l.length)->(fQ F<=bF l.length G)->(∀m,G=some m->0<=m/\m<=(l.length:Int))->(∀m,F=some m->0<=m/\m<=(bF l.length G:Int))->
        (β k= .slice none 0 0/\l=[]/\(Instr.sliceAt t (β k) vl vh none).run P w= .ok (.slice none 0 0) w)\/∃b cap j,β k= .slice (some ⟨b,0,none⟩) l.length cap/\(l.length<=cap/\cap<=maxLen)/\
          (Instr.sliceAt t (β k) vl vh none).run P w= .ok (.slice j (bF l.length G-fQ F) (cap-fQ F)) w/\(fQ F<cap->j=some ⟨b,fQ F*row.length,none⟩)/\(fQ F=0->j=some ⟨b,0,none⟩):=by
       intro h1 o N Y;rcases lX hB hk with⟨g1,B⟩|⟨b,cap,cur,g1,_,g,g4,_⟩;subst B;have S:=nJ (P:=P) (w:=w) (s:=true) (cap:=0) X H (M! _) N Y;have hz:bF 0 G=0:=by simpa using h1
       have hz2:fQ F=0:=by simp only[List.length_nil] at o;omega
       refine .inl ⟨g1,rfl,?_⟩;rw[g1,tp hu K none 0 0 S,hz,hz2];simp;have S:=nJ (P:=P) (w:=w) (s:=true) (cap:=cap) X H g N Y;refine .inr ⟨b,cap,_,g1,⟨g,g4⟩,by rw[g1];exact tp hu K (some ⟨b,0,none⟩) l.length cap S,λiT=>?_,λhz=>?_⟩;rw[R! w!,eH];simp[Addr.add_mid];split;rfl;rw[hz];simp[Addr.add]
      split at h;simp only[A!] at h;subst h;rcases f (by simp[bF]) (by simp[fQ]) z! z! with⟨g1,B,g⟩|⟨b,cap,j,g1,B,g,_,g5⟩;exact⟨⟨rfl,rfl,rfl⟩,_,g,by simp only[aa];exact⟨g1.symm,rfl⟩⟩;refine⟨⟨rfl,rfl,rfl⟩,_,g,?_⟩;simp only[aa];rw[g5 rfl,g1];simp[bF,fQ,Value.oneCell'];rename_i b;simp only[A!] at h;subst h;obtain⟨J,q⟩:=fH L;rcases f (by simp only[bF];omega) (by simp[fQ]) (by simp only[A!];rintro m rfl;exact⟨J,q⟩) z! with⟨g1,B,g⟩|⟨E,cap,j,g1,B,g,_,g5⟩;refine⟨⟨rfl,rfl,rfl⟩,_,g,?_⟩;simp only[aa];refine .inl ⟨g1,trivial,?_⟩;subst B;simp at q;omega;refine⟨⟨rfl,rfl,rfl⟩,_,g,?_⟩;simp only[aa];rw[g5 rfl];exact .inr ⟨E,_,cap,g1,by simp[bF,fQ],w!⟩;rename_i x;simp only[A!] at h;subst h;obtain⟨J,q⟩:=fH L;rcases f (by simp[bF]) (by simp only[bF,fQ];omega) z! (by simp only[A!,bF];rintro m rfl;exact⟨J,q⟩) with⟨g1,B,g⟩|⟨E,cap,j,g1,B,g,g4,_⟩;refine⟨⟨rfl,rfl,rfl⟩,_,g,?_⟩;simp only[aa];subst B;exact .inl ⟨z!,none,0,rfl,z!⟩;refine⟨⟨rfl,rfl,rfl⟩,_,g,?_⟩;simp only[aa,bF,fQ] at g4 |-;by_cases hz:l.length-x.toNat=0;exact .inl ⟨hz,j,_,by rw[hz],w!⟩;exact .inr ⟨E,_,cap,cap-x.toNat,g1,by rw[g4 w!],w!,w!,w!⟩;rename_i x b;simp only[A!] at h;subst h;obtain⟨J,q,d⟩:=fH L;rcases f (by simp only[bF];omega) (by simp only[bF,fQ];omega) (by simp only[A!];rintro m rfl;exact⟨w!,d⟩) (by simp only[A!,bF];rintro m rfl;omega) with⟨g1,B,g⟩|⟨E,cap,j,g1,B,g,g4,_⟩;refine⟨⟨rfl,rfl,rfl⟩,_,g,?_⟩;simp only[aa];subst B;exact .inl ⟨by simp at d;omega,none,0,rfl,z!⟩;refine⟨⟨rfl,rfl,rfl⟩,_,g,?_⟩;simp only[aa,bF,fQ] at g4 |-;by_cases hz:b.toNat-x.toNat=0;exact .inl ⟨hz,j,_,by rw[hz],w!⟩;exact .inr ⟨E,_,cap,cap-x.toNat,g1,by rw[g4 w!],w!,w!,w!⟩
   cases h
 grind
theorem Vm:∀(t:Ty) (v:Value) (x:D t),Rd w A t v x->v.oneCell'=true
 |.int _,v,x,h=>by rw[h.1];rfl
 |.bool,v,x,h=>by rw[h];rfl
 |.str,v,x,h=>by rw[h.1];rfl
 |.slice _,v,x,h=>by obtain⟨_,_,_,h1,_⟩:=h;rw[h1];rfl
theorem B2:∀(T:M Ty) (V:M Value) (x:Row T),bJ w A T V x->∀v∈V,v.oneCell'=true
 |[],V,_,h=>by grind[bJ]
 |t::T,V,x,h=>by
  obtain⟨v,c,rfl,H,f⟩:=h;intro u hu;rcases O!.1 hu with rfl|hu;exact Vm t _ _ H;exact B2 T c _ f u hu
def N3 {row:M Ty}:∀(l:M (Row row)) (cs:M Value),dZ (bJ w A row) cs l->∀v∈cs,v.oneCell'=true
 |[],cs,h=>by grind[dZ]
 |x::l,cs,⟨c1,c2,H,h1,f⟩=>by
  subst H;intro u hu;rcases I!.1 hu with hu|hu;exact B2 row c1 x h1 u hu;exact N3 l c2 f u hu
theorem ju {r R:M Ty}{l:M (Row r)}{L:M (Row R)}(h:fN r R l=some L):∃e:r=R,e▸l=L:=by
 grind[fN,Option.some.injEq,Ty.atG]
structure Src (P:Program) (w:World) (A:Nat->Prop) (row:List Ty) (m:List (Row row)) (v:Value) (cs:List Value):Prop where
 rd:dZ (bJ w A row) cs m
 len:(Builtin.lenOf v).run P w= .ok m.length w
 first :∀w':World,w'.heap=w.heap->∀n,n<=m.length->(Builtin.firstCells row.length n v).run P w'= .ok (cs.take (n*row.length)).toArray w'
 max:m.length<=maxLen
theorem FT(h:w'.heap=w.heap)(p:Addr):w'.cell? p=w.cell? p:=by grind[World.cell?]
theorem rL {row:M Ty}{m:M (Row row)}{cs:M Value}{ad:Option Addr}(s:dZ (bJ w A row) cs m)(e:cs≠ []->∃b o,ad=some ⟨b,o,none⟩/\w.rangeAt b o cs)(a:m.length<=maxLen):
  Src P w A row m (.slice ad m.length cap) cs:=by
 refine⟨s,by rfl,λw' hw n k=>?_,a⟩;have h:=jl m cs s;by_cases H:cs=[]
 . subst H
   have hz:n*row.length=0:=by
    grind[Nat.eq_zero_or_pos,Nat.mul_eq_zero]
   cases ad with
   |none=>simp[Builtin.firstCells]
   |some p=>simp[Builtin.firstCells,hz,loadCells,loadCellsFrom]
 obtain⟨b,o,rfl,f⟩:=e H
 have i:(cs.take (n*row.length)).length=n*row.length:=by
  simp_all
 have:=run_loadCells_list (P:=P) w' ⟨b,o,none⟩ (cs.take (n*row.length)) (λj v g=>by
  rw[Addr.add_mid,FT hw];exact kC f j v g)
 grind[Builtin.firstCells]
theorem N4:Src P w A row ([]:M (Row row)) (.slice none 0 0) []:=
 rL (m:=([]:M (Row row))) (by rfl) (λh=>absurd rfl h) z!
theorem Vn {row:M Ty}{l:M (Row row)}(h:Rd w A (.slice row) v l):∃cs,Src P w A row l v cs:=by
 obtain⟨a,cap,cs,rfl,H,m,f,g⟩:=h;exact⟨cs,rL f (λd=>let⟨b,o,k,_,H⟩:=g d;⟨b,o,k,H⟩) w!⟩
theorem N5(s:B8):dZ (bJ w A [.int .u8]) (s.map λb=>Value.int .u8 (b.toNat:Int)) s:=by
 induction s with
 |nil=>rfl
 |cons b s i=>
  refine⟨[.int .u8 (b.toNat:Int)],s.map λb=>Value.int .u8 (b.toNat:Int),rfl,?_,i⟩;refine⟨_,[],rfl,⟨rfl,?_,?_⟩,rfl⟩;simp[lo,Row.hd,DI.toInt];have:=b.toNat_lt;grind[hi,Row.hd,DI.toInt]
theorem anr(s:B8)(h:s.length<=maxLen):Src P w A [.int .u8] s (.string ⟨s.toArray⟩) (s.map λb=>Value.int .u8 (b.toNat:Int)):=by
 refine⟨N5 s,by rfl,λw' H n f=>?_,h⟩;simp_all[Builtin.firstCells,J?,x?,Sem.run_pure,HC,Array.ext',List.map_take]
theorem pr {k:Nat}{row:M Ty}{l:M (Row row)}(H:aq C A β st a w)(h:st.h k=some (.row e row l fr)):
  (β k= .slice none 0 0/\l=[])\/∃b cap cs,β k= .slice (some ⟨b,0,none⟩) l.length cap/\l.length<=cap/\cap<=maxLen/\dZ (bJ w A row) cs l/\w.rangeAt b 0 cs:=by
 rcases lX H h with h|⟨b,cap,c,f,q,g,m,B,p,_⟩;grind;refine .inr ⟨b,cap,_,f,g,m,p,λj v D=>?_⟩;grind[World.cell?]
def aes(I:aq C A β st a w)(f:aa w A β v x){row:M Ty}{m:M (Row row)}(h:xS st.h row x=some m):∃cs,Src P w A row m v cs:=by
 unfold xS at h;split at h;rename_i s;obtain⟨e,h⟩:=ju h;subst e;simp only at h;subst h;simp only[aa] at f;obtain⟨rfl,U⟩:=f;exact⟨_,anr s U⟩;simp only[Option.some.injEq] at h;subst h;simp only[aa] at f;subst f;exact⟨[],N4⟩
 . rename_i i j
   have K:∀r (l:M (Row r)),(jA st.h x).1= .sl r l->fN r row l=some m->∃cs,Src P w A row m v cs:=by
    intro r l H F;obtain⟨e,F⟩:=ju F;subst e;simp only at F;subst F;unfold jA at H;split at H;rename_i k;simp only[aa] at f;split at H;rename_i R p L fr q;simp only[AV.sl.injEq] at H;obtain⟨rfl,H⟩:=H;simp only[heq_eq_eq] at H;subst H;rcases pr I q with⟨g1,G⟩|⟨b,cap,cs,g1,G,S,B,D⟩;subst G;rw[f.1,g1];exact⟨[],N4⟩;rw[f.1,g1];exact⟨cs,rL B (λ_=>⟨b,0,rfl,D⟩) w!⟩;grind;rename_i k n;simp only[aa] at f;split at H;rename_i R p L fr q;simp only[AV.sl.injEq] at H;obtain⟨rfl,H⟩:=H;simp only[heq_eq_eq] at H;subst H;rcases pr I q with⟨g1,G⟩|⟨b,cap,cs,g1,G,S,B,D⟩;subst G;rcases f with⟨_,g,J⟩|⟨b,m,cap,g,_⟩;subst J;rw[g];exact⟨[],by grind[N4]⟩;grind;rcases f with⟨g,_,_⟩|⟨V,m,W,g,N,O⟩;grind;rw[g1] at g;obtain⟨rfl,rfl,rfl⟩:=g;have X:(L.take n).length=n:=by grind
    rw[N];have:=rL (P:=P) (ad:=some ⟨b,0,none⟩) (cap:=cap) (gK L cs n B).1 (λ_=>⟨b,0,rfl,kC D⟩) w!;grind;grind
    . rename_i k sz off n;simp only[aa] at f;split at H
      . rename_i R p L fr q;cases E:Nat.beq sz p.length with
        |false=>grind
        |true=>
         have E:=Nat.eq_of_beq_eq_true E;subst E;simp only[cY,cond_true,AV.sl.injEq] at H;obtain⟨rfl,H⟩:=H;simp only[heq_eq_eq] at H;subst H;rcases f with⟨J,Y,cap,g,_⟩|⟨V,m,W,Z,g,N,O,c,d⟩;subst J;rw[g];have:=rL (P:=P) (w:=w) (A:=A) (row:=p) (m:=[]) (ad:=Y) (cap:=cap) (cs:=[]) (by rfl) (λh=>absurd rfl h) z!;grind;rcases pr I q with⟨g1,G⟩|⟨b,cap,cs,g1,G,S,B,D⟩;grind;rw[g1] at g;simp only[Value.slice.injEq,Option.some.injEq,Addr.mk.injEq,and_true] at g;obtain⟨rfl,rfl,rfl⟩:=g;have X:((L.drop off).take n).length=n:=by grind
         rw[N];have:=rL (P:=P) (ad:=some ⟨b,off*p.length,none⟩) (cap:=Z) (gK _ _ n (gK L cs off B).2).1 (λ_=>⟨b,_,rfl,by have:=kC (n:=n*p.length) (avE (n:=off*p.length) D);grind⟩) w!;grind
      grind
    simp_all[aa,Vn]
   split at h;grind;rename_i r l H
   have o:x= .full r l:=by
    unfold jA at H;grind
   grind[aa,ju,Vn];grind
structure Yk (P:Program) (t t' e:TypeId) (size bytes:Nat) (z:Value):Prop where
 under:P.underlying t=some (.slice e)
 aPI:∃d,P.underlying t'=some d/\(d= .string\/∃e',d= .slice e')
 info:∃i,P.info? e=some i/\i.size=size/\i.bytes=bytes/\i.zero=some z
 ans:z.cells.size=size
 pos:0<size
def qs {e:TypeId}{s:Nat}(q:Yk P t t' e s bytes z){b:Option Addr}{n cap:Nat}{a:M Value}{x:Value}{m:Nat}{N:M Value}
  (h:∀w':World,w'.heap=w.heap->(Builtin.firstCells s n (.slice b n cap)).run P w'= .ok a.toArray w')
  (hlen:(Builtin.lenOf x).run P w= .ok m w) (B:∀w':World,w'.heap=w.heap->(Builtin.firstCells s m x).run P w'= .ok N.toArray w')
  (D:cap<n+m) (L:n+m<=maxLen) (d:(n+m)*bytes<=140737488355328):
  (Builtin.append_ #[t,t'] ty #[.slice b n cap,x]).run P w=
    .ok (.slice (some ⟨w.heap.size,0,none⟩) (n+m) (grownCap w (n+m) cap e))
      (w.drew.alloc (.cells (a.toArray++(N.toArray++Builtin.zeroCells z.cells (grownCap w (n+m) cap e-(n+m)))) e)):=by
 obtain⟨hu,⟨O,g,S⟩,⟨i,hi,F,G,hz⟩,I,R⟩:=q;subst F;subst G;have H:¬(n+m<=cap):=by omega
 have A:¬(9223372036854775807<((n:Int)+(m:Int))):=by grind[maxLen]
 have J:=growslice_fits D d;have f:¬(281474976710656<Builtin.nextslicecap (n+m) cap*i.bytes):=by omega
 have k:=h w.drew rfl;have p:=B w.drew rfl;rcases S with rfl|⟨E,rfl⟩;simp[Builtin.append_,run_underlying hu,run_underlying g,sizeOf,typeInfo,zeroValue,hi,hz,hlen,H,A,f,Question.forced,p,k,newRow,grownCap];simp[Builtin.append_,run_underlying hu,run_underlying g,sizeOf,typeInfo,zeroValue,hi,hz,hlen,H,A,f,Question.forced,p,k,newRow,grownCap]
variable {n:Nat}
def HE {e:TypeId}{s:Nat}(H:Yk P t t' e s bytes z){g:Nat}{c:Array Value}(p:w.heap[g]? =some (.cells c e (0,0))){x:Value}{m:Nat}{N:M Value}
  (hlen:(Builtin.lenOf x).run P w= .ok m w) (q:∀w':World,w'.heap=w.heap->(Builtin.firstCells s m x).run P w'= .ok N.toArray w')
  (B:N.length=m*s) (D:∀u∈N,u.oneCell'=true) (f:n+m<=cap) (E:c.size=cap*s):
  (Builtin.append_ #[t,t'] ty #[.slice (some ⟨g,0,none⟩) n cap,x]).run P w=
    .ok (.slice (some ⟨g,0,none⟩) (n+m) cap) (w.setRow g (c.toList.take (n*s)++N++c.toList.drop (n*s+N.length)).toArray):=by
 obtain⟨hu,⟨d,k,S⟩,⟨i,hi,F,I,J⟩,G,L⟩:=H;subst F;have O:n*i.size+N.length<=c.size:=by rw[B,E,<-q?];simp_all[I?]
 have v:=run_storeCells_at P g (n*i.size) e N 0 c w p w! D;have h:=q w rfl;rcases S with rfl|⟨R,rfl⟩;simp[Builtin.append_,run_underlying hu,run_underlying k,sizeOf,typeInfo,hi,hlen,f,h,Addr.add_lit,v];simp[Builtin.append_,run_underlying hu,run_underlying k,sizeOf,typeInfo,hi,hlen,f,h,Addr.add_lit,v]
def nM {e:TypeId}{s:Nat}(H:Yk P t t' e s bytes z)(j:w.ownsRow 0 e s v n xs){x:Value}{m:Nat}{N:M Value}
  (hlen:(Builtin.lenOf x).run P w= .ok m w) (p:∀w':World,w'.heap=w.heap->(Builtin.firstCells s m x).run P w'= .ok N.toArray w')
  (q:N.length=m*s) (Y:∀u∈N,u.oneCell'=true) (B:n+m<=maxLen) (d:(n+m)*bytes<=140737488355328):
  ∃v' w',(Builtin.append_ #[t,t'] ty #[v,x]).run P w= .ok v' w'/\w'.ownsRow 0 e s v' (n+m) (xs++N)/\w.grownBy w' v.ownBlock/\∀b,ah v'=some b->ah v=some b\/w.heap.size<=b:=by
 have V:(xs++N).length=(n+m)*s:=by rw[J!,j.1,q,q?]
 have G:∀(f:Nat) (row:Option Nat),
   (w.drew.alloc (.cells (xs.toArray++(N.toArray++Builtin.zeroCells z.cells (grownCap w (n+m) f e-(n+m)))) e)).ownsRow 0 e s
     (.slice (some ⟨w.heap.size,0,none⟩) (n+m) (grownCap w (n+m) f e)) (n+m) (xs++N)/\
   w.grownBy (w.drew.alloc (.cells (xs.toArray++(N.toArray++Builtin.zeroCells z.cells (grownCap w (n+m) f e-(n+m)))) e)) row:=by
  intro f row;have Z:=grownCap_ge w (n+m) f e;have D:grownCap w (n+m) f e<=maxLen:=grownCap_le_maxLen w (n+m) f e B;refine⟨⟨V,.inr ⟨w.heap.size,_,_,rfl,w!,heap_alloc_new w.drew _,Z,D,?_,?_⟩⟩,⟨rfl,rfl,rfl,z!,λk F _=>heap_alloc_old w.drew _ k F⟩⟩;simp only[Array.size_append,List.size_toArray,size_zeroCells,H.ans,j.1,q,<-Nat.add_mul];grind;grind
 rcases j.2 with⟨rfl,rfl⟩|⟨g,cap,c,rfl,I,R,a,D,E,A⟩;have l:xs=[]:=List.eq_nil_of_length_eq_zero x!;subst l;by_cases o:m=0;subst o;have r:N=[]:=List.eq_nil_of_length_eq_zero w!;subst r;refine⟨.slice none 0 0,w,?_,x!,⟨rfl,rfl,rfl,Nat.le_refl _,λ_ _ _=>rfl⟩,x!⟩;obtain⟨hu,⟨T,S,y⟩,⟨i,hi,C,U,hz⟩,K,pQ⟩:=H;subst C;have W:=p w rfl;rcases y with rfl|⟨e',rfl⟩;simp[Builtin.append_,run_underlying hu,run_underlying S,sizeOf,typeInfo,hi,hlen,W];simp[Builtin.append_,run_underlying hu,run_underlying S,sizeOf,typeInfo,hi,hlen,W];have h:∀w':World,w'.heap=w.heap->(Builtin.firstCells s 0 (.slice none 0 0)).run P w'= .ok ([]:M Value).toArray w':=λw' _=>by rfl
 have J:=qs (ty:=ty) H h hlen p w! B d;have L:=G 0 (Value.ownBlock (.slice none 0 0));grind[ah,Option.some.injEq];by_cases X:n+m<=cap;have N8:n*s+N.length<=c.size:=by rw[q,E,<-Nat.add_mul];simp_all[Nat.mul_le_mul_right]
 have J:=HE (ty:=ty) H R hlen p q Y X E;refine⟨_,_,J,⟨V,.inr ⟨g,cap,_,rfl,I,setRow_heap w g c _ e _ R,X,D,?_,?_⟩⟩,⟨rfl,rfl,rfl,z!,λk _ F=>setRow_other w g k _ (λe=>F (by grind[Value.ownBlock]))⟩,λb U=>.inl U⟩;grind;grind;have O:=j.cells (g:=g) rfl
 have h:∀w':World,w'.heap=w.heap->(Builtin.firstCells s n (.slice (some ⟨g,0,none⟩) n cap)).run P w'= .ok xs.toArray w':=λw' Q=>by
  grind[run_loadCells_list,FT,Builtin.firstCells]
 have J:=qs (ty:=ty) H h hlen p w! B d;have L:=G cap (Value.ownBlock (.slice (some ⟨g,0,none⟩) n cap));grind[ah,Option.some.injEq]
theorem aq.newRow(p:aq C A β st a w)(O:∀t,dst=some t->t<st.n){row:M Ty}{l:M (Row row)}{cond:M Prop}{del:M Nat}{rw :Option Nat}{xs:M Value}
  (X:st.h d=none/\rJ d=false) (m:w.grownBy w' rw) (I:∀b,rw=some b->∃k,aw del k=true/\(st.h k).isSome/\ah (β k)=some b) (J:∀b,rw=some b->¬A b)
  (j:w'.ownsRow 0 e row.length v' l.length xs) (s:dZ (bJ w A row) xs l) (f:∀b,ah v'=some b->rw=some b\/w.heap.size<=b):
  aq C A (br β d v') (st.put dst {cond:=cond,res:=.own d,del:=del,new:=[(d,.row e row l false)]}) (a.put dst v') w':=by
 have L:bI w w' A A:=λb H=>⟨H,m.block b (p.bound b H) (λh=>J b h.symm H)⟩
 have q:∀k b,ai [(d,AB.row e row l false)] k=some b->k=d/\b= .row e row l false:=by
  grind[ai,aO]
 refine p.step (out:={cond:=cond,res:=.own d,del:=del,new:=[(d,.row e row l false)]}) O ?_ (by simp[ai]) ?_ L m.os m.tape m.output m.size ?_ (λb H=>Nat.lt_of_lt_of_le (p.bound b H) m.size) (λb H=>.inl H) (by simp[ai]) ?_ ?_ ?_ ?_;grind;intro k h;have :k≠d:=by rintro rfl;simp[ai] at h
 grind[br];intro b H R;refine m.block b H (λh=>?_);obtain⟨k,B,D,F⟩:=I b h.symm;exact R k ⟨D,.inr B⟩ F;intro k ab h;obtain⟨rfl,rfl⟩:=q k ab h;refine⟨xs,by simpa[br] using j,bR (λc x G=>bE L row c x G) l xs s,λb H=>?_⟩;simp[br,if_true] at H;rcases f b H with h|h;exact J b h;intro S;exact absurd (p.bound b S) w!;intro k b ab h H;obtain⟨rfl,_⟩:=q k ab h;simp[br,if_true] at H;rcases f b H with h|h;exact .inr (let⟨k,B,D,F⟩:=I b h;⟨k,B,D,F⟩);exact .inl h;intro k K b h U _ _;obtain⟨x,G⟩:=Option.isSome_iff_exists.1 h;obtain⟨y,V⟩:=Option.isSome_iff_exists.1 U;rw[(q k x G).1,(q K y V).1];simp[aa,br,if_true,true_and]
 obtain⟨N,Y,c,rfl⟩:∃N l c,v'= .slice N l c:=by
  rcases j.2 with⟨rfl,_⟩|⟨g,cap,W,rfl,_⟩;exact⟨_,_,_,rfl⟩;exact⟨_,_,_,rfl⟩
 rfl
def vn(f:bM T P){e:TypeId}(H:qk T t=some e)(h:nG T t=some te):P.underlying t=some (.slice e)/\T.find e=some te/\∃i,P.info? e=some i/\i.size=te.size/\i.bytes=te.bytes/\i.zero=some te.zero:=by
 unfold qk at H;unfold nG at h;cases g:T.find t with
 |none=>grind
 |some tt=>
  simp[g] at H h;cases hd:tt.desc with
  |slice e'=>
   simp[hd,Option.some.injEq] at H h;subst H;exact⟨by grind[nh],h,(f.ok _ _ h).2⟩
  |_=>grind
theorem qt(z:Value):(ofConst z).cells.length=z.cells.size:=by
 unfold ofConst;split;simp[AV.cells,Value.cells]
 . rename_i h
   have h1:(DN z).cells.length=1:=by
    unfold DN;split;split<;>rfl
    split<;>rfl
    rename_i s;cases Nat.ble s.data.toList.length 1000000<;>rfl;all_goals rfl
   rw[h1];cases z<;>first|rfl|grind
theorem vo {k x:Nat}(h:n<=x/k):n*k<=x:=b? (I? _ h) (Nat.div_mul_le_self x k)
def rM(H:bM T P){f:TypeDesc->Bool}(h:cW T t f=true):∃d,P.underlying t=some d/\f d=true:=by
 grind[cW,nh]
theorem N9 {d:TypeDesc}(h:DO d=true):d= .string\/∃e,d= .slice e:=by
 cases d<;>simp_all[DO]
def Oa(H:aq C A β st a w){k:Nat}{row:M Ty}{l:M (Row row)}(h:st.h k=some (.row e row l false)):
  ∃xs,w.ownsRow 0 e row.length (β k) l.length xs/\dZ (bJ w A row) xs l/\∀b,ah (β k)=some b->¬A b:=by
 obtain⟨xs,f,g,m⟩:=H.blocks k _ h;grind
theorem zO(h:(∃a l c,v= .slice a l c)):v.ownBlock=ah v:=by
 obtain⟨a,l,c,rfl⟩:=h;cases a<;>rfl
theorem jC{s:Nat}(h:w.ownsRow 0 e s v n xs):∃a l c,v= .slice a l c:=by
 rcases h.2 with⟨rfl,_⟩|⟨g,cap,C,rfl,_⟩;grind;grind
def Sn(hT:bM T P)(F:aq C A β st a w)(Z:∀t,dst=some t->t<st.n)(c:st.h d=none/\rJ d=false){s:AV}{v:Value}(B:aa w A β v s)(hx:aa w A β vx x)
  (h:rI T st.h d t t' s x=some out) (M:∀p∈out.cond,p):∃v' w',(Builtin.append_ #[t,t'] ty #[v,vx]).run P w= .ok v' w'/\Rel C (st.put dst out) (a.put dst v') w':=by
 unfold rI at h;split at h
 . rename_i e te he jB;split at h
   . rename_i row mO;obtain⟨hu,HG,i,hi,vq,Ob,JT⟩:=vn hT he jB;cases K:(Nat.beq row.length te.size&&Nat.blt 0 te.size&&Nat.beq (ofConst te.zero).cells.length te.size&&cW T t' DO) with
     |false=>grind
     |true=>
      simp only[K,cond_true] at h;simp only[Bool.and_eq_true] at K;obtain⟨⟨⟨q1,q2⟩,q3⟩,q4⟩:=K;have q1:=Nat.eq_of_beq_eq_true q1;have q2:=Nat.le_of_ble_eq_true q2;have q3:=Nat.eq_of_beq_eq_true q3;obtain⟨d',ni,sQ⟩:=rM hT q4;have N:Yk P t t' e row.length te.bytes te.zero:=⟨hu,⟨d',ni,N9 sQ⟩,⟨i,hi,w!,Ob,JT⟩,by grind[qt],w!⟩;split at h
      . rename_i m hm;obtain⟨cs,q⟩:=aes (P:=P) F hx hm;have hlen:=jl m cs q.rd;have I:=N3 m cs q.rd
        have u:∀w':World,w'.heap=w.heap->(Builtin.firstCells row.length m.length vx).run P w'= .ok cs.toArray w':=λw' J=>by
         have:=q.first w' J m.length (Nat.le_refl _);grind
        split at h
        . 
         simp only[Option.some.injEq] at h;subst h;have f:=fH M;simp only[aa] at B;subst B;have j:=World.ownsRow_nil w 0 e row.length;obtain⟨v',w',G,O,D,R⟩:=nM (ty:=ty) N j q.len u hlen I (by have:=Nat.le_trans f (Nat.div_le_self _ _);grind[maxLen]) (by simp_all[vo]);refine⟨v',w',G,Rel.kP (F.newRow Z c (rw:=none) (by grind[Value.ownBlock]) z! z! x! q.rd (λb H=>?_))⟩;grind[ah]
        . rename_i k;split at h
          . rename_i E y l hk;cases X:Nat.beq E e with
            |false=>grind
            |true=>
             have X:=Nat.eq_of_beq_eq_true X;subst X;simp only[cY,cond_true] at h;split at h;rename_i l' L;simp only[Option.some.injEq] at h;subst h;have f:=fH M;obtain⟨S,L⟩:=ju L;subst S;simp only at L;subst L;simp only[aa] at B;obtain⟨rfl,_⟩:=B;obtain⟨xs,o,Q,o3⟩:=Oa F hk;obtain⟨v',w',G,O,D,R⟩:=nM (ty:=ty) N o q.len u hlen I (by have:=Nat.le_trans f (Nat.div_le_self _ _);unfold maxLen;omega) (vo f);rw[zO (jC o)] at D;refine⟨v',w',G,Rel.kP (F.newRow Z c (rw:=ah (β k)) D (λb H=>⟨k,by simp[aw],by simp[hk],H⟩) o3 (by simpa using O) (j5 l m xs cs Q q.rd) (λb H=>R b H))⟩;grind
          grind
        . rename_i k n;split at h
          . rename_i E y l hk;cases X:Nat.beq E e with
            |false=>simp[X] at h
            |true=>
             have X:=D! X;subst X;simp only[cY,K!] at h;split at h;rename_i l' L;simp only[A!] at h;subst h;have f:=fH M;obtain⟨S,L⟩:=ju L;subst S;simp only at L;subst L;obtain⟨xs,o,Q,o3⟩:=Oa F hk;have FU:=gK l xs n Q;simp only[aa] at B
             have j:w.ownsRow 0 E y.length v n (xs.take (n*y.length))/\n<=l.length/\ah v=ah (β k):=by
              rcases B with⟨h1,z,U⟩|⟨b,mm,cap,h1,z,U⟩;subst U;subst z;rw[h1];exact⟨by simpa using World.ownsRow_nil w 0 E y.length,w!,rfl⟩;rcases o.2 with⟨G,_⟩|⟨g,lq,cur,G,O,D,R,g5,g6,g7⟩;rw[h1] at G;cases G;rw[h1] at G;simp only[Value.slice.injEq,A!,Addr.mk.injEq,and_true] at G;obtain⟨rfl,rfl,rfl⟩:=G;refine⟨⟨?_,.inr ⟨b,cap,cur,z,w!,D,w!,g5,g6,?_⟩⟩,U,by rw[h1,z];rfl⟩;rw[C?,o.1];exact Nat.min_eq_left (I? _ U);rw[<-g7,List.take_take,Nat.min_eq_left (I? _ U)]
             obtain⟨j,hnl,V⟩:=j;obtain⟨v',w',G,O,D,R⟩:=nM (ty:=ty) N j q.len u hlen I (by have:=Nat.le_trans f (Nat.div_le_self _ _);unfold maxLen;omega) (vo f);rw[zO (jC j),V] at D;refine⟨v',w',G,Rel.kP (F.newRow Z c (rw:=ah (β k)) D (λb H=>⟨k,by simp[aw],by simp[hk],H⟩) o3 ?_ (j5 _ m _ cs FU.1 q.rd) (λb H=>by rw[<-V];exact R b H))⟩;have :(l.take n++m).length=n+m.length:=by simp;omega
             rw[this];exact O;cases h
          cases h
        rename_i r l;split at h;rename_i l' L;simp only[A!] at h;subst h;have hc0:=fH M;have f:=aD5 M;obtain⟨S,L⟩:=ju L;subst S;simp only at L;subst L;simp only[aa] at B;obtain⟨sP,ad,rfl⟩:=B;obtain⟨W,ħ⟩:=Vn (P:=P) sP;have Ĩ:=jl l W ħ.rd
        have Y:∀w':World,w'.heap=w.heap->(Builtin.firstCells r.length l.length (.slice ad l.length l.length)).run P w'= .ok W.toArray w':=λw' J=>by
         have:=ħ.first w' J l.length (M! _);rwa [<-Ĩ,List.take_length] at this
        have Ħ:l.length+m.length<=maxLen:=by have:=Nat.le_trans f (Nat.div_le_self _ _);unfold maxLen;omega
        have hr:=qs (ty:=ty) N Y q.len u w! Ħ (vo f);refine⟨_,_,hr,Rel.kP (F.newRow Z c (rw:=none) (xs:=W++cs) ⟨rfl,rfl,rfl,z!,λk hk _=>heap_alloc_old w.drew _ k hk⟩ z! z! ?_ (j5 l m W cs ħ.rd q.rd) (λb H=>.inr (by simp only[ah,A!] at H;omega)))⟩;have Vp:=grownCap_ge w (l.length+m.length) l.length e;have HF:=grownCap_le_maxLen w (l.length+m.length) l.length e Ħ;have Yl:(W++cs).length=(l.length+m.length)*r.length:=by rw[J!,Ĩ,hlen,q?]
        rw[J!];refine⟨Yl,.inr ⟨w.heap.size,_,_,rfl,w!,heap_alloc_new w.drew _,Vp,HF,?_,?_⟩⟩;simp only[Array.size_append,List.size_toArray,size_zeroCells,N.ans,Ĩ,hlen,<-q?];congr 1
        omega;simp only[Array.toList_append];rw[<-List.append_assoc,<-Yl];exact List.take_left;cases h;grind
      grind
   grind
 grind
def one_cell:∀(x:AV),x.one=true->aa w A β v x->v.oneCell'=true
 |.db,h,_|.undef,h,_|.agg _,h,_|.bk _,h,_=>by grind[AV.one]
 |.int _ _,_,h=>by rw[h.1];rfl
 |.bool _,_,h|.tt,_,h|.ff,_,h=>by rw[h];rfl
 |.str _,_,h=>by rw[h.1];rfl
 |.nil,_,h|.lh,_,h=>by rw[h];rfl
 |.tY _ _,_,h=>by obtain⟨b,h,_⟩:=h;rw[h];rfl
 |.nb,_,h=>by rw[h];rfl
 |.sl _ _,_,h|.full _ _,_,h=>by grind[aa,Vm]
 |.dc _ _ _,_,h|.vc _ _,_,h=>by obtain⟨b,o,cs,h,_⟩:=h;rw[h];rfl
 |.own _,_,h=>by grind[aa]
 |.pre _ _,_,h=>by
   rcases h with⟨_,h,_⟩|⟨b,m,cap,_,h,_⟩<;>rw[h]<;>rfl
 |.view _ _ _ _,_,h=>by
   rcases h with⟨_,a,c,h,_⟩|⟨b,m,cap,l,_,h,_⟩<;>rw[h]<;>rfl
 |.ref _ _,_,h=>by obtain⟨b,_,h⟩:=h;rw[h];rfl
 |.elem _ _ _ _,_,h=>by obtain⟨b,m,cap,_,h⟩:=h;rw[h];rfl
 |.fn _ _ _,_,h=>by obtain⟨_,_,h,_⟩:=h;rw[h];rfl
 |.jR _ _,_,h=>by obtain⟨_,_,_,h,_⟩:=h;rw[h];rfl
theorem cells_one(h:v.oneCell'=true):v.cells= #[v]:=by
 cases v<;>simp_all[Value.oneCell',Value.cells]
theorem Oc:∀(xs:M AV) (V:M Value),xs.all AV.one=true->ae w A β V xs->∀v∈V,v.oneCell'=true
 |[],V,_,h=>by grind[ae]
 |x::xs,V,H,h=>by
  obtain⟨v,c,rfl,f,g⟩:=h;simp only[List.all_cons,B!] at H;intro u hu;rcases O!.1 hu with rfl|hu;exact one_cell x H.1 f;exact Oc xs c H.2 g u hu
def zP(f:x.cells.all AV.one=true)(h:aa w A β v x):ae w A β v.cells.toList x.cells/\(∀u∈v.cells.toList,u.oneCell'=true)/\v.cells.size=x.cells.length:=by
 by_cases g:∃cs,x= .agg cs;obtain⟨cs,rfl⟩:=g;obtain⟨arr,rfl,h⟩:=h;have:=ajO cs _ h;grind[Oc,Value.cells,AV.cells];have k:x.cells=[x]:=by cases x<;>first|rfl|grind
 rw[k] at f |-;have H:x.one=true:=by grind
 have h1:=one_cell x H h;rw[cells_one h1];refine⟨by grind[ae],x!,rfl⟩
theorem ia:∀(xs y:M AV) (u V:M Value),ae w A β u xs->ae w A β V y->ae w A β (u++V) (xs++y)
 |[],y,u,V,h,H=>by grind[ae]
 |x::xs,y,u,V,h,H=>by
  obtain⟨v,J,rfl,f,g⟩:=h;exact⟨v,J++V,rfl,f,ia xs y J V g H⟩
theorem B3 {cs v:M AV}{arr u:M Value}(h:ae w A β arr cs)(H:ae w A β u v):ae w A β (arr.take off++u++arr.drop (off+u.length)) (Nj cs off v):=by
 have f:=ajO v u H;rw[f];exact ia _ _ _ _ (ia _ _ _ _ (my cs arr off h).1 H) (my cs arr _ h).2
def rN(H:bM T P){t:Nat}(h:kU T t n=true):∃i,P.info? t=some i/\i.size=n:=by
 unfold kU at h;cases f:T.find t with
 |none=>grind
 |some te=>
  obtain⟨_,i,g,k,_⟩:=H.ok t te f;simp_all
theorem nN(hi:P.info? t=some i)(f:v.cells.size=i.size)(h:∀u∈v.cells.toList,u.oneCell'=true){b:Nat}{arr:Array Value}{e:TypeId}(H:w.heap[b]? =some (.cells arr e (0,0)))
  (N:off+v.cells.size<=arr.size):(Instr.storeAt t (.pointer (some ⟨b,off,none⟩)) v).run P w= .ok () (w.setRow b (arr.toList.take off++v.cells.toList++arr.toList.drop (off+v.cells.toList.length)).toArray):=by
 have:=run_storeCells_at P b off e v.cells.toList 0 arr w H w! h;simp_all[Nat.add_zero,Instr.storeAt,Instr.sureAddr,storeVar,sizeOf,typeInfo,hi]
def Sq(b:Nat)(cs:Array Value):(w.setRow b cs).os=w.os/\(w.setRow b cs).tape=w.tape/\(w.setRow b cs).output=w.output/\(w.setRow b cs).heap.size=w.heap.size:=⟨rfl,rfl,rfl,z!⟩
theorem aq.write(D:aq C A β st a w)(E:∀t,dst=some t->t<st.n){out:Out}{k b:Nat}{ab:AB}{fz:M Nat}{N:Array Value}{e:Nat}{P:Array Value}{v:Value}
  (J:(st.h k).isSome) (X:ah (β k)=some b) (Z:¬A b) (L:w.heap[b]? =some (.cells P e (0,0)))
  (Q:out.new=[]/\out.del=[]/\out.hX=(k,ab)::cG st.h fz) (d:∀j∈fz,j≠k/\∃e row l fr,st.h j=some (.row e row l fr))
  (K:∀A',(∀B,A B->A' B)->(∀B,A' B->A B\/∃j∈fz,ah (β j)=some B)->(∀j∈fz,∀B,ah (β j)=some B->A' B)->BR (w.setRow b N) A' β k ab)
  (T:aa (w.setRow b N) A β v out.res) (O:out.raw=[]:=by rfl):Rel C (st.put dst out) (a.put dst v) (w.setRow b N):=by
 obtain⟨o,o2,R⟩:=Q;let A':Nat->Prop:=λB=>A B\/∃j∈fz,ah (β j)=some B
 have iT:∀j B,(st.h j).isSome->ah (β j)=some B->B<w.heap.size:=by
  intro j B f G;obtain⟨ab,K⟩:=Z!.1 f;have F:=D.blocks j ab K;cases ab with
  |mp b2 es ck=>
   obtain⟨h1,m,_⟩:=F;grind[ah,Option.some.injEq,Array.getElem?_eq_some_iff]
  |arr _ _|fvar _ _=>
   obtain⟨U,arr,e,h1,m,_⟩:=F;rw[h1] at G;simp only[ah,A!] at G;subst G;exact(P!.1 m).1
  |cells cs=>
   obtain⟨U,arr,e,h1,m,_⟩:=F;grind[ah,Option.some.injEq,Array.getElem?_eq_some_iff]
  |row e row l fr=>
   obtain⟨xs,h1,_⟩:=F;rcases h1.2 with⟨V,_⟩|⟨g,cap,I,r,_,L,_⟩;rw[V] at G;simp[ah] at G;grind[ah,Option.some.injEq,Array.getElem?_eq_some_iff]
  |iE e j row l i=>
   obtain⟨xs,v0,h1,_⟩:=F;rcases h1.2 with⟨V,_⟩|⟨g,cap,I,r,_,L,_⟩;grind[ah];grind[ah,Option.some.injEq,Array.getElem?_eq_some_iff]
  |views _ _ _ _ _|dO _ _ _|bm _ _ _ _|eG _ _ _ _=>
   obtain⟨xs,h1,_⟩:=F;rcases h1.2 with⟨V,_⟩|⟨g,cap,I,r,_,L,_⟩;grind[ah];grind[ah,Option.some.injEq,Array.getElem?_eq_some_iff]
 have s:∀B,B≠b->(w.setRow b N).heap[B]? =w.heap[B]? :=λB h=>setRow_other w b B N (λp=>h p);have hK0:bI w (w.setRow b N) A A:=λB h=>⟨h,s B (λp=>Z (p▸h))⟩;have u:bI w (w.setRow b N) A A':=λB h=>⟨.inl h,s B (λp=>Z (p▸h))⟩;have Sr:bI (w.setRow b N) (w.setRow b N) A A':=λB h=>⟨.inl h,rfl⟩
 have ĩ:∀(fz:M Nat) j x,ai (cG st.h fz) j=some x->j∈fz/\∃e row l fr,st.h j=some (.row e row l fr)/\x= .row e row l true:=by
  intro fz;induction fz with
  |nil=>grind[cG,ai]
  |cons i fz y=>
   intro j x h;simp only[cG] at h;split at h;rename_i e row l fr hi;simp only[ai] at h;by_cases Y:j=i;grind;simp_all[aO,cond_false]
   grind
 have W:∀(fz:M Nat) j,j∈fz->(∃e row l fr,st.h j=some (.row e row l fr))->(ai (cG st.h fz) j).isSome:=by
  intro fz;induction fz with
  |nil=>grind
  |cons i fz y=>
   intro j h H;simp only[cG];by_cases Y:j=i;subst Y;obtain⟨e,row,l,fr,H⟩:=H;simp[H,ai];have:=y j ((O!.1 h).resolve_left Y) H;split;simp only[ai,aO Y,N!];exact this;exact this
 have z:∀j x,ai out.hX j=some x->(j=k/\x=ab)\/(j≠k/\j∈fz/\∃e row l fr,st.h j=some (.row e row l fr)/\x= .row e row l true):=by
  intro j x h;rw[R] at h;simp only[ai] at h;by_cases S:j=k;subst S;simp only[cY,K!,A!] at h;exact .inl ⟨rfl,h.symm⟩;simp only[aO S,N!] at h;obtain⟨h1,m⟩:=ĩ fz j x h;exact .inr ⟨S,h1,m⟩
 have B1:oI st out k:=⟨J,.inl (by rw[R];simp[ai])⟩;refine⟨A',β,D.step E (by rw[o];simp[ai]) ?_ (λ_ _=>rfl) u rfl rfl rfl z! ?_ ?_ ?_ ?_ (by rw[o];simp[ai]) (by rw[o];simp[ai]) (by rw[o];simp[ai]) (jh Sr _ _ T) O⟩;intro j x h;rcases z j x h with⟨rfl,_⟩|⟨_,_,e,row,l,fr,h,_⟩;exact J;simp[h];intro B _ ht;exact s B (λh=>ht k B1 (h▸X));intro B h;rw[(Sq b N).2.2.2];rcases h with h|⟨j,f,q⟩;exact D.bound B h;obtain⟨_,e,row,l,fr,H⟩:=d j f;exact iT j B (by simp[H]) q;intro B h;rcases h with h|⟨j,f,q⟩;exact .inl h;obtain⟨S,H⟩:=d j f;refine .inr (.inr ⟨j,⟨by obtain⟨e,row,l,fr,H⟩:=H;simp[H],.inl ?_⟩,q⟩);rw[R];simp only[ai,aO S,N!];exact W fz j f H;intro j x h _;rw[o];simp only[bD];rcases z j x h with⟨rfl,rfl⟩|⟨S,f,e',row,l,fr,H,rfl⟩;exact K A' (λ_ h=>.inl h) (λ_ h=>h) (λj f B h=>.inr ⟨j,f,h⟩);obtain⟨xs,h1,m,h3⟩:=D.blocks j _ H;have B4:∀B,ah (β j)=some B->B≠b:=λB h p=>S (D.apart j k b (by simp[H]) J (p▸h) X);refine⟨xs,dH h1 (λB h=>s B (B4 B h)),bR (λc x hx=>bE u row c x hx) l xs m,λB h=>?_⟩;simp only[Q?];exact .inr ⟨j,f,h⟩
def yG(I:bM T P)(p:aq C A β st a w)(J:∀t,dst=some t->t<st.n){k off:Nat}{v:Value}(L:aa w A β v (.ref k off))(M:aa w A β vx x)
  (h:jt T st.h t (.ref k off) x=some out):∃w',(Instr.storeAt t v vx).run P w= .ok () w'/\Rel C (st.put dst out) (a.put dst undef) w':=by
 simp[jt] at h;split at h
 . rename_i cs N;cases H:(x.cells.all AV.one&&kU T t x.cells.length&&Nat.ble (off+x.cells.length) cs.length) with
   |false=>grind
   |true=>
    simp[H,K!,A!] at h;subst h;simp only[B!] at H;obtain⟨⟨Q,O⟩,q⟩:=H;have q:=L! q;obtain⟨i,R,E⟩:=rN I O;obtain⟨S,U,Z⟩:=zP Q M;obtain⟨b,c,rfl⟩:=L;obtain⟨B,arr,e,f,g,D,F,d⟩:=p.blocks k _ N;rw[c] at f;simp at f;subst f;have G:=ajO cs _ F;have V:ah (β k)=some b:=by rw[c];rfl
    refine⟨_,nN R w! U g x!,?_⟩;refine p.write J (k:=k) (fz:=[]) (ab:=.cells (Nj cs off x.cells)) x! V D g ⟨rfl,rfl,rfl⟩ z! ?_ (by rfl);intro A' m y W;have X:bI w (w.setRow b (arr.toList.take off++vx.cells.toList++arr.toList.drop (off+vx.cells.toList.length)).toArray) A A':=λB h=>⟨m B h,setRow_other w b B _ (λY=>D (Y▸h))⟩;refine⟨b,_,e,c,setRow_heap w b arr _ e _ g,λh=>?_,cN X _ _ (B3 F S),?_⟩;grind;grind
 grind
theorem Tb {k:IntKind}{n:Int}(h:lo k<=n/\n<=hi k):DI.toInt k (DI.ofInt k n)=n:=by
 cases k<;>try rfl
 grind[lo,hi,DI.toInt,DI.ofInt,UInt8.toNat_ofNat']
theorem Od:∀(t:Ty) (x:AV) (v:Value) (d:D t),aa w A β v x->X8 t x=some d->Rd w A t v d:=by
 intro t x v d h H;unfold X8 at H;split at H;grind[Option.some.injEq,aa,Rd,Tb];grind[Option.some.injEq,Rd,aa];grind[Option.some.injEq,Rd,aa];grind[Option.some.injEq,Rd,aa];grind[Option.some.injEq,Rd,aa];grind[ju,aa];grind[ju,aa];simp at H;subst H;simp[aa] at h;exact⟨none,0,[],w!,z!,z!,by rfl,z!⟩;grind
theorem xW {t:Ty}:∀(T:M Ty) (x:D t) (y:Row T),Row.hd (Row.mk x y:Row (t::T))=x
 |[],_,_|_::_,_,_=>rfl
theorem B5 {t:Ty}:∀(T:M Ty) (x:D t) (y:Row T),Row.tl (Row.mk x y:Row (t::T))=y
 |[],_,_|_::_,_,_=>rfl
theorem lY:∀(T:M Ty) (xs:M AV) (V:M Value) (r:Row T),ae w A β V xs->kA T xs=some r->bJ w A T V r
 |[],[],V,r,h,_=>by grind[ae,bJ]
 |t::T,x::xs,V,r,h,H=>by
  obtain⟨v,c,rfl,f,g⟩:=h;simp[kA] at H;split at H;rename_i d y k m;simp at H;subst H;exact⟨v,c,rfl,by rw[xW];exact Od t x v d f k,by rw[B5];exact lY T xs c y g m⟩;cases H
 |[],_::_,_,_,_,H|_::_,[],_,_,_,H=>by grind[kA]
def LF:∀(T:M Ty) (r:Row T) (j:Nat) (x:AV) (cs:M Value) (v:Value) (R:Row T),bJ w A T cs r->aa w A β v x->setRow T r j x=some R->bJ w A T (cs.set j v) R/\j<cs.length
 |[],_,_,_,_,_,_,_,_,H=>by grind[setRow]
 |t::T,r,0,x,cs,v,R,h,hx,H=>by
  simp[bJ] at h;simp[setRow] at H;split at H;simp[bJ,List.set_cons_zero];grind[xW,Od,B5];grind
 |t::T,r,j+1,x,cs,v,R,h,hx,H=>by
  obtain⟨u,g,rfl,f,k⟩:=h;simp[setRow] at H;split at H;rename_i y m;simp at H;subst H;obtain⟨G,g2⟩:=LF T _ j x g v y k hx m;exact⟨⟨u,_,rfl,by rw[xW];exact f,by rw[B5];exact G⟩,by simp[g2]⟩;cases H
def Yo(cs:M Value)(j:Nat)(v:Value)(u:M Value)(h:j<cs.length):(cs.set j v).take (j+1)++u++(cs.set j v).drop (j+1+u.length)=cs.take j++(v::u)++cs.drop (j+(v::u).length):=by
 grind[List.take_succ_eq_append_getElem,List.take_set_of_le,List.drop_set_of_lt]
theorem zQ(t:M Ty):∀(xs:M AV) (r:Row t) (j:Nat) (cs u:M Value) (R:Row t),bJ w A t cs r->ae w A β u xs->sL t r j xs=some R->bJ w A t (cs.take j++u++cs.drop (j+u.length)) R/\(u≠ []->j+u.length<=cs.length)
 |[],r,j,cs,u,R,h,hx,H=>by
   simp_all[ae,sL,A!]
 |x::xs,r,j,cs,u,R,h,hx,H=>by
  obtain⟨v,J,rfl,k,m⟩:=hx;simp[sL] at H;split at H;rename_i y p;obtain⟨G,g2⟩:=LF t r j x cs v y h k p;obtain⟨f,F⟩:=zQ t xs y (j+1) (cs.set j v) J R G m H;rw[Yo cs j v J g2] at f;refine⟨f,λ_=>?_⟩;by_cases g:J=[];subst g;simp;omega;have:=F g;simp at this |-;omega;cases H
theorem uU(F:aq C A β st a w)(h:aa w A β v x)(N:∀b,A b->A' b)(o:∀k∈(jA st.h x).2,∀b,ah (β k)=some b->A' b):
  aa w A' β v (jA st.h x).1/\∀k∈(jA st.h x).2,∃e row l fr,st.h k=some (.row e row l fr):=by
 have I:bI w w A A':=λb O=>⟨N b O,rfl⟩;unfold jA at o |-;split at o;rename_i k;simp only[aa] at h;split at o;rename_i e row l fr p;refine⟨?_,λj L=>by grind⟩;simp only[aa,Rd];rcases pr F p with⟨g1,g⟩|⟨b,cap,cs,g1,g,D,G,q⟩;subst g;rw[h.1,g1];exact⟨none,0,[],rfl,z!,z!,by rfl,z!⟩;rw[h.1,g1];exact⟨_,cap,cs,rfl,g,D,bR (λc x B=>bE I row c x B) l cs G,λ_=>⟨b,0,rfl,o k z! b (by rw[g1];rfl),q⟩⟩;grind[aa];rename_i k n;simp only[aa] at h;split at o;rename_i e row l fr p;refine⟨?_,λj L=>by grind⟩;simp only[aa,Rd];rcases h with⟨H,f,J⟩|⟨R,m,S,H,f,J⟩;subst J;rw[f];exact⟨none,0,[],z!,z!,z!,by rfl,z!⟩;rcases pr F p with⟨g1,g⟩|⟨b,cap,cs,g1,g,D,G,q⟩;grind;rw[g1] at H;simp at H;have M:(l.take n).length=n:=by grind
 refine⟨_,cap,cs.take (n*row.length),x!,w!,D,bR (λc x B=>bE I row c x B) _ _ (gK l cs n G).1,λ_=>⟨b,0,rfl,o k z! b (by rw[g1];rfl),kC q⟩⟩;grind[aa]
 . rename_i k sz off n;simp only[aa] at h;split at o
   . rename_i e row l fr p;cases E:Nat.beq sz row.length with
     |false=>grind[aa]
     |true=>
      simp only[E,cond_true] at o |-;have E:=Nat.eq_of_beq_eq_true E;subst E;refine⟨?_,λj L=>by grind⟩;rcases h with⟨U,V,cap,f,W⟩|⟨R,m,S,X,H,f,J,Y,Z⟩;subst U;rw[f];exact⟨V,cap,[],z!,z!,W,by rfl,z!⟩;rcases pr F p with⟨g1,g⟩|⟨b,cap,cs,g1,g,D,G,q⟩;grind;rw[g1] at H;simp at H;obtain⟨rfl,rfl,rfl⟩:=H;have M:((l.drop off).take n).length=n:=by grind
      refine⟨_,X,(cs.drop (off*row.length)).take (n*row.length),by rw[f,M],w!,w!,bR (λc x B=>bE I row c x B) _ _ (gK _ _ n (gK l cs off G).2).1,λ_=>⟨b,_,rfl,o k z! b (by rw[g1];rfl),?_⟩⟩;have:=kC (n:=n*row.length) (avE (n:=off*row.length) q);grind
   grind[aa]
 grind[jh]
theorem Tc(H:aq C A β st a w)(f:∀b,A b->A' b):∀(xs:M AV) (V:M Value),ae w A β V xs->(∀k∈(qj st.h xs).2,∀b,ah (β k)=some b->A' b)->
  ae w A' β V (qj st.h xs).1/\∀k∈(qj st.h xs).2,∃e row l fr,st.h k=some (.row e row l fr)
 |[],V,h,_=>by grind[ae,qj]
 |x::xs,V,h,o=>by
  obtain⟨v,c,rfl,g,m⟩:=h;simp only[qj] at o |-;obtain⟨p,P⟩:=uU H g f (λk hk=>o k (by simp[hk]));obtain⟨q,Q⟩:=Tc H f xs c m (λk hk=>o k (by simp[hk]));refine⟨by exact⟨v,c,rfl,p,q⟩,λk hk=>?_⟩;rcases I!.1 hk with hk|hk;exact P k hk;exact Q k hk
def yH(H:aq C A β st a w)(f:∀b,A b->A' b)(x:AV)(v:Value)(h:aa w A β v x)(o:∀k∈(oG st.h x).2,∀b,ah (β k)=some b->A' b):
  aa w A' β v (oG st.h x).1/\∀k∈(oG st.h x).2,∃e row l fr,st.h k=some (.row e row l fr):=by
 unfold oG at o |-;split at o;grind[Tc,aa];grind[uU]
def Td(H:aq C A β st a w)(f:∀b,A b->A' b):∀(xs:M AV) (V:M Value),ae w A β V xs->(∀k∈(ry st.h xs).2,∀b,ah (β k)=some b->A' b)->
  ae w A' β V (ry st.h xs).1/\∀k∈(ry st.h xs).2,∃e row l fr,st.h k=some (.row e row l fr)
 |[],V,h,_=>by grind[ae,ry]
 |x::xs,V,h,o=>by
  obtain⟨v,c,rfl,g,m⟩:=h;simp only[ry] at o |-;obtain⟨p,P⟩:=yH H f x v g (λk hk=>o k (by simp[hk]));obtain⟨q,Q⟩:=Td H f xs c m (λk hk=>o k (by simp[hk]));refine⟨by exact⟨v,c,rfl,p,q⟩,λk hk=>?_⟩;rcases I!.1 hk with hk|hk;exact P k hk;exact Q k hk
theorem HJ {h:aP}:∀(xs:M AV),(qj h xs).1.length=xs.length
 |[]=>rfl
 |x::xs=>by simp[qj,HJ xs]
theorem HK(x:AV):(oG h x).1.cells.length=x.cells.length:=by
 unfold oG;split;simp[AV.cells,HJ];rename_i H;have hz:x.cells.length=1:=by cases x<;>first|rfl|grind
 rw[hz];unfold jA;split;split<;>rfl
 split<;>rfl
 split;rename_i sz _ _ _ _ r _ _ _;cases Nat.beq sz r.length<;>rfl;rfl;omega
def Oe(h:aa w A β v x){r R:Row row}(p:bJ w A row cs r)(q:sL row r j x.cells=some R):
  ae w A β v.cells.toList x.cells/\bJ w A row (cs.take j++v.cells.toList++cs.drop (j+v.cells.toList.length)) R/\(∀u∈v.cells.toList,u.oneCell'=true)/\(v.cells.toList≠ []->j+v.cells.toList.length<=cs.length)/\v.cells.size=x.cells.length:=by
 have k:∀U,ae w A β U x.cells->bJ w A row (cs.take j++U++cs.drop (j+U.length)) R/\(∀u∈U,u.oneCell'=true)/\(U≠ []->j+U.length<=cs.length):=by
  grind[zQ,B2]
 by_cases H:∃cs,x= .agg cs;obtain⟨xs,rfl⟩:=H;simp[aa] at h;grind[Value.cells,AV.cells,ajO];have f:x.cells=[x]:=by cases x<;>first|rfl|exact absurd ⟨_,rfl⟩ H
 have E:ae w A β [v] x.cells:=by rw[f];exact⟨v,[],rfl,h,rfl⟩
 obtain⟨g,K,m⟩:=k [v] E;have h1:=K v z!;rw[cells_one h1];exact⟨E,g,K,m,by rw[f];rfl⟩
theorem Of {row:M Ty}{l:M (Row row)}{i j:Nat}{cur:Array Value}{us:M Value}{y:Row row}(hi:i<l.length)(h:dZ (bJ w A row) (cur.toList.take (l.length*row.length)) l)
  (H:∀c,bJ w A row c l[i]->bJ w A row (c.take j++us++c.drop (j+us.length)) y/\(us≠ []->j+us.length<=c.length)) (B:l.length*row.length<=cur.size):
  let new:=(cur.toList.take (i*row.length+j)++us++cur.toList.drop (i*row.length+j+us.length)).toArray
  new.size=cur.size/\dZ (bJ w A row) (new.toList.take (l.length*row.length)) (l.set i y)/\i*row.length+j+us.length<=cur.size\/us=[]:=by
 intro new;by_cases E:us=[];exact .inr E;left;obtain⟨C,c,f,e,k,g,m,p⟩:=vj l _ i hi h;obtain⟨q,F⟩:=H c g;have F:=F E;have D:=jk row c _ g
 have G:i*row.length+row.length<=l.length*row.length:=by
  have :(i+1)*row.length<=l.length*row.length:=I? _ hi;rwa [q?,Nat.one_mul] at this
 have n:i*row.length+j+us.length<=cur.size:=by omega
 refine⟨by simp[new];omega,?_,n⟩;have N:cur.toList=C++(c++f)++cur.toList.drop (l.length*row.length):=by rw[<-e,O?]
 have I:new.toList=C++((c.take j++us++c.drop (j+us.length))++f)++cur.toList.drop (l.length*row.length):=by
  have t1:cur.toList.take (i*row.length+j)=C++c.take j:=by
   rw[N,<-k,X!,List.take_length_add_append,X!,List.take_append_of_le_length w!]
  have t2:cur.toList.drop (i*row.length+j+us.length)=c.drop (j+us.length)++f++cur.toList.drop (l.length*row.length):=by
   conv=>lhs;rw[N]
   rw[show i*row.length+j+us.length=C.length+(j+us.length) by omega,X!,List.drop_length_add_append,X!,List.drop_append_of_le_length w!,X!]
  simp only[new,t1,t2];simp
 rw[I]
 have a:(C++((c.take j++us++c.drop (j+us.length))++f)).length=l.length*row.length:=by
  have:=congrArg List.length e;simp at this |-;omega
 rw[<-a,List.take_left]
 have r:l.set i y=l.take i++(y::l.drop (i+1)):=by
  rw[i?,Q! hi]
 rw[r];exact j5 _ _ _ _ m ⟨_,f,rfl,q,p⟩
def HL(K:bM T P)(G:aq C A β st a w)(hd:∀t,dst=some t->t<st.n){k sz i j:Nat}{x:AV}{v:Value}(o:aa w A β v (.elem k sz i j))(I:aa w A β vx x){out:Out}
  (h:jt T st.h t (.elem k sz i j) x=some out) (N:∀p∈out.cond,p):∃w',(Instr.storeAt t v vx).run P w= .ok () w'/\Rel C (st.put dst out) (a.put dst undef) w':=by
 simp only[jt] at h;split at h
 . rename_i e row l hk;cases H:(Nat.beq sz row.length&&kU T t x.cells.length&&Nat.blt 0 x.cells.length) with
   |false=>grind
   |true=>
    simp only[H,K!] at h;simp only[B!] at H;obtain⟨⟨Q,q2⟩,r⟩:=H;have r:=L! r;have Q:=D! Q;subst Q;split at h
    . rename_i y O;cases S:(oG st.h x).2.elem k with
      |true=>grind
      |false=>
       rw[S] at h;simp only[cond_false,Option.some.injEq] at h;subst h;have hi:i<l.length:=fH N;rw[getD_eq l _ _ hi] at O;simp only[aa] at o;obtain⟨b,m,cap,R,rfl⟩:=o;rcases lX G hk with⟨_,hl⟩|⟨B,lq,f,s,U,V,HD,eY,hL,M⟩;grind;rw[R] at s;obtain⟨rfl,rfl,rfl⟩:=s;simp only[Bool.false_eq_true,if_false] at M;have g:ah (β k)=some b:=by rw[R];rfl
       obtain⟨ii,kQ,vq⟩:=rN K q2;let D:Nat->Prop:=λB=>A B\/∃j∈(oG st.h x).2,ah (β j)=some B
       obtain⟨u,W⟩:=yH (A':=D) G (λb h=>.inl h) x vx I (λk hk b g=>.inr ⟨k,hk,g⟩);have X:bI w w A D:=λb h=>⟨.inl h,rfl⟩;have J:dZ (bJ w D row) (f.toList.take (l.length*row.length)) l:=bR (λc x I=>bE X row c x I) l _ hL;have z:l.length*row.length<=f.size:=by simp_all[I?]
       have Y:∀c,bJ w D row c l[i]->bJ w D row (c.take j++vx.cells.toList++c.drop (j+vx.cells.toList.length)) y/\(vx.cells.toList≠ []->j+vx.cells.toList.length<=c.length):=
        λc N=>let h:=Oe u N O;⟨h.2.1,h.2.2.2.1⟩
       obtain⟨c1,c,c2,e1,e2,e3,e4,e5⟩:=vj l _ i hi J;have Sv:=Oe u e3 O
       have qp:vx.cells.size=ii.size:=by
        grind[HK]
       rcases Of hi J Y z with⟨E,g2,g3⟩|EA;refine⟨_,nN kQ qp Sv.2.2.1 U (by simpa using g3),?_⟩;refine G.write hd (k:=k) (fz:=(oG st.h x).2) (ab:=.row e row (l.set i y) false) (by simp[hk]) g M U ⟨rfl,rfl,rfl⟩ (λq H=>⟨?_,W q H⟩) ?_ (by simp[aa]);rintro rfl;rw[List.elem_eq_mem] at S;simp[H] at S;intro A2 h1 h2 h3
       have hK:bI w (w.setRow b (f.toList.take (i*row.length+j)++vx.cells.toList++f.toList.drop (i*row.length+j+vx.cells.toList.length)).toArray) D A2:=by
        intro B F;rcases F with F|⟨q,H,L⟩;exact⟨h1 B F,setRow_other w b B _ (λZ=>M (Z▸F))⟩;refine⟨h3 q H B L,setRow_other w b B _ (λZ=>?_)⟩;subst Z;obtain⟨e',mj,l',Hq,d⟩:=W q H;have :q=k:=G.apart q k B (by simp[d]) (by simp[hk]) L g;subst this;rw[List.elem_eq_mem] at S;simp[H] at S
       refine⟨_,⟨?_,.inr ⟨b,cap,_,by rw[R];simp,w!,setRow_heap w b f _ e _ U,by simpa using V,HD,E.trans eY,rfl⟩⟩,?_,λB F=>?_⟩;rw[List.length_take];refine Nat.min_eq_left ?_;rw[List.length_set];exact Nat.le_trans z (Nat.le_of_eq E.symm);simp only[List.length_set];exact bR (λc x I=>bE hK row c x I) _ _ g2;rw[g] at F;simp only[Option.some.injEq] at F;subst F;simp only[Bool.false_eq_true,if_false];intro Yn;rcases h2 _ Yn with h|⟨q,H,L⟩;exact M h;obtain⟨e',mj,l',Hq,d⟩:=W q H;have :q=k:=G.apart q k _ (by simp[d]) (by simp[hk]) L g;subst this;rw[List.elem_eq_mem] at S;simp[H] at S;grind
    grind
 grind
theorem gx {k:Nat}(h:ai [(d,ab)] k=some b):k=d/\b=ab:=by
 grind[ai,aO]
theorem eE(o:Obj)(k:Nat)(h:k<w.heap.size):(w.alloc o).heap[k]? =w.heap[k]? :=heap_alloc_old w o k h
theorem aq.JU(g:aq C A β st a w)(q:∀t,dst=some t->t<st.n){cs:M AV}{cond:M Prop}
  (G:st.h d=none/\rJ d=false) (f:ae w A β arr.toList cs) (m:∀v∈arr.toList,v.oneCell'=true):
  aq C A (br β d (.pointer (some ⟨w.heap.size,0,none⟩))) (st.put dst {cond:=cond,res:=.ref d 0,new:=[(d,.cells (gv d cs))]}) (a.put dst (.pointer (some ⟨w.heap.size,0,none⟩))) (w.alloc (.cells arr e)):=by
 have p:bI w (w.alloc (.cells arr e)) A A:=λb H=>⟨H,eE _ b (g.bound b H)⟩
 have c:∀k,ai [(d,AB.cells (gv d cs))] k=none->br β d (.pointer (some ⟨w.heap.size,0,none⟩)) k=β k:=by
  intro k h;have :k≠d:=by rintro rfl;simp[ai] at h
  grind[br]
 refine g.step (out:={cond:=cond,res:=.ref d 0,new:=[(d,.cells (gv d cs))]}) q ?_ (by simp[ai]) c p rfl rfl rfl z! (λb H _=>eE _ b H) (λb H=>by have:=g.bound b H;simp;omega) (λb H=>.inl H) (by simp[ai]) ?_ ?_ ?_ ?_;grind[gx];intro k ab h;obtain⟨rfl,rfl⟩:=gx h;refine⟨w.heap.size,arr,e,by simp[br],heap_alloc_new w _,λh=>absurd (g.bound _ h) w!,ji k _ _ _ (cN p _ _ f),m⟩;intro k b ab h H;obtain⟨rfl,_⟩:=gx h;simp_all[br,if_true,ah,Option.some.injEq]
 grind[Option.isSome_iff_exists,gx];exact⟨w.heap.size,by simp[br],rfl⟩
theorem kD:∀(f:M Nat) j x,ai (cG h f) j=some x->j∈f/\∃e row l fr,h j=some (.row e row l fr)/\x= .row e row l true:=by
 intro f;induction f with
 |nil=>grind[cG,ai]
 |cons i f I=>
  intro j x h;simp[cG] at h;split at h;simp[ai] at h;by_cases Y:j=i;grind;simp_all[aO,cond_false]
  grind
theorem sw:∀(f:M Nat) j,j∈f->(∃e row l fr,h j=some (.row e row l fr))->(ai (cG h f) j).isSome:=by
 intro f;induction f with
 |nil=>grind
 |cons i f I=>
  intro j h H;simp[cG];by_cases Y:j=i;subst Y;obtain⟨e,row,l,fr,H⟩:=H;simp[H,ai];have:=I j ((O!.1 h).resolve_left Y) H;split;simp_all[ai,aO,N!]
  omega
def cd(A:Nat->Prop)(β:Nat->Value)(f:M Nat):Nat->Prop:=λb=>A b\/∃j∈f,ah (β j)=some b
theorem oK(D:aq C A β st a w){j B:Nat}(F:(st.h j).isSome)(G:ah (β j)=some B):B<w.heap.size:=by
 obtain⟨ab,K⟩:=Z!.1 F;have f:=D.blocks j ab K;cases ab with
 |mp I es ck=>
  obtain⟨H,k,_⟩:=f;grind[ah,Option.some.injEq,Array.getElem?_eq_some_iff]
 |arr _ _|fvar _ _=>
  obtain⟨b,arr,e,H,k,_⟩:=f;grind[ah,Option.some.injEq,Array.getElem?_eq_some_iff]
 |cells cs=>
  obtain⟨b,arr,e,H,k,_⟩:=f;grind[ah,Option.some.injEq,Array.getElem?_eq_some_iff]
 |row e row l fr=>
  obtain⟨xs,H,_⟩:=f;rcases H.2 with⟨m,_⟩|⟨g,cap,c,p,_,q,_⟩;grind[ah];grind[ah,Option.some.injEq,Array.getElem?_eq_some_iff]
 |iE e j row l i=>
  obtain⟨xs,v,H,_⟩:=f;rcases H.2 with⟨m,_⟩|⟨g,cap,c,p,_,q,_⟩;grind[ah];grind[ah,Option.some.injEq,Array.getElem?_eq_some_iff]
 |views _ _ _ _ _|dO _ _ _|bm _ _ _ _|eG _ _ _ _=>
  obtain⟨xs,H,_⟩:=f;rcases H.2 with⟨m,_⟩|⟨g,cap,c,p,_,q,_⟩;grind[ah];grind[ah,Option.some.injEq,Array.getElem?_eq_some_iff]
theorem aq.Yp(g:aq C A β st a w)(F:∀t,dst=some t->t<st.n){e:Nat}{row:M Ty}{l:M (Row row)}{cond:M Prop}{fz:M Nat}{xs:M Value}
  (X:st.h d=none/\rJ d=false) (f:w.grownBy w' none) (G:∀j∈fz,∃e row l fr,st.h j=some (.row e row l fr))
  (J:w'.ownsRow 0 e row.length v' l.length xs) (s:dZ (bJ w (cd A β fz) row) xs l) (B:∀b,ah v'=some b->w.heap.size<=b):
  aq C (cd A β fz) (br β d v') (st.put dst {cond:=cond,res:=.own d,hX:=cG st.h fz,new:=[(d,.row e row l false)]}) (a.put dst v') w':=by
 have Y:∀b,cd A β fz b->b<w.heap.size:=by
  intro b h;rcases h with h|⟨j,m,H⟩;exact g.bound b h;exact oK g x! H
 have D:bI w w' A (cd A β fz):=λb H=>⟨.inl H,f.block b (g.bound b H) z!⟩;have S:bI w w' (cd A β fz) (cd A β fz):=λb H=>⟨H,f.block b (Y b H) z!⟩
 have I:∀k,ai [(d,AB.row e row l false)] k=none->br β d v' k=β k:=by
  intro k h;have :k≠d:=by rintro rfl;simp[ai] at h
  grind[br]
 refine g.step (out:={cond:=cond,res:=.own d,hX:=cG st.h fz,new:=[(d,.row e row l false)]}) F ?_ ?_ I D f.os f.tape f.output f.size (λb H _=>f.block b H z!) (λb H=>Nat.lt_of_lt_of_le (Y b H) f.size) ?_ ?_ ?_ ?_ ?_ ?_;grind[gx];intro k b h;obtain⟨_,_,_,_,_,h,_⟩:=kD fz k b h;grind;intro b h;rcases h with h|⟨j,m,H⟩;grind;have p:=G j m;exact .inr (.inr ⟨j,⟨x!,.inl (sw fz j m p)⟩,H⟩);intro k ab h _;obtain⟨N,E,O,L,Z,p,rfl⟩:=kD fz k ab h;rw[nI];have R:k≠d:=by grind
 have v:br β d v' k=β k:=by grind[br]
 obtain⟨V,U,W,i⟩:=g.blocks k _ p;simp only[BR,v];refine⟨V,dH U (λb H=>f.block b (oK g x! H) z!),bR (λc x q=>bE D O c x q) L V W,λb H=>?_⟩;simp only[if_true];exact .inr ⟨k,N,H⟩;intro k ab h;obtain⟨rfl,rfl⟩:=gx h;refine⟨xs,by grind[br],bR (λc x q=>bE S row c x q) l xs s,λb H=>?_⟩;simp only[br,if_true] at H;grind;intro k b ab h H;obtain⟨rfl,_⟩:=gx h;simp_all[br,if_true]
 grind[Option.isSome_iff_exists,gx];simp only[aa,br,if_true,true_and];obtain⟨o,L,c,rfl⟩:=jC J;rfl
def Vr(H:bM T P)(g:aq C A β st a w)(k:∀t,dst=some t->t<st.n)(G:st.h d=none/\rJ d=false)(m:T.find t=some te)(f:(ofConst te.zero).cells.all AV.one=true):
  ∃v' w',(Instr.alloc t true (.tuple #[])).run P w= .ok v' w'/\Rel C (st.put dst {cond:=[],res:=.ref d 0,new:=[(d,.cells (gv d (ofConst te.zero).cells))]}) (a.put dst v') w':=by
 obtain⟨q,i,hi,B,D,F⟩:=H.ok t te m;obtain⟨c,p,I⟩:=zP f (zJ (w:=w) (A:=A) (β:=β) te.zero);refine⟨.pointer (some ⟨w.heap.size,0,none⟩),w.alloc (.cells te.zero.cells t),?_,Rel.kP (g.JU k G c p)⟩;simp_all[Instr.alloc,zeroValue,typeInfo,hi,newVar,newRow]
def Og(H:aq C A β st a w)(g:∀t,dst=some t->t<st.n)(G:st.h d=none/\rJ d=false)(k:aa w A β v x)(f:x.cells.all AV.one=true):
  ∃v' w',(Instr.box t v).run P w= .ok v' w'/\Rel C (st.put dst {cond:=[],res:=.ref d 0,new:=[(d,.cells (gv d x.cells))]}) (a.put dst v') w':=by
 obtain⟨c,m,p⟩:=zP f k;refine⟨.pointer (some ⟨w.heap.size,0,none⟩),w.alloc (.cells v.cells t),?_,Rel.kP (H.JU g G c m)⟩;rfl
def LG(off:Nat):∀(l:M Value) (k:Nat) (arr:Array Value),off+k+l.length<=arr.size->
  ((l.zipIdx k).foldl (λcs (x:Value×Nat)=>cs.setIfInBounds (off+x.2) x.1) arr).toList=arr.toList.take (off+k)++l++arr.toList.drop (off+k+l.length)
 |[],k,arr,_=>by simp
 |v::l,k,arr,h=>by
  simp;rw[LG off l (k+1) _ (by simp at h |-;omega)];have e:=list_seg_step arr.toList (off+k) v l w!;simpa[Nat.add_assoc] using e
def yI(P:Nat->Option (Nat×Nat)):∀(p:M (Nat×AV)) (V:M (Nat×Value)) (cs:M AV) (arr:Array Value) (r:M AV),ae w A β arr.toList cs->
  V.map (·.1)=p.map (·.1)->ae w A β (V.map (·.2)) (p.map (·.2))->zF P cs p=some r->
  ∃l,Instr.fill P arr V=some l/\ae w A β l.toList r
 |[],[],cs,arr,r,h,_,_,H=>by
   simp[zF,A!] at H;subst H;exact⟨arr,rfl,h⟩
 |(i,x)::p,(I,v)::V,cs,arr,r,h,f,m,H=>by
  simp at f;obtain⟨J,f⟩:=f;obtain⟨L,O,B,D,F⟩:=m;obtain⟨rfl,rfl⟩:=B;simp[zF] at H;split at H;grind
  . rename_i off s N;cases g:(Nat.beq x.cells.length s&&Nat.ble (off+s) cs.length&&x.cells.all AV.one) with
    |false=>grind
    |true=>
     simp[g,K!] at H;simp only[B!] at g;obtain⟨⟨q,Q⟩,G⟩:=g;have q:=D! q;have Q:=L! Q;obtain⟨c,C,R⟩:=zP G D;have k:=ajO cs _ h;have S:=B3 (off:=off) h c
     have a:(v.cells.zipIdx.foldl (λcs (x:Value×Nat)=>cs.setIfInBounds (off+x.2) x.1) arr).toList=arr.toList.take off++v.cells.toList++arr.toList.drop (off+v.cells.toList.length):=by
      have:=LG off v.cells.toList 0 arr x!;grind[Array.toList_zipIdx]
     obtain⟨l,U,W⟩:=yI P p V _ (v.cells.zipIdx.foldl (λcs (x:Value×Nat)=>cs.setIfInBounds (off+x.2) x.1) arr) r x! f F H;simp_all[Instr.fill,if_neg]
 |[],_::_,_,_,_,_,f,_,_|_::_,[],_,_,_,_,f,_,_=>by grind
def run_places(H:bM T P):∀(F:M Field) (p:M (Nat×Nat)),placesOf T F=some p->
  (List.mapM (m:=Sem) (λ(f:Field)=>do pure (f.offset,<-sizeOf f.type)) F).run P w= .ok p w
 |[],p,h=>by simp_all[placesOf,A!]
 |f::F,p,h=>by
  simp[placesOf] at h;split at h;rename_i te g k q;simp at h;subst h;obtain⟨_,i,hi,B,_⟩:=H.ok _ _ k;have I:=run_places H F g q;have h1:(sizeOf f.type).run P w= .ok te.size w:=by simp[sizeOf,typeInfo,hi,B]
  simp only[List.mapM_cons,Sem.run_bind,h1,Result.andThen_ok,Sem.run_pure];rw[I];rfl;cases h
theorem lv(z:Value):ae w A β z.cells.toList (ofConst z).cells:=by
 have h:=zJ (w:=w) (A:=A) (β:=β) z;by_cases H:∃cs,ofConst z= .agg cs;obtain⟨cs,f⟩:=H;rw[f] at h |-;obtain⟨arr,rfl,h⟩:=h;exact h
 have f:(ofConst z).cells=[ofConst z]:=by
  cases g:ofConst z<;>first|rfl|grind
 have g:z.cells= #[z]:=by
  cases z<;>first|rfl|exact absurd ⟨_,rfl⟩ H
 grind[ae]
def Vs(H:bM T P){p:M (Nat×AV)}{v:Array (Nat×Value)}(g:v.toList.map (·.1)=p.map (·.1))(k:ae w A β (v.toList.map (·.2)) (p.map (·.2)))
  (h:JH T t p=some out):Reads P A β w (Instr.build t v) out:=by
 unfold JH at h;split at h;rename_i te q;obtain⟨hu,i,hi,N,O,hz⟩:=H.ok t te q;split at h;rename_i F B;split at h;rename_i m D;split at h;rename_i cs f;simp at h;subst h;obtain⟨l,G,I⟩:=yI (λi=>m[i]?) p v.toList _ te.zero.cells cs (lv te.zero) g k f;refine⟨⟨rfl,rfl,rfl⟩,.agg l,?_,by grind[aa]⟩;have hm:=run_places (w:=w) H F.toList m D;simp only[Instr.build,zeroValue,typeInfo,Sem.run_bind,run_program,Result.andThen_ok,hi,hz,Sem.run_pure,run_underlying hu,Array.mapM_eq_mapM_toList,Sem.run_map,hm];simp_all
 grind;grind;rename_i n e B;split at h;rename_i E J;split at h;rename_i cs f;simp at h;subst h;obtain⟨_,R,L,V,_⟩:=H.ok e E J;obtain⟨l,G,I⟩:=yI (λi=>some (i*E.size,E.size)) p v.toList _ te.zero.cells cs (lv te.zero) g k f;refine⟨⟨rfl,rfl,rfl⟩,.agg l,?_,by grind[aa]⟩;simp_all[Instr.build,zeroValue,typeInfo,hi,run_underlying,sizeOf]
 grind;grind;grind;grind
def qu(z:Array Value)(hz:0<z.size):∀n,(List.range (n*z.size)).map (λi=>z[i%z.size]!)=(List.replicate n z.toList).flatten
 |0=>by simp
 |n+1=>by
  rw[q?,Nat.one_mul,List.range_add,X?,qu z hz n,List.replicate_succ',List.flatten_append];congr 1
  apply List.ext_getElem;simp;simp_all[Nat.add_mod,Nat.mod_eq_of_lt]
theorem qv {v:M Value}{xs:M AV}(h:ae w A β v xs):∀n,ae w A β (List.replicate n v).flatten (List.replicate n xs).flatten
 |0=>by rfl
 |n+1=>by
  exact ia _ _ _ _ h (qv h n)
def B6(t:M Ty):∀(n:Nat) (xs:M AV) (v:M Value) (l:M (Row t)),ae w A β v xs->zC t n xs=some l->dZ (bJ w A t) v l/\l.length=n
 |0,[],v,l,h,H=>by
  grind[zC,Option.some.injEq,ae,dZ]
 |0,_::_,_,_,_,H=>by grind[zC]
 |n+1,xs,v,l,h,H=>by
  simp[zC] at H;split at H;rename_i x L f g;simp at H;subst H;obtain⟨s,S⟩:=my xs v t.length h;obtain⟨G,g2⟩:=B6 t n _ _ L S g;exact⟨⟨_,_,(O? _ _).symm,lY t _ _ x s f,G⟩,by simp[g2]⟩;cases H
def Te(H:aq C A β st a w)(f:∀b,A b->A' b):∀(p:M (Nat×AV)) (V:M Value),ae w A β V (p.map (·.2))->(∀k∈(rz st.h p).2,∀b,ah (β k)=some b->A' b)->
  ae w A' β V ((rz st.h p).1.map (·.2))/\(rz st.h p).1.map (·.1)=p.map (·.1)/\∀k∈(rz st.h p).2,∃e row l fr,st.h k=some (.row e row l fr)
 |[],V,h,_=>by grind[ae,rz]
 |(i,x)::p,V,h,o=>by
  obtain⟨v,c,rfl,g,m⟩:=h;simp only[rz] at o |-;obtain⟨P,q⟩:=yH H f x v g (λk hk=>o k (by simp[hk]));obtain⟨Q,q2,B⟩:=Te H f p c m (λk hk=>o k (by simp[hk]));refine⟨by exact⟨v,c,rfl,P,Q⟩,by simp[q2],λk hk=>?_⟩;rcases I!.1 hk with hk|hk;exact q k hk;exact B k hk
def HQ(N:bM T P)(D:aq C A β st a w)(O:∀t,dst=some t->t<st.n)(R:st.h d=none/\rJ d=false){L:Nat}{p:M (Nat×AV)}{v:Array (Nat×Value)}
  (H:v.toList.map (·.1)=p.map (·.1)) (S:ae w A β (v.toList.map (·.2)) (p.map (·.2)))
  (h:lj T st.h d t L p=some out):∃v' w',(Instr.buildSlice t L v).run P w= .ok v' w'/\Rel C (st.put dst out) (a.put dst v') w':=by
 unfold lj at h;split at h
 . rename_i e te U j;split at h
   . rename_i row x;obtain⟨hu,y,i,hi,V,z,W⟩:=vn N U j;cases g:(Nat.beq row.length te.size&&Nat.blt 0 te.size&&Nat.beq (ofConst te.zero).cells.length te.size&&Nat.ble (L*te.size) 16777216) with
     |false=>grind
     |true=>
      simp only[g,cond_true] at h;simp only[Bool.and_eq_true] at g;obtain⟨⟨⟨E,Q⟩,F⟩,G⟩:=g;have Q:=Nat.le_of_ble_eq_true Q;have F:=Nat.eq_of_beq_eq_true F;have G:=Nat.le_of_ble_eq_true G;split at h;rename_i cs X;split at h;rename_i l Y;simp only[Option.some.injEq] at h;subst h;have Z:te.zero.cells.size=te.size:=by grind[qt]
      obtain⟨c,o,r⟩:=Te (A':=cd A β (rz st.h p).2) D (λb h=>.inl h) p _ S (λk H b I=>.inr ⟨k,H,I⟩)
      have K:(((Array.range (L*i.size)).map (te.zero.cells[· %te.zero.cells.size]!)).toList)=(List.replicate L te.zero.cells.toList).flatten:=by
       have:=qu te.zero.cells w! L;simp_all
      obtain⟨m,g1,s⟩:=yI (w:=w) (A:=cd A β (rz st.h p).2) (β:=β) (λi=>some (i*te.size,te.size)) _ v.toList _ ((Array.range (L*i.size)).map (te.zero.cells[· %te.zero.cells.size]!)) cs
       (by grind[qv,lv]) (H.trans o.symm) c X
      obtain⟨J,f2⟩:=B6 row L cs _ l s Y;have f:=jl l _ J
      have u:(Instr.buildSlice t L v).run P w= .ok (.slice (some ⟨w.heap.size,0,none⟩) L L) (w.alloc (.cells m e)):=by
       have q:¬(16777216<L*i.size):=by grind
       by_cases hz:L*i.size=0
       have B:L=0:=by
        grind[Nat.mul_eq_zero]
       subst B;simp[Instr.buildSlice,run_underlying hu,sizeOf,typeInfo,hi,V,newRow];simp_all[Array.range,Array.eq_empty_of_size_eq_zero]
       rw[<-V] at g1;simp[Instr.buildSlice,run_underlying hu,sizeOf,typeInfo,zeroValue,hi,W,q,hz,g1,newRow]
      refine⟨_,_,u,Rel.kP (D.Yp O R (xs:=m.toList) ⟨rfl,rfl,rfl,z!,λk H _=>heap_alloc_old w _ k H⟩ r ?_ J (λb I=>by grind[ah,Option.some.injEq]))⟩;refine⟨f,.inr ⟨w.heap.size,L,m,by rw[f2],w!,heap_alloc_new w _,w!,?_,?_,?_⟩⟩;have :L<=L*te.size:=Nat.le_mul_of_pos_right _ w!;grind[maxLen];grind;grind;grind;grind
   grind
 grind
theorem lx:∀(row:M Ty) (v:M Value),dQ.cX row v=true->bJ w A row v (Row.zero row)
 |[],[],_=>by rfl
 |.int k::ts,.int k' n::v,h=>by
   simp[dQ.cX,B!,H!] at h;obtain⟨⟨H,f⟩,g⟩:=h;subst H;subst f;simp only[bJ,Row.zero,xW,B5];refine⟨_,v,rfl,?_,lx ts v g⟩;simp[Rd,D.zero];cases k<;>simp[DI.zero,DI.toInt,lo,hi]
 |.bool::ts,.bool b::v,h=>by
   cases b with
   |true=>simp[dQ.cX] at h
   |false=>
    simp only[bJ,Row.zero,xW,B5];exact⟨_,v,rfl,by simp[Rd,D.zero],lx ts v h⟩
 |.str::ts,.string s::v,h=>by
   simp[dQ.cX,B!] at h;simp only[bJ,Row.zero,xW,B5];refine⟨_,v,rfl,?_,lx ts v h.2⟩;simp only[Rd,D.zero];refine⟨?_,z!⟩
   have m:s=⟨#[]⟩:=by
    apply ByteArray.ext;grind
   rw[m]
 |.slice r::ts,.slice a l c::v,h=>by
   cases a with
   |some p=>simp[dQ.cX] at h
   |none=>
    cases l with
    |succ l=>simp[dQ.cX] at h
    |zero=>
     cases c with
     |succ c=>simp[dQ.cX] at h
     |zero=>
      simp only[bJ,Row.zero,xW,B5];refine⟨_,v,rfl,?_,lx ts v h⟩;simp only[Rd,D.zero];exact⟨none,0,[],z!,z!,z!,by simp[dZ],z!⟩
 |[],_::_,h|.int _::_,[],h|.bool::_,[],h|.str::_,[],h|.slice _::_,[],h=>by grind[dQ.cX]
 |.int _::_,.bool _::_,h|.int _::_,.string _::_,h|.int _::_,.slice .. ::_,h|.int _::_,.float .. ::_,h|.int _::_,.complex .. ::_,h|.int _::_,.pointer _::_,h
 |.int _::_,.map _::_,h|.int _::_,.chan _::_,h|.int _::_,.func .. ::_,h|.int _::_,.nilFunc::_,h|.int _::_,.iface .. ::_,h|.int _::_,.nilIface::_,h|.int _::_,.agg _::_,h|.int _::_,.tuple _::_,h=>by grind[dQ.cX]
 |.bool::_,.int .. ::_,h|.bool::_,.string _::_,h|.bool::_,.slice .. ::_,h|.bool::_,.float .. ::_,h|.bool::_,.complex .. ::_,h|.bool::_,.pointer _::_,h
 |.bool::_,.map _::_,h|.bool::_,.chan _::_,h|.bool::_,.func .. ::_,h|.bool::_,.nilFunc::_,h|.bool::_,.iface .. ::_,h|.bool::_,.nilIface::_,h|.bool::_,.agg _::_,h|.bool::_,.tuple _::_,h=>by grind[dQ.cX]
 |.str::_,.int .. ::_,h|.str::_,.bool _::_,h|.str::_,.slice .. ::_,h|.str::_,.float .. ::_,h|.str::_,.complex .. ::_,h|.str::_,.pointer _::_,h
 |.str::_,.map _::_,h|.str::_,.chan _::_,h|.str::_,.func .. ::_,h|.str::_,.nilFunc::_,h|.str::_,.iface .. ::_,h|.str::_,.nilIface::_,h|.str::_,.agg _::_,h|.str::_,.tuple _::_,h=>by grind[dQ.cX]
 |.slice _::_,.int .. ::_,h|.slice _::_,.bool _::_,h|.slice _::_,.string .. ::_,h|.slice _::_,.float .. ::_,h|.slice _::_,.complex .. ::_,h|.slice _::_,.pointer _::_,h
 |.slice _::_,.map _::_,h|.slice _::_,.chan _::_,h|.slice _::_,.func .. ::_,h|.slice _::_,.nilFunc::_,h|.slice _::_,.iface .. ::_,h|.slice _::_,.nilIface::_,h|.slice _::_,.agg _::_,h|.slice _::_,.tuple _::_,h=>by grind[dQ.cX]
theorem xX(h:dQ row z=true):bJ w A row z.cells.toList (Row.zero row):=by
 unfold dQ at h;split at h;exact lx row _ h;have H:z.cells= #[z]:=by cases z<;>first|rfl|grind
 grind[lx]
theorem vr {row:M Ty}{v:M Value}{x:Row row}(h:bJ w A row v x):∀n,dZ (bJ w A row) (List.replicate n v).flatten (List.replicate n x)
 |0=>by rfl
 |n+1=>by
  exact⟨v,_,rfl,h,vr h n⟩
def JV(B:bM T P)(D:aq C A β st a w)(F:∀t,dst=some t->t<st.n)(G:st.h d=none/\rJ d=false)(g:aa w A β vx x)(q:aa w A β vy y)
  (h:xT T d t x y=some out) (I:∀p∈out.cond,p):∃v' w',(Instr.makeSlice t vx vy).run P w= .ok v' w'/\Rel C (st.put dst out) (a.put dst v') w':=by
 unfold xT at h;split at h
 . rename_i k n K c;split at h
   . rename_i e te J j;split at h
     . rename_i row s;obtain⟨L,u,i,M,v,z,N⟩:=vn B J j;cases H:(Nat.beq row.length te.size&&Nat.blt 0 te.size&&dQ row te.zero) with
       |false=>grind
       |true=>
        simp only[H,cond_true,Option.some.injEq] at h;subst h;simp only[Bool.and_eq_true] at H;obtain⟨⟨q1,Q⟩,O⟩:=H;have q1:=Nat.eq_of_beq_eq_true q1;have Q:=Nat.le_of_ble_eq_true Q;obtain⟨R,S,E⟩:=fH I;simp only[aa] at g q;obtain⟨rfl,_⟩:=g;obtain⟨rfl,Sv⟩:=q;have U:=xX (w:=w) (A:=A) O;have V:=jk row _ _ U;have W:te.zero.cells.size=te.size:=by grind
        have X:(te.bytes:Int)*c<=281474976710656:=by
         grind[Nat.eq_zero_or_pos,Int.le_ediv_iff_mul_le,Int.mul_comm]
        have Y:c<=9223372036854775807:=by
         have:=Int.ediv_le_self (te.bytes:Int) (show(0:Int)<=140737488355328 by omega);omega
        have Z:=run_make (P:=P) w t e i te.zero L M N k K n c R S x! Y;refine⟨_,_,Z,Rel.kP (D.Yp F G (fz:=[]) (xs:=(List.replicate n.toNat te.zero.cells.toList).flatten) ⟨rfl,rfl,rfl,z!,λk l _=>heap_alloc_old w _ k l⟩ z! ?_ ?_ (λb hb=>by grind[ah,Option.some.injEq]))⟩
        have o:(madeCells te.zero.cells (c.toNat*i.size)).toList=(List.replicate c.toNat te.zero.cells.toList).flatten:=by
         have:=qu te.zero.cells w! c.toNat;simp_all[madeCells]
        have f:∀m,(List.replicate m te.zero.cells.toList).flatten.length=m*te.size:=by
         simp_all
        simp only[List.length_replicate];refine⟨x!,.inr ⟨w.heap.size,c.toNat,_,rfl,w!,heap_alloc_new w _,w!,by grind[maxLen],?_,?_⟩⟩;grind;rw[o];have r:c.toNat=n.toNat+(c.toNat-n.toNat):=by omega
        rw[r,<-List.replicate_append_replicate,List.flatten_append,q1,<-f n.toNat,List.take_left];grind[vr,xX]
     grind
   grind
 grind
theorem aq.same(H:aq C A β st a w)(f:∀t,dst=some t->t<st.n){k:Nat}(g:st.h k=some ab)(h:aa w A β v r):
  aq C A β (st.put dst {cond:=c,res:=r,hX:=[(k,ab)]}) (a.put dst v) w:=by
 refine H.step (out:={cond:=c,res:=r,hX:=[(k,ab)]}) f (by simp[ai]) ?_ (λ_ _=>rfl) (bI.refl w A) rfl rfl rfl (Nat.le_refl _) (λ_ _ _=>rfl) H.bound (λb h=>.inl h) ?_ (by simp[ai]) (by simp[ai]) (by simp[ai]) h;grind[gx];intro j b h _;obtain⟨rfl,rfl⟩:=gx h;exact H.blocks _ _ g
theorem Oi(n:Nat)(h:n<=maxLen):aa w A β (.int .i64 (n:Int)) (.int .i64 (n:Int)):=by
 simp[aa,lo,hi,true_and];grind[maxLen]
def ajN(D:aq C A β st a w)(G:∀t,dst=some t->t<st.n){k e:Nat}{row:M Ty}{l m:M (Row row)}(o:st.h k=some (.row e row l false)){b cap:Nat}(I:β k= .slice (some ⟨b,0,none⟩) l.length cap)
  {cs:M Value} (E:dZ (bJ w A row) cs m) (u:off+m.length<=l.length) (W:∀w',aa w' A β v r) {f:Array Value} (g:w.heap[b]? =some (.cells f e (0,0)))
  (J:f.size=cap*row.length) (L:l.length<=cap) (N:cap<=maxLen) (p:dZ (bJ w A row) (f.toList.take (l.length*row.length)) l) (q:¬A b):
  Rel C (st.put dst {cond:=c,res:=r,hX:=[(k,.row e row (l.take off++m++l.drop (off+m.length)) false)]}) (a.put dst v)
   (w.setRow b (f.toList.take (off*row.length)++cs++f.toList.drop (off*row.length+cs.length)).toArray):=by
 have O:ah (β k)=some b:=by rw[I];rfl
 have hlen:=jl m cs E;have R:l.length*row.length<=f.size:=by simp_all[I?]
 have y:off*row.length+cs.length<=l.length*row.length:=by rw[hlen,<-q?];simp_all[I?]
 refine D.write G (k:=k) (fz:=[]) (ab:=.row e row _ false) x! O q g ⟨rfl,rfl,rfl⟩ z! ?_ (W _);intro S U z K;have V:bI w (w.setRow b (f.toList.take (off*row.length)++cs++f.toList.drop (off*row.length+cs.length)).toArray) A S:=λB F=>⟨U B F,setRow_other w b B _ (λX=>q (X▸F))⟩;have Y:(l.take off++m++l.drop (off+m.length)).length=l.length:=by grind
 have H:(f.toList.take (off*row.length)++cs++f.toList.drop (off*row.length+cs.length)).toArray.size=f.size:=by grind
 refine⟨_,⟨?_,.inr ⟨b,cap,_,x!,w!,setRow_heap w b f _ e _ g,w!,N,H.trans J,rfl⟩⟩,?_,λB F=>?_⟩;grind;rw[Y]
 have Z:(f.toList.take (off*row.length)++cs++f.toList.drop (off*row.length+cs.length)).take (l.length*row.length)=
   (f.toList.take (l.length*row.length)).take (off*row.length)++cs++(f.toList.take (l.length*row.length)).drop ((off+m.length)*row.length):=by
  rw[List.take_take,Nat.min_eq_left w!,List.take_append,d? (by simp;omega),q?,<-hlen,List.drop_take];congr 1
  congr 1
  simp;omega
 have d:(f.toList.take (off*row.length)++cs++f.toList.drop (off*row.length+cs.length)).toArray.toList=f.toList.take (off*row.length)++cs++f.toList.drop (off*row.length+cs.length):=by simp
 rw[d,Z];have s:=gK l _ off p;have i:=gK l _ (off+m.length) p;exact bR (λc x j=>bE V row c x j) _ _ (j5 _ _ _ _ (j5 _ _ _ _ s.1 E) i.2);grind
def Yr {e:TypeId}(f:P.underlying t=some (.slice e))(hi:P.info? e=some i){z:Value}(g:i.zero=some z){b n:Nat}{c:Array Value}{B:TypeId}(h:w.heap[b]? =some (.cells c B (0,0)))
  {cs:M Value} (E:(Builtin.zeroCells z.cells n).toList=cs) (H:∀u∈cs,u.oneCell'=true) (N:off+cs.length<=c.size) (k:0<n):
  (Builtin.clear_ #[t] ty #[.slice (some ⟨b,off,none⟩) n cap]).run P w= .ok (.tuple #[]) (w.setRow b (c.toList.take off++cs++c.toList.drop (off+cs.length)).toArray):=by
 have v:=run_storeCells_at P b off B cs 0 c w h w! H;obtain⟨m,rfl⟩:∃m,n=m+1:=⟨n-1,w!⟩;simp_all[Builtin.clear_,run_underlying,zeroValue,typeInfo,hi]
theorem Vt(J:bM T P)(H:aq C A β st a w)(D:∀t,dst=some t->t<st.n)(N:aa w A β vx x)
  (h:uP T st.h t x=some out) (hc:∀p∈out.cond,p):∃v' w',(Builtin.clear_ #[t] ty #[vx]).run P w= .ok v' w'/\Rel C (st.put dst out) (a.put dst v') w':=by
 have f:∀w',aa w' A β (.tuple #[]) (.bk []):=λw'=>by simp only[aa];exact⟨#[],rfl,by rfl⟩
 unfold uP at h;split at h
 . rename_i k sz off n;split at h
   . rename_i e row l q;split at h
     . rename_i el te O j;obtain⟨hu,HG,i,R,vq,Ob,S⟩:=vn J O j;cases F:(bH T t row.length&&Nat.beq sz row.length&&Nat.beq row.length te.size&&dQ row te.zero) with
       |false=>grind
       |true=>
        simp only[F,cond_true,Option.some.injEq] at h;subst h;simp only[Bool.and_eq_true] at F;obtain⟨⟨⟨U,Q⟩,L⟩,V⟩:=F;have Q:=Nat.eq_of_beq_eq_true Q;have L:=Nat.eq_of_beq_eq_true L;subst Q;obtain⟨E,i',ni,gl,W,pQ⟩:=iF J U;have M:=xX (w:=w) (A:=A) V;have X:=jk row _ _ M;have Y:te.zero.cells.size=te.size:=by grind
        rcases N with⟨G,Z,cap,B,HF⟩|⟨b',mm,lq,d,B,o,s,u,y⟩;subst G;rw[B];refine⟨.tuple #[],w,by cases Z<;>simp[Builtin.clear_,run_underlying hu],?_⟩;have:=H.same (dst:=dst) D (c:=[off+0<=l.length]) (r:=.bk []) (v:=.tuple #[]) q (f w);simpa using Rel.kP this;rcases lX H q with⟨g1,I⟩|⟨b,cap,z,g1,I,K,g4,g5,g6,g7⟩;grind;rw[g1] at B;obtain⟨rfl,rfl,rfl⟩:=B
        have qw:(Builtin.zeroCells te.zero.cells n).toList=(List.replicate n te.zero.cells.toList).flatten:=by
         have:=qu te.zero.cells w! n;simp_all[Builtin.zeroCells]
        have g:=vr M n;have hlen:=jl _ _ g;rw[List.length_replicate] at hlen;rw[o];by_cases hn:n=0;subst hn;refine⟨.tuple #[],w,by simp[Builtin.clear_,run_underlying hu],?_⟩;have:=H.same (dst:=dst) D (c:=[off+0<=l.length]) (r:=.bk []) (v:=.tuple #[]) q (f w);simpa using Rel.kP this
        have hr:=Yr (P:=P) (ty:=ty) (n:=n) (cap:=d) (off:=off*row.length) hu R S I qw (N3 _ _ g) (by
         rw[hlen,g5,<-q?];exact I? _ w!) w!
        refine⟨_,_,hr,?_⟩;have m:=ajN H D q g1 (off:=off) (c:=[off+n<=l.length]) (r:=.bk []) (v:=.tuple #[]) g (by rw[List.length_replicate];omega) f I g5 K g4 g6 g7;rw[List.length_replicate] at m;exact m
     grind
   grind
 grind
def HR:∀(u:B8) (cs:M Value),dZ (bJ w A [.int .u8]) cs u->cs=u.map λb=>Value.int .u8 (b.toNat:Int)
 |[],cs,h=>by grind[dZ]
 |b::u,cs,⟨c1,c2,H,h1,f⟩=>by
  subst H;obtain⟨v,V,rfl,g,rfl⟩:=h1;rw[HR u c2 f];simp;exact g.1
def foldl_push:∀(u:B8) (r:ByteArray),(u.map λb=>(b.toNat:Int)).foldl (λr n=>r.push (UInt8.ofNat n.toNat)) r=⟨(r.data.toList++u).toArray⟩
 |[],r=>by simp
 |b::u,r=>by
  simp;rw[foldl_push u];simp
def B7(H:aq C A β st a w){x:AV}(m:aa w A β v x){u:B8}(h:xS st.h [.int .u8] x=some u)(L:∀n c,v= .slice none n c->n=0)(q:∃g n c,v= .slice g n c):
  (Conv.bytesToString v).run P w= .ok (.string ⟨u.toArray⟩) w/\u.length<=maxLen:=by
 obtain⟨cs,f⟩:=aes (P:=P) H m h;have e:=HR u cs f.rd;obtain⟨g,n,c,rfl⟩:=q
 have G:n=u.length:=by
  have:=f.len;simp_all[Builtin.lenOf]
 refine⟨?_,f.max⟩;cases g with
 |none=>
  have:=L n c rfl;have B:u=[]:=D? w!;subst B;rfl
 |some p=>
  have D:=f.first w rfl u.length (M! _);have F:=jl (row:=[.int .u8]) u cs f.rd;rw[<-F,List.take_length] at D
  have k:(loadCells p n).run P w= .ok ((u.map λb=>(b.toNat:Int)).map (Value.int .u8)).toArray w:=by
   simp_all[Builtin.firstCells,x?]
  rw[run_bytesToString w p n c _ k,foldl_push];simp
def B9(H:aq C A β st a w)(g:∀t,dst=some t->t<st.n){e:TypeId}(k:u.length<=maxLen):
  ∃v' w',(Conv.stringToBytes e ⟨u.toArray⟩).run P w= .ok v' w'/\Rel C (st.put dst {cond:=c,res:=.sl [.int .u8] u}) (a.put dst v') w':=by
 let cap:=grownCap w u.length 0 e
 have T:u.length<=cap:=grownCap_ge w u.length 0 e;have m:cap<=maxLen:=grownCap_le_maxLen w u.length 0 e k;let arr:Array Value:=(u.map λb=>Value.int .u8 (b.toNat:Int)).toArray++Array.replicate (cap-u.length) (.int .u8 0)
 let w':World:=(w.drew.alloc (.cells arr e)).freeze ⟨w.heap.size,arr.size,none⟩ 1
 have i:(Conv.stringToBytes e ⟨u.toArray⟩).run P w= .ok (.slice (some ⟨w.heap.size,0,none⟩) u.length cap) w':=by
  have V:(w.drew.alloc (.cells arr e)).shape? w.heap.size=some (e,arr.size):=by
   have:=heap_alloc_new w.drew (.cells arr e);simp_all[World.shape?]
  have h1:(⟨u.toArray⟩:ByteArray).size=u.length:=BX u;simp only[Conv.stringToBytes,Sem.run_bind,run_choose,Question.forced,c?,r?,Result.andThen_ok,h1,newRow,run_newObj,Sem.run_pure,markStringish,run_shape];have p:(Question.appendCap u.length 0 e).cut (w.tape w.drawn (Question.appendCap u.length 0 e))=cap:=rfl;rw[p]
  have q:Array.map (λb:UInt8=>Value.int IntKind.u8 (b.toNat:Int)) u.toArray++Array.replicate (cap-u.length) (Value.int IntKind.u8 0)=arr:=by
   grind
  rw[q];have B:({heap:=w.heap.push (Obj.cells arr e),tape:=w.tape,drawn:=w.drawn+1,os:=w.os,output:=w.output}:World)=w.drew.alloc (.cells arr e):=rfl;grind[run_freeze,Result.andThen_ok]
 have s:∀b,b<w.heap.size->w'.heap[b]? =w.heap[b]? :=by
  intro b h;have f:(w.drew.alloc (.cells arr e)).heap[b]? =w.heap[b]? :=eE (w:=w.drew) _ b h;simp only[w',World.freeze,Nat.one_ne_zero,if_false,Array.getElem?_modify];grind
 have I:∃F,w'.heap[w.heap.size]? =some (.cells arr e F):=by
  have f:(w.drew.alloc (.cells arr e)).heap[w.heap.size]? =some (.cells arr e):=heap_alloc_new w.drew _;simp only[w',World.freeze,Nat.one_ne_zero,if_false,Array.getElem?_modify,if_true,f,Option.map_some];grind
 have Q:w'.heap.size=w.heap.size+1:=by
  have :(w.drew.alloc (.cells arr e)).heap.size=w.heap.size+1:=by simp
  simp only[w',World.freeze,Nat.one_ne_zero,r?,Array.size_modify];omega
 let A':Nat->Prop:=λb=>A b\/b=w.heap.size
 have D:bI w w' A A':=λb h=>⟨.inl h,s b (H.bound b h)⟩;refine⟨_,w',i,A',β,?_⟩;refine H.step (out:={cond:=c,res:=.sl [.int .u8] u}) g (by simp[ai]) (by simp[ai]) (λ_ _=>rfl) D rfl rfl rfl w! (λb h _=>s b h) ?_ ?_ (by simp[ai]) (by simp[ai]) (by simp[ai]) (by simp[ai]) ?_;intro b h;rcases h with h|rfl;have:=H.bound b h;omega;omega;grind;refine⟨_,cap,_,rfl,T,m,N5 u,λ_=>⟨w.heap.size,0,rfl,.inr rfl,λj v G=>?_⟩⟩;simp only[World.cell?,I,Nat.zero_add];grind
theorem anA {row:M Ty}{n c:Nat}{l:M (Row row)}(h:Rd w A (.slice row) (.slice none n c) l)(f:0<row.length):n=0:=by
 obtain⟨a,cap,cs,H,g,k,m,p⟩:=h;obtain⟨rfl,rfl,rfl⟩:=H;grind[jl,List.length_nil,Nat.mul_eq_zero]
def Ī(m:aq C A β st a w)(H:aa w A β v x)(p:zE x=true)(h:xS st.h [.int .u8] x=some u):
  (∃f n c,v= .slice f n c)/\∀n c,v= .slice none n c->n=0:=by
 have g:∀ {row:M Ty} {l:M (Row row)},row=[.int .u8]->Rd w A (.slice row) v l->(∃f n c,v= .slice f n c)/\∀n c,v= .slice none n c->n=0:=by
  grind[zN,Value.slice.injEq,anA]
 unfold xS at h;split at h;grind[zE];simp[aa] at H;grind
 . cases x with
   |sl r l=>
    obtain⟨e,_⟩:=ju h;exact g e H
   |full r l=>
    grind[jA,ju,aa]
   |own k=>
    grind[jA,aa,pr,Value.slice.injEq]
   |pre k n=>
    simp[aa] at H;grind
   |view k sz off n=>
    grind[aa]
   |_=>grind[jA]
def anB(P:Program)(C:Ctx)(st:St)(a:Act)(w:World)(d:Option Nat)(out:Out)(s:Sem Value):Prop:=∃v w',s.run P w= .ok v w'/\Rel C (st.put d out) (a.put d v) w'
theorem Reads.vt(H:aq C A β st a w)(f:∀t,dst=some t->t<st.n){s:Sem Value}(h:Reads P A β w s out):anB P C st a w dst out s:=
 let⟨g,v,k,m⟩:=h
 ⟨v,w,k,Rel.kP (H.quiet f g m)⟩
theorem ī(J:bM T P)(B:aq C A β st a w)(V:∀t,dst=some t->t<st.n){d:TypeId}{k:Nat}(D:aa w A β v (.own k))
  (h:DP T st.h s d k=some out) (W:∀p∈out.cond,p):anB P C st a w dst out (convert s d v):=by
 unfold DP at h;cases f:Nat.beq s d with
 |false=>grind
 |true=>
  have f:=D! f;subst f;simp at h;split at h;rename_i ts X;have E:=nh J X;split at h;rename_i e Y;rw[Y] at E;split at h;rename_i te L row l Z o;have q:=nh J Z;split at h;rename_i l' r y;rw[r] at q;obtain⟨z,M⟩:=ju y;subst z;simp only at M;subst M;simp at h;subst h;have pQ:0<l.length:=fH W;obtain⟨xs,K,Q,ml⟩:=B.blocks k _ o;rcases K.2 with⟨_,h0⟩|⟨g,cap,m,N,_,O,hn,Tf,eH,B1⟩;omega;have Vd:ah (β k)=some g:=by rw[N];rfl
  have F:¬A g:=by grind
  have aR3:g<w.heap.size:=(P!.1 O).1;rw[D.1,N];let w':World:=w.freeze ⟨g,m.size,none⟩ 1
  have Vu:w.shape? g=some (L,m.size):=by grind[World.shape?]
  have iQ:(convert s s (.slice (some ⟨g,0,none⟩) l.length cap)).run P w= .ok (.slice (some ⟨g,0,none⟩) l.length cap) w':=by
   simp only[convert,Sem.run_bind,run_underlying E,run_underlying q,Result.andThen_ok,beq_self_eq_true,markStringish,run_shape,Vu,run_freeze,Sem.run_pure];rfl
  have S:∀b,b≠g->w'.heap[b]? =w.heap[b]? :=by
   intro b H;simp only[w',World.freeze,Nat.one_ne_zero,if_false,Array.getElem?_modify];grind
  have i:∃R,w'.heap[g]? =some (.cells m L R):=by
   simp only[w',World.freeze,Nat.one_ne_zero,if_false,Array.getElem?_modify,if_true,O,Option.map_some];grind
  obtain⟨R,i⟩:=i;have qp:w'.heap.size=w.heap.size:=by simp only[w',World.freeze,Nat.one_ne_zero,r?,Array.size_modify]
  have U:bI w w' A (λb=>A b\/b=g):=λb H=>⟨.inl H,S b (λh=>F (h▸H))⟩;have G:oI st {cond:=[0<l.length],res:=.sl [.int .u8] l,del:=[k]} k:=⟨x!,.inr (by simp[aw])⟩;refine⟨_,w',iQ,λb=>A b\/b=g,β,?_⟩;refine B.step (out:={cond:=[0<l.length],res:=.sl [.int .u8] l,del:=[k]}) V (by simp[ai]) (by simp[ai]) (λ_ _=>rfl) U rfl rfl rfl w! (λb H I=>S b (λh=>I k G x!)) ?_ ?_ (by simp[ai]) (by simp[ai]) (by simp[ai]) (by simp[ai]) ?_;intro b H;rcases H with H|rfl;have:=B.bound b H;omega;omega;grind;refine⟨_,cap,xs,rfl,hn,Tf,bR (λc x D=>bE U _ c x D) _ _ Q,λ_=>⟨g,0,rfl,.inr rfl,λj u hj=>?_⟩⟩;rw[<-B1,List.getElem?_take] at hj;simp_all[World.cell?,Nat.zero_add,Option.isSome_none,Bool.false_eq_true,if_false]
  grind;grind;grind;grind
def Oj(G:bM T P)(g:aq C A β st a w)(D:∀t,dst=some t->t<st.n){d:TypeId}(f:aa w A β v x)
  (h:pO T st.h s d x=some out) (S:∀p∈out.cond,p):anB P C st a w dst out (convert s d v):=by
 unfold pO at h;split at h;rename_i Y Z U I;have E:=nh G U;have H:=nh G I;split at h;rename_i b k K n m F;rw[m] at E;rw[F] at H;simp only[aa] at f;obtain⟨rfl,M⟩:=f
 have i:(convert s d (.int K n)).run P w= .ok (.int k (k.wrap n)) w:=by
  simp_all[convert,run_underlying,Conv.intToInt]
 split at h;rename_i N;simp only[A!] at h;subst h;have o:lo k<=n/\n<=hi k:=by omega
 rw[BW o] at i;exact Reads.vt g D ⟨⟨rfl,rfl,rfl⟩,_,i,by simp_all[aa,trivial]⟩;obtain⟨V,N,_⟩:=rK (w:=w) (A:=A) (β:=β) h S;exact Reads.vt g D ⟨V,_,i,N⟩;rename_i u m F;rw[m] at E;rw[F] at H;simp only[Option.some.injEq] at h;subst h;have W:=f;simp only[aa] at f;exact Reads.vt g D ⟨⟨rfl,rfl,rfl⟩,_,by simp_all[convert,run_underlying],W⟩;rename_i e u m F;rw[m] at E;rw[F] at H;simp only[aa] at f;obtain⟨rfl,M⟩:=f;split at h;rename_i te j;have q:=nh G j;split at h;rename_i J;rw[J] at q;simp only[Option.some.injEq] at h;subst h;obtain⟨v',w',X,O⟩:=B9 (P:=P) g D (e:=e) M (c:=[]);exact⟨v',w',by simp_all[convert,run_underlying],O⟩;grind;grind;rename_i e m F;rw[m] at E;rw[F] at H;split at h;rename_i te j;have q:=nh G j;split at h;rename_i J;rw[J] at q;split at h;rename_i u L R;simp only[Option.some.injEq] at h;subst h;have B:=Ī g f L R;obtain⟨X,O⟩:=B7 (P:=P) g f R B.2 B.1;obtain⟨l,n,c,rfl⟩:=B.1;refine Reads.vt g D ⟨⟨rfl,rfl,rfl⟩,.string ⟨u.toArray⟩,?_,by simp_all[aa,trivial]⟩;simp_all[convert,run_underlying]
 grind;grind;grind;grind[ī];grind;grind
structure nO (w:World) (A:Nat->Prop) (w':World) (v:Value) (res:AV) (bs:List AB) (A':Nat->Prop) (aC:Nat->Value):Prop where
 os:w'.os=w.os
 tape:w'.tape=w.tape
 output:w'.output=w.output
 size:w.heap.size<=w'.heap.size
 same:∀b,b<w.heap.size->w'.heap[b]? =w.heap[b]?
 mono:∀b,A b->A' b
 gG:∀b,b<w.heap.size->A' b->A b
 bound:∀b,A' b->b<w'.heap.size
 res:aa w' A' aC v res
 rows:∀i ab,bs[i]? =some ab->BR w' A' aC i ab/\∀b,ah (aC i)=some b->w.heap.size<=b
 apart:∀i j b,i<bs.length->j<bs.length->ah (aC i)=some b->ah (aC j)=some b->i=j
def Valid(P:Program)(G:Nat->Option GD)(f:FuncId)(s:Va):Prop:=
 ∀(w:World) (A:Nat->Prop) (β:Nat->Value) (a:M Value) (B:M AV) (p:Prop) (r:AV) (g:M AB),
  (∀b,A b->b<w.heap.size)->(∀i d,G i=some d->auo w A i d)->ae w A β a B->s B=some (p,r,g)->p->
  Calls P f a.toArray w λe w'=>∃v,e= .returned v/\∃A' aC,nO w A w' v r g A' aC
def HM(β:Nat->Value)(n b:Nat):Prop:=∃i,i<n/\ah (β (50000+i))=some b
def Cb(r:pb)(k:Nat):Prop:=(∃i ab,k=50000+i/\i<10000/\r.heap[i]? =some (some ab))\/∃j,k=60000+j/\j<r.new.length
structure JW (w:World) (A:Nat->Prop) (β:Nat->Value) (n:Nat) (w':World) (v:Value) (r:pb) (A':Nat->Prop) (aC:Nat->Value):Prop where
 os:w'.os=w.os
 tape:w'.tape=w.tape
 output:w'.output=w.output
 size:w.heap.size<=w'.heap.size
 same:∀b,b<w.heap.size->¬HM β n b->w'.heap[b]? =w.heap[b]?
 mono:∀b,A b->A' b/\w'.heap[b]? =w.heap[b]?
 gG:∀b,b<w.heap.size->A' b->A b\/HM β n b
 bound:∀b,A' b->b<w'.heap.size
 res:aa w' A' aC v r.res
 kept:∀i ab,r.heap[i]? =some (some ab)->BR w' A' aC (50000+i) ab/\aC (50000+i)=β (50000+i)
 rows:∀j ab,r.new[j]? =some ab->BR w' A' aC (60000+j) ab/\∀b,ah (aC (60000+j))=some b->w.heap.size<=b\/HM β n b
 apart:∀k k' b,Cb r k->Cb r k'->ah (aC k)=some b->ah (aC k')=some b->k=k'
def aJ(P:Program)(G:Nat->Option GD)(f:FuncId)(s:eQ):Prop:=
 ∀(w:World) (A:Nat->Prop) (β:Nat->Value) (a:M Value) (B:M AV) (h:M AB) (r:pb),
  (∀b,A b->b<w.heap.size)->(∀i d,G i=some d->auo w A i d)->ae w A β a B->
  (∀i ab,h[i]? =some ab->BR w A β (50000+i) ab)->(∀i j b,i<h.length->j<h.length->ah (β (50000+i))=some b->ah (β (50000+j))=some b->i=j)->
  s B h=some r->r.pre->r.heap.length=h.length->h.length<=100->
  Calls P f a.toArray w λe w'=>∃v,e= .returned v/\∃A' aC,JW w A β h.length w' v r A' aC
theorem Om {β aC:Nat->Value}:∀(cs:M AV) (V:M Value),cs.all NT=true->ae w A β V cs->ae w A aC V cs
 |[],V,_,h=>by grind[ae]
 |c::cs,V,H,h=>by
  simp only[List.all_cons,Bool.and_eq_true] at H;obtain⟨v,C,rfl,g,k⟩:=h;refine⟨v,C,rfl,?_,Om cs C H.2 k⟩;have f:=H.1;unfold NT at f;split at f;simpa only[aa,ae] using g;cases f
def Tg {β aC:Nat->Value}:∀(cs:M AV) (V:M Value),cs.all ani=true->ae w A β V cs->ae w A aC V cs
 |[],_,_,h=>h
 |.dc _ _ _::cs,_,H,h=>by
   obtain⟨v,c,rfl,f,g⟩:=h;exact⟨v,c,rfl,f,Tg cs c H g⟩
mutual
theorem FV(base n:Nat)(cc:∀i,i<n->aC (base+i)=β i):∀(x:AV) (v:Value),ou n x=true->aa w A β v x->aa w A aC v (fx base x)
 |.own k,v,H,h=>by
   simp only[ou] at H;have:=L! H;simp only[fx,aa] at h |-;rw[cc k w!];exact h
 |.agg cs,v,H,h=>by
   simp only[ou] at H;simp only[fx,aa] at h |-;obtain⟨arr,f,g⟩:=h;exact⟨arr,f,Cc base n cc cs _ H g⟩
 |.bk cs,v,H,h=>by
   simp only[ou] at H;simp only[fx,aa] at h |-;obtain⟨arr,f,g⟩:=h;exact⟨arr,f,Cc base n cc cs _ H g⟩
 |.db,v,H,h=>by simp[ou] at H
 |.pre _ _,v,H,h|.view _ _ _ _,v,H,h|.ref _ _,v,H,h|.elem _ _ _ _,v,H,h=>by simp[ou] at H
 |.fn _ l m,v,H,h=>by
   simp only[ou,B!,List.isEmpty_iff] at H;obtain⟨rfl,H⟩:=H;obtain⟨a,q,f,g,p⟩:=h;exact⟨a,q,f,g,Tg m _ H p⟩
 |.dc _ _ _,v,H,h=>by simp[ou] at H
 |.undef,v,_,h|.int _ _,v,_,h|.bool _,v,_,h|.tt,v,_,h|.ff,v,_,h|.str _,v,_,h|.nil,v,_,h|.lh,v,_,h|.tY _ _,v,_,h|.nb,v,_,h=>by simpa only[fx,aa] using h
 |.jR ks cs,v,H,h=>by
   simp only[ou] at H;simp only[fx,aa] at h |-;obtain⟨b,es,C,f,g,p,B,D⟩:=h;exact⟨b,es,C,f,g,p,B,Om cs _ H D⟩
 |.sl _ _,v,_,h|.full _ _,v,_,h=>by simpa only[fx,aa] using h
theorem Cc(base n:Nat)(cc:∀i,i<n->aC (base+i)=β i):∀(xs:M AV) (V:M Value),Hm n xs=true->ae w A β V xs->ae w A aC V (uQ base xs)
 |[],V,_,h=>by simpa only[uQ,ae] using h
 |x::xs,V,H,h=>by
  simp only[Hm,B!] at H;simp only[ae] at h;obtain⟨v,c,rfl,f,g⟩:=h;simp only[uQ,ae];exact⟨v,c,rfl,FV base n cc x v H.1 f,Cc base n cc xs c H.2 g⟩
end
mutual
theorem On:∀(x:AV) (v:Value),x.gw=true->aa w A β v x->aa w A' β v x
 |.own _,v,_,h=>by simpa only[aa] using h
 |.agg cs,v,H,h=>by
   simp only[AV.gw] at H;simp only[aa] at h |-;obtain⟨arr,f,g⟩:=h;exact⟨arr,f,Cd cs _ H g⟩
 |.bk cs,v,H,h=>by
   simp only[AV.gw] at H;simp only[aa] at h |-;obtain⟨arr,f,g⟩:=h;exact⟨arr,f,Cd cs _ H g⟩
 |.db,v,H,h=>by simp[AV.gw] at H
 |.pre _ _,v,H,h|.view _ _ _ _,v,H,h|.ref _ _,v,H,h|.elem _ _ _ _,v,H,h|.fn _ _ _,v,H,h|.dc _ _ _,v,H,h=>by simp[AV.gw] at H
 |.lh,v,H,h=>by simp[AV.gw] at H
 |.tY _ _,v,H,h=>by simp[AV.gw] at H
 |.nb,v,H,h=>by simp[AV.gw] at H
 |.jR _ _,v,H,h|.sl _ _,v,H,h|.full _ _,v,H,h=>by simp[AV.gw] at H
 |.undef,v,_,h|.int _ _,v,_,h|.bool _,v,_,h|.tt,v,_,h|.ff,v,_,h|.str _,v,_,h|.nil,v,_,h=>by simpa only[aa] using h
theorem Cd:∀(xs:M AV) (V:M Value),Hl xs=true->ae w A β V xs->ae w A' β V xs
 |[],V,_,h=>by simpa only[ae] using h
 |x::xs,V,H,h=>by
  simp only[Hl,B!] at H;simp only[ae] at h |-;obtain⟨v,c,rfl,f,g⟩:=h;exact⟨v,c,rfl,On x v H.1 f,Cd xs c H.2 g⟩
end
def Ys:∀(row:M Ty) (V:M Value) (x:Row row),row.all Nk=true->bJ w A row V x->bJ w A' row V x
 |[],V,_,_,h=>by grind[bJ]
 |t::ts,V,x,H,h=>by
  simp only[List.all_cons,B!] at H;obtain⟨v,c,rfl,f,g⟩:=h;refine⟨v,c,rfl,?_,Ys ts c _ H.2 g⟩;cases t with
  |slice r=>simp[Nk] at H
  |int k=>simpa only[Rd] using f
  |bool=>simpa only[Rd] using f
  |str=>simpa only[Rd] using f
def Ce(B:Nat):∀(f:M AB) (n k:Nat),ai (nd (B+n) f) k=(if B+n<=k then f[k-(B+n)]? else none)
 |[],n,k=>by simp[nd,ai]
 |b::f,n,k=>by
  simp only[nd,ai];by_cases h:k=B+n;simp_all
  simp;have:=Ce B f (n+1) k;grind
def E2:∀(b:M AB) (i:Nat) (ab:AB),aUR b=true->b[i]? =some ab->∃e row l,ab= .row e row l false
 |[],i,ab,_,h=>by grind
 |.cells _::b,_,_,h,_|.arr _ _::b,_,_,h,_|.iE _ _ _ _ _::b,_,_,h,_|.views _ _ _ _ _::b,_,_,h,_=>by grind[aUR]
 |.row e row l true ::b,_,_,h,_=>by grind[aUR]
 |.row e row l false ::b,0,ab,_,h=>by grind
 |.row e row l false ::b,i+1,ab,H,h=>E2 b i ab (by grind[aUR]) x!
def E3:∀(b:M AB) (i e:Nat) (row:M Ty) (l:M (Row row)) (fr:Bool),eB b=true->b[i]? =some (.row e row l fr)->row.all Nk=true
 |[],i,_,_,_,_,_,h=>by grind
 |.cells _::b,_,_,_,_,_,h,_|.arr _ _::b,_,_,_,_,_,h,_|.iE _ _ _ _ _::b,_,_,_,_,_,h,_|.views _ _ _ _ _::b,_,_,_,_,_,h,_=>by grind[eB]
 |.row e row l fr::b,0,e',m,L,f,H,h=>by
   simp_all[eB,B!]
 |.row e row l fr::b,i+1,e',m,L,f,H,h=>by
   simp[eB,B!] at H;exact E3 b i e' m L f H.2 (by simpa using h)
theorem pS {h:aP}:∀(n:M (Nat×AB)) (k:Nat) (b:AB),lp h n=true->ai n k=some b->h k=none/\rJ k=false
 |[],k,b,_,H=>by grind[ai]
 |(j,x)::r,k,b,f,H=>by
  simp[lp,Bool.and_eq_true] at f;simp[ai] at H;by_cases hk:k=j;grind;simp[aO hk,cond_false] at H;exact pS r k b f.2 H
theorem aq.call(I:aq C A β st a w)(T:∀t,dst=some t->t<st.n){B:Nat}{res:AV}{f:M AB}{G:M Nat}{cond:M Prop}{Z:Nat->Prop}{u:Nat->Value}
  (BD:∀j∈G,∃e row l fr,st.h j=some (.row e row l fr)) (d:lp st.h (nd B f)=true) (o:ou f.length res=true) (S:aUR f=true)
  (g:nO w (cd A β G) w' v res f Z u):
  Rel C (st.put dst {cond:=cond,res:=fx B res,hX:=bif res.gw&&eB f then [] else cG st.h G,new:=nd B f}) (a.put dst v) w':=by
 let aC:Nat->Value:=λk=>if B<=k/\k<B+f.length then u (k-B) else β k
 have J:∀i,i<f.length->aC (B+i)=u i:=by
  grind
 have Vw:∀k,ai (nd B f) k=(if B<=k then f[k-B]? else none):=λk=>by simpa using Ce B f 0 k
 have r:∀k,ai (nd B f) k=none->aC k=β k:=by
  grind
 have N:∀k ab,ai (nd B f) k=some ab->B<=k/\f[k-B]? =some ab/\k-B<f.length:=by
  grind
 have q:∀k ab,ai (nd B f) k=some ab->aC k=u (k-B):=by
  grind
 let p:Nat->Prop:=bif res.gw&&eB f then A else Z
 have U:∀b,A b->p b:=by
  intro b H;simp only[p];cases res.gw&&eB f with
  |true=>grind
  |false=>exact g.mono b (.inl H)
 have s:bI w w' A p:=λb H=>⟨U b H,g.same b (I.bound b H)⟩
 have S5:∀k ab,ai (bif res.gw&&eB f then [] else cG st.h G) k=some ab->(res.gw&&eB f)=false/\k∈G/\∃e row l fr,st.h k=some (.row e row l fr)/\ab= .row e row l true:=by
  grind[eB,ai,kD]
 refine⟨p,aC,?_⟩;refine I.step (out:={cond:=cond,res:=fx B res,hX:=bif res.gw&&eB f then [] else cG st.h G,new:=nd B f}) T (λk b h=>pS _ k b d h) ?_ r s g.os g.tape g.output g.size (λb H _=>g.same b H) ?_ ?_ ?_ ?_ ?_ ?_ ?_;grind
 . intro b H;simp only[p] at H;cases m:res.gw&&eB f with
   |true=>rw[m] at H;exact Y! (I.bound b H) g.size
   |false=>rw[m] at H;exact g.bound b H
 . intro b H;simp only[p] at H;cases m:res.gw&&eB f with
   |true=>grind
   |false=>
    rw[m] at H;rcases Nat.lt_or_ge b w.heap.size with iT|Vp;rcases g.gG b iT H with h|⟨j,z,V⟩;exact .inl h;have D:=BD j z;refine .inr (.inr ⟨j,⟨by obtain⟨_,_,_,_,D⟩:=D;simp[D],.inl ?_⟩,V⟩);simp only[N!];exact sw G j z D;exact .inr (.inl Vp)
 . intro k ab h _;obtain⟨m,hk,e,row,l,fr,D,rfl⟩:=S5 k ab h;rw[nI]
   have W:ai (nd B f) k=none:=by
    cases hh:ai (nd B f) k with
    |none=>rfl
    |some y=>have:=(pS _ k y d hh).1;rw[D] at this;cases this
   obtain⟨xs,O,F,R⟩:=I.blocks k _ D;simp only[BR,r k W];refine⟨xs,dH O (λb H=>g.same b (oK I (by simp[D]) H)),bR (λc x hx=>bE s row c x hx) l xs F,λb H=>?_⟩;simp only[Q?,p,m,N!];exact g.mono b (.inr ⟨k,hk,H⟩)
 . intro k ab h;obtain⟨O,F,R⟩:=N k ab h;obtain⟨e,row,l,rfl⟩:=E2 f _ ab S F;obtain⟨⟨xs,E,X,Y⟩,g4⟩:=g.rows _ _ F;simp only[BR,q k _ h]
   have sP:dZ (bJ w' p row) xs l:=by
    simp only[p];cases m:res.gw&&eB f with
    |true=>
     simp only[B!] at m;exact bR (λc x hx=>Ys row c x (E3 f _ e row l false m.2 F) hx) l xs X
    |false=>exact X
   refine⟨xs,E,sP,λb H=>?_⟩;have L:=Y b H;simp only[c?,r?] at L |-;simp only[p];cases m:res.gw&&eB f with
   |true=>intro hA;exact absurd (I.bound b hA) (by have:=g4 b H;omega)
   |false=>exact L
 intro k b ab h H;obtain⟨O,F,R⟩:=N k ab h;rw[q k _ h] at H;exact .inl ((g.rows _ _ F).2 b H);intro k K b h h' H P;obtain⟨x,hx⟩:=Z!.1 h;obtain⟨y,Q⟩:=Z!.1 h';obtain⟨O,F,R⟩:=N k x hx;obtain⟨E,X,Y⟩:=N K y Q;rw[q k _ hx] at H;rw[q K _ Q] at P;have:=g.apart _ _ b R Y H P;omega
 . have w9:=FV (aC:=aC) B f.length J res v o g.res;simp only[p];cases m:res.gw&&eB f with
   |false=>exact w9
   |true=>
    simp only[B!] at m;exact FV (aC:=aC) B f.length J res v o (On res v m.1 g.res)
def Oo(G:Nat->Option GD)(f:FuncId)(t:M AV->Option (Option Nat×CF)):Prop:=
 ∀(w:World) (A:Nat->Prop) (β:Nat->Value) (b:Array Value) (B:M AV) (k:Option Nat) (F:CF),(∀i d,G i=some d->auo w A i d)->ae w A β b.toList B->t B=some (k,F)->
  ∀p,(∀j,k=some j->p=β j)->BN w A p (.func (.func f) #[] b) F
structure ba (P:Program) (E:Env):Prop where
 gm:bM E.T P
 sig:∀f s,E.sig f=some s->Valid P E.lM f s/\aMw P f
 rA:∀f m s,E.rA f=some (m,s)->aJ P E.lM f s/\aMw P f
 hp:∀Q,HP.is Q↔Q=P
 cn:∀f t,E.cn f=some t->Oo E.lM f t
structure dU (P:Program) (C:Ctx) (E:Env):Prop where
 ok:ba P E
 g:C.G=E.lM
theorem dU.gm {P:Program}{C:Ctx}{E:Env}(h:dU P C E):bM E.T P:=h.ok.gm
theorem dU.rA {P:Program}{C:Ctx}{E:Env}(h:dU P C E):∀f m s,E.rA f=some (m,s)->aJ P E.lM f s/\aMw P f:=h.ok.rA
theorem dU.sig {P:Program}{C:Ctx}{E:Env}(h:dU P C E):∀f s,E.sig f=some s->Valid P E.lM f s/\aMw P f:=h.ok.sig
def fR(st:St)(o:Oper):Bool:=match o.dst with
 |some d=>Nat.blt d st.n
 |none=>true
theorem oL(h:aq C A β st a w):∀(xs:M Operand),ae w A β (xs.map a.eval) (xs.map (ev st))
 |[]=>by rfl
 |x::xs=>by
  exact⟨_,_,rfl,aM h x,oL h xs⟩
theorem dx {dst:Option Tmp}{op:Op}{t:TypeId}{p:String}{A:Array Edge}{g:Option (Nat×Bool)}{s:Sem Value}{out:Out}
  (m:∀w,(execOp a.eval ⟨dst,op,t,p,A,g⟩).run P w=(s.run P w).andThen λv w'=>.ok (.value v) w') (h:∃v w',s.run P w= .ok v w'/\Rel C (st.put dst out) (a.put dst v) w')
  (H:∀f w',Rel C (st.put dst out) f w'->K f w'):Oper.wp P ⟨dst,op,t,p,A,g⟩ a w K Q:=by
 obtain⟨v,w',q,k⟩:=h;refine bK (v:=v) (w':=w') ?_ (H _ _ k);simp_all
def Oq(h:aq C A β st a w):∀(x:Option Operand),avX w A β (x.map (ev st)) (x.map a.eval)
 |none=>by simp[avX]
 |some x=>by grind[avX,aM]
theorem Ot(h:lp st.h [(d,b)]=true):st.h d=none/\rJ d=false:=pS _ d b h (by simp[ai])
theorem pT{k:Nat}(H:fresh h k=true):h k=none/\rJ k=false:=by
 grind[fresh]
theorem Yt(D:dU P C E)(H:aq C A β st a w)(h:dY E st o=some out)(vu:fR st o=true)(iP:lp st.h out.new=true)(G:∀p∈out.cond,p)
  (B:∀a' w',Rel C (st.put o.dst out) a' w'->K a' w'):o.wp P a w K Q:=by
 have q:∀t,o.dst=some t->t<st.n:=by
  intro t ht;simp_all[fR,L!]
 obtain⟨dst,op,type,pos,after,guard⟩:=o;simp only at q B;cases op with
 |move x=>
  simp only[dY,A!] at h;subst h;exact bK (by rfl) (B _ _ (Rel.kP (H.quiet q ⟨rfl,rfl,rfl⟩ (aM H x))))
 |assign x=>
  simp only[dY,A!] at h;subst h;exact bK (by rfl) (B _ _ (Rel.kP (H.quiet q ⟨rfl,rfl,rfl⟩ (aM H x))))
 |pick c x y=>
  simp only[dY] at h;have u:=aM H c;have hx:=aM H x;have U:=aM H y;split at h;rename_i O;simp only[Option.some.injEq] at h;subst h;rw[O] at u;simp only[aa] at u;exact bK (v:=a.eval x) (by simp_all[execOp,asBool]) (B _ _ (Rel.kP (H.quiet q ⟨rfl,rfl,rfl⟩ hx)));rename_i O;simp only[Option.some.injEq] at h;subst h;rw[O] at u;simp only[aa] at u;exact bK (v:=a.eval y) (by simp_all[execOp,asBool]) (B _ _ (Rel.kP (H.quiet q ⟨rfl,rfl,rfl⟩ U)));rename_i p O;simp only[Option.some.injEq] at h;subst h;rw[O] at u;simp only[aa] at u;refine bK (v:=if p then a.eval x else a.eval y) (by simp_all[execOp,asBool]) (B _ _ (Rel.kP (H.quiet q ⟨rfl,rfl,rfl⟩ ?_)));grind[EY];grind
 |alloc t=>
  simp only[dY] at h;split at h
  . rename_i te d ht;cases h40:Nat.ble te.size 40 with
    |false=>grind
    |true=>
    rw[h40] at h;simp only[K!] at h;cases R:(ofConst te.zero).cells.all AV.one with
    |false=>grind
    |true=>
     simp only[R,K!,A!] at h;subst h;exact dx (λw=>by simp[execOp]) (Vr D.gm H q (Ot iP) ht R) B
  grind
 |box t x=>
  simp only[dY] at h;split at h
  . rename_i d;cases R:(ev st x).cells.all AV.one with
    |false=>grind
    |true=>
     simp only[R,K!,A!] at h;subst h;exact dx (λw=>by rfl) (Og (t:=t) H q (Ot iP) (aM H x) R) B
  grind
 |build t parts=>
  simp only[dY] at h;refine dx (s:=Instr.build t (parts.map λ(i,x)=>(i,a.eval x))) (λw=>by simp[execOp]) (Reads.vt H q (Vs D.gm ?_ ?_ h)) B;simp_all
  have:=oL H (parts.toList.map (·.2));simp_all[Function.comp_def]
 |buildSlice t len parts=>
  simp only[dY] at h;split at h
  . rename_i d;cases I:fresh st.h (st.kb+d) with
    |false=>grind
    |true=>
    simp only[I,K!] at h;have hn:=pT I;refine dx (s:=Instr.buildSlice t len (parts.map λ(i,x)=>(i,a.eval x))) (λw=>by simp[execOp]) (HQ D.gm H q hn ?_ ?_ h) B;simp_all
    have:=oL H (parts.toList.map (·.2));simp_all[Function.comp_def]
  grind
 |load t x=>
  simp only[dY] at h;exact dx (λw=>by simp[execOp]) (Reads.vt H q (BV D.gm H (aM H x) h G)) B
 |store t x y=>
  simp only[dY] at h;have hx:=aM H x;have U:=aM H y
  have key:∃w',(Instr.storeAt t (a.eval x) (a.eval y)).run P w= .ok () w'/\Rel C (st.put dst out) (a.put dst undef) w':=by
   cases J:ev st x with
   |ref k off=>rw[J] at h hx;exact yG D.gm H q hx U h
   |elem k sz i j=>rw[J] at h hx;exact HL D.gm H q hx U h G
   |_=>grind[jt]
  obtain⟨w',h1,h2⟩:=key;simp_all[pP,execOp]
 |nilCheck x=>
  simp only[dY] at h;have hx:=aM H x
  have V:∀r,ev st x=r->out= {cond:=[],res:=r}->(execOp a.eval {dst,op:=.nilCheck x,type,pos,after,guard}).run P w= .ok (.value (a.eval x)) w->Oper.wp P {dst,op:=.nilCheck x,type,pos,after,guard} a w K Q:=by
   intro r hr ho iQ;subst ho;exact bK iQ (B _ _ (Rel.kP (H.quiet q ⟨rfl,rfl,rfl⟩ x!)))
  split at h;rename_i k off F;simp only[A!] at h;refine V _ F h.symm ?_;rw[F] at hx;simp only[aa] at hx;obtain⟨b,_,hx⟩:=hx;simp[execOp,hx];rename_i r y j F;simp only[A!] at h;refine V _ F h.symm ?_;rw[F] at hx;simp only[aa] at hx;obtain⟨b,o,cs,hx,_⟩:=hx;simp[execOp,hx];rename_i k sz i j F;simp only[A!] at h;refine V _ F h.symm ?_;rw[F] at hx;simp only[aa] at hx;obtain⟨b,m,cap,_,hx⟩:=hx;simp[execOp,hx];rename_i f first W F
  simp only[Option.some.injEq] at h;refine V _ F h.symm ?_;rw[F] at hx;simp only[aa] at hx;obtain⟨a1,a2,hx,_⟩:=hx;simp[execOp,hx];grind
 |binOp op t x y yt=>
  simp only[dY] at h
  exact dx (s:=do eqGuard op t x y (a.eval x) (a.eval y);binOp op t (a.eval x) (a.eval y)) (λw=>by
   simp only[execOp,Sem.run_bind];rfl) (Reads.vt H q (ģ D.gm (aM H x) (aM H y) h G)) B
 |unOp op t x=>
  simp only[dY] at h;exact dx (λw=>by simp[execOp]) (Reads.vt H q (ajI (aM H x) h G)) B
 |convert s d x=>
  simp only[dY] at h;exact dx (λw=>by simp[execOp]) (Oj D.gm H q (aM H x) h G) B
 |makeFunc f first W=>
  simp only[dY,A!] at h;subst h;refine bK (v:=.func f (first.map a.eval) (W.map a.eval)) (by rfl) (B _ _ (Rel.kP (H.quiet q ⟨rfl,rfl,rfl⟩ ?_)));simp only[aa];exact⟨_,_,rfl,by simpa using oL H first.toList,by simpa using oL H W.toList⟩
 |makeSlice t l c=>
  simp only[dY] at h;split at h
  . rename_i d;cases I:fresh st.h (st.kb+d) with
    |false=>grind
    |true=>
    simp only[I,K!] at h;exact dx (λw=>by simp[execOp]) (JV D.gm H q (pT I) (aM H l) (aM H c) h G) B
  grind
 |slice t x l L mx=>
  simp only[dY] at h;exact dx (λw=>by simp[execOp]) (Reads.vt H q (Vl D.gm H (aM H x) (Oq H l) (Oq H L) (Oq H mx) h G)) B
 |fieldAddr s x f=>
  simp only[dY] at h;exact dx (λw=>by simp[execOp]) (Reads.vt H q (JL D.gm (aM H x) h)) B
 |field s x f=>
  simp only[dY] at h;have hx:=aM H x;split at h;rename_i ft off cs I F;split at h;rename_i te ht;split at h;rename_i r hp;simp only[A!] at h;subst h;rw[F] at hx;simp only[aa] at hx;obtain⟨arr,hx,hr⟩:=hx;obtain⟨fs,fd,hu,hfd,e1,e2⟩:=LD D.gm I;obtain⟨v,g1,g2⟩:=yE D.gm ht hr hp;refine bK (v:=v) (w':=w) ?_ (B _ _ (Rel.kP (H.quiet q ⟨rfl,rfl,rfl⟩ g2)));simp_all[execOp,Instr.field,run_underlying,asAgg]
  grind;grind;grind
 |indexAddr t x i=>
  simp only[dY,xb] at h;exact dx (λw=>by simp[execOp]) (Reads.vt H q (JK D.gm H (aM H x) (aM H i) h G)) B
 |lookup t x i ok=>
  simp only[dY] at h;have hx:=aM H x;have L:=aM H i;split at h;rename_i ks cs n J S;rw[J] at hx;rw[S] at L;simp only[aa] at L;refine dx (s:=Instr.lookup t (a.eval x) (a.eval i) ok) (λw=>by simp[execOp]) (Reads.vt H q ?_) B;rw[L.1];exact Sm D.gm hx h G;grind
 |extract x i=>
  simp only[dY] at h;have hx:=aM H x;split at h;rename_i vs F;split at h;rename_i r hr;simp only[Option.some.injEq] at h;subst h;rw[F] at hx;simp only[aa] at hx;obtain⟨arr,hx,hrel⟩:=hx;obtain⟨v,g1,g2⟩:=xa vs _ i r hrel hr;have g1':arr[i]? =some v:=by grind
  exact bK (v:=v) (w':=w) (by simp_all[execOp,Instr.extract]) (B _ _ (Rel.kP (H.quiet q ⟨rfl,rfl,rfl⟩ g2)));grind;grind
 |index t x i=>
  simp only[dY] at h;have hx:=aM H x;have L:=aM H i;split at h
  . rename_i s k n J S;cases FO:cW E.T t ui with
    |false=>grind
    |true=>
    simp only[FO,cond_true,Option.some.injEq] at h;subst h;obtain⟨h0,h1⟩:=fH G;obtain⟨dd,hu,aR4⟩:=rM D.gm FO;have hu:P.underlying t=some .string:=by grind[ui]
    rw[J] at hx;rw[S] at L;simp only[aa] at hx L;have iT:n.toNat<s.length:=by omega
    refine bK (v:=.int .u8 ((s.getD n.toNat 0).toNat:Int)) (w':=w) ?_ (B _ _ (Rel.kP (H.quiet q ⟨rfl,rfl,rfl⟩ ?_)))
    have hg:(⟨s.toArray⟩:ByteArray)[n.toNat]? =some (s.getD n.toNat 0):=by
     rw[getElem?_pos _ _ (by grind[BX])];simp[List.getD,List.getElem?_eq_getElem iT];rfl
    simp[execOp,Instr.index,hx.1,L.1,asIntOf,run_underlying hu,h0,hg];simp only[aa,true_and];have:=(s.getD n.toNat 0).toNat_lt;grind[lo,Vg.hi]
  rename_i cs k n J S;rw[J] at hx;rw[S] at L;simp only[aa] at hx L;obtain⟨arr,hxe,rq⟩:=hx;exact dx (s:=Instr.index t (.agg arr) (a.eval i)) (λw=>by simp[execOp,hxe]) (Reads.vt H q (MW D.gm rq L.1 h G)) B;grind
 |call c=>
  obtain⟨callee,args,argTypes⟩:=c;simp only[dY] at h;split at h
  . rename_i b;split at h
    . rename_i x t z MY;have hx:=aM H x;split at h
      . rename_i n hn;cases N:(bif zE (ev st x) then cW E.T t nH else cW E.T t ui) with
        |false=>grind
        |true=>
         simp only[N,cond_true,Option.some.injEq] at h;subst h;have X:args= #[x]:=by grind
         have et:argTypes= #[t]:=by grind
         subst X;subst et;rcases ğ H hx hn with⟨ad,l,c,F,hl,hm⟩|⟨s,hs,hl⟩
         have hns:zE (ev st x)=true:=by
          cases J:ev st x<;>first|rfl|skip
          grind[aa]
         rw[hns] at N;simp only[K!] at N;obtain⟨d,hu,FO⟩:=rM D.gm N;obtain⟨e,rfl⟩:∃e,d= .slice e:=by cases d<;>simp_all[nH]
         refine bK (v:=.int .i64 (l:Int)) (w':=w) ?_ (B _ _ (Rel.kP (H.quiet q ⟨rfl,rfl,rfl⟩ (by grind[Oi]))));simp_all[execOp,resolve,invoke,builtin,Builtin.len_,run_underlying,goInt]
         rw[hs] at hx N;simp only[zE,cond_false] at N;obtain⟨d,hu,FO⟩:=rM D.gm N;have hu:P.underlying t=some .string:=by grind[ui]
         simp only[aa] at hx;refine bK (v:=.int .i64 (s.length:Int)) (w':=w) ?_ (B _ _ (Rel.kP (H.quiet q ⟨rfl,rfl,rfl⟩ (by grind[Oi]))));simp[execOp,resolve,invoke,builtin,hx.1,Builtin.len_,run_underlying hu,goInt,BX]
      grind
    . rename_i x y t t' z MY;split at h
      . rename_i d;cases I:fresh st.h (st.kb+d) with
        |false=>grind
        |true=>
         simp only[I,cond_true] at h;have X:args= #[x,y]:=by grind
         have et:argTypes= #[t,t']:=by grind
         subst X;subst et;exact dx (s:=Builtin.append_ #[t,t'] type #[a.eval x,a.eval y]) (λw=>by simp[execOp,resolve,invoke,builtin]) (Sn D.gm H q (pT I) (aM H x) (aM H y) h G) B
      grind
    rename_i x t z MY;have X:args= #[x]:=by grind
    have et:argTypes= #[t]:=by grind
    subst X;subst et;exact dx (s:=Builtin.clear_ #[t] type #[a.eval x]) (λw=>by simp[execOp,resolve,invoke,builtin]) (Vt D.gm H q (aM H x) h G) B;rename_i x y z;have X:args= #[x,y]:=by grind
    subst X;have hx:=aM H x;have U:=aM H y;split at h;rename_i k n k' m J Z;split at h;rename_i hk;subst hk;simp only[A!] at h;subst h;rw[J] at hx;rw[Z] at U;simp only[aa] at hx U;refine bK (v:=.int k (min n m)) (w':=w) ?_ (B _ _ (Rel.kP (H.quiet q ⟨rfl,rfl,rfl⟩ (by simp only[aa,true_and];omega))));have e:(if m<n then m else n)=min n m:=by omega
    simp_all[execOp,resolve,invoke,builtin,run_min_int2]
    grind;grind;rename_i x y z;have X:args= #[x,y]:=by grind
    subst X;have hx:=aM H x;have U:=aM H y;split at h;rename_i k n k' m J Z;split at h;rename_i hk;subst hk;simp only[A!] at h;subst h;rw[J] at hx;rw[Z] at U;simp only[aa] at hx U;refine bK (v:=.int k (max n m)) (w':=w) ?_ (B _ _ (Rel.kP (H.quiet q ⟨rfl,rfl,rfl⟩ (by simp only[aa,true_and];omega))));have e:(if m>n then m else n)=max n m:=by omega
    simp_all[execOp,resolve,invoke,builtin,run_max_int2]
    grind;grind;grind
  . rename_i f;have I:=aM H f
    have key:∀(FX:FuncId) (first W:M AV) (Y:Nat),ev st f= .fn (.func FX) first W->qn E st.h Y FX (first++(args.toList.map (ev st))++W)=some out->
      Oper.wp P {dst,op:=.call {callee:=.value f,args,argTypes},type,pos,after,guard} a w K Q:=by
     intro FX first W Y hfv Bg
     rw[hfv] at I;simp only[aa] at I;obtain⟨a1,a2,HG,r1,r2⟩:=I;unfold qn at Bg;split at Bg
     . rename_i s hs;split at Bg
       . rename_i pre res bs hsv;cases N:(Nat.ble bs.length 100&&ou bs.length res&&aUR bs) with
         |false=>grind
         |true=>
          simp only[N,K!,A!] at Bg;subst Bg;simp only[B!] at N;obtain⟨F,ĭ⟩:=D.sig FX s hs;have z:=ia _ _ _ _ (ia _ _ _ _ r1 (oL H args.toList)) r2;obtain⟨p1,p2⟩:=Td (A':=cd A β (ry st.h (first++(args.toList.map (ev st))++W)).2) H (λb h=>.inl h) _ _ z (λk hk b hb=>.inr ⟨k,hk,hb⟩)
          have Yq:∀b,cd A β (ry st.h (first++(args.toList.map (ev st))++W)).2 b->b<w.heap.size:=by
           intro b h;rcases h with h|⟨j,hj,hb⟩;exact H.bound b h;obtain⟨e',r',l',f',hr⟩:=p2 j hj;exact oK H x! hb
          have xY:=F w _ β _ _ pre res bs Yq (λi d L=>(H.laid i d (by rw[D.g];omega)).mono (λb h=>⟨.inl h,rfl⟩)) p1 hsv (fH G)
          have iQ:(execOp a.eval {dst,op:=.call {callee:=.value f,args,argTypes},type,pos,after,guard}).run P w= .ok (.enter FX (a1.toList++args.toList.map a.eval++a2.toList).toArray) w:=by
           have e:(a1++args.map a.eval)++a2=(a1.toList++args.toList.map a.eval++a2.toList).toArray:=by
            grind
           have:=ĭ (a1++args.map a.eval++a2) w;grind[execOp,resolve,Deferred.ofValue,Sem.run_bind,Sem.run_pure,Result.andThen_ok,invoke]
          unfold Oper.wp;rw[iQ];simp only[Oper.upon_enter];refine xY.mono λe w' ⟨v,he,A1,uk,zR⟩=>?_;subst he;exact B _ _ (H.call q p2 iP N.1.2 N.2 zR)
       grind
     grind
    grind
  grind
 |_=>grind[dY]
def ly(k:Nat):M AB->Bool
 |[]=>true
 |.row _ _ _ false ::r=>ly k r
 |.views _ (some j) _ _ _::r=>Nat.blt j k&&ly k r
 |_=>false
def Į(f:aq C A β st a w){k:Nat}{j:Option Nat}{m:Nat}(h:st.h k=some (.views e j n m sz)):
  (β k= .slice none 0 0/\n=0)\/∃b cap c,β k= .slice (some ⟨b,0,none⟩) n cap/\w.heap[b]? =some (.cells c e (0,0))/\n<=cap/\cap<=maxLen/\c.size=cap/\¬A b/\
    ∀J,j=some J->∀i,i<m->∃v,(c.toList.take n)[i]? =some v/\aa w A β v (.view J 1 (i*sz) sz):=by
 obtain⟨xs,p,q,G⟩:=f.blocks k _ h;rcases p.2 with⟨H,I⟩|⟨g,cap,c,H,_,B,D,F,L,M⟩;grind;refine .inr ⟨g,cap,c,H,B,D,F,w!,q g (by rw[H];rfl),λJ N i O=>?_⟩;grind
def zS {k:Nat}:∀(b:M AB) (i:Nat) (ab:AB),ly k b=true->b[i]? =some ab->(∃e row l,ab= .row e row l false)\/∃e j n m sz,ab= .views e (some j) n m sz/\j<k
 |.row e row l false ::b,0,ab,_,h=>by grind
 |.views e (some j) n m sz::b,0,ab,H,h=>by
   simp only[ly,B!] at H;simp at h;exact .inr ⟨e,j,n,m,sz,h.symm,L! H.1⟩
 |.row e row l false ::b,i+1,ab,H,h=>zS b i ab (by grind[ly]) x!
 |.views e (some j) n m sz::b,i+1,ab,H,h=>zS b i ab (by simp_all[ly,Bool.and_eq_true]) x!
 |.row e row l true ::b,_,_,h,_=>by grind[ly]
 |.views e none n m sz::b,_,_,h,_=>by grind[ly]
 |.cells _::b,_,_,h,_|.arr _ _::b,_,_,h,_|.iE _ _ _ _ _::b,_,_,h,_=>by grind[ly]
 |[],_,_,_,h=>by grind
def Ou(E:Env)(st:St)(o:Oper):Option Out:=
 let T:=E.T
 let h:=st.h
 let f:=ev st
 match o.op with
 |.alloc t=>match T.find t,o.dst with
   |some te,some d=>match te.desc with
    |.array n e=>match rowOf T qm e with
      |some [u]=>match zC [u] n (ofConst te.zero).cells with
       |some l=>some {cond:=[],res:=.ref (st.kb+d) 0,new:=[(st.kb+d,.arr [u] l)]}
       |none=>none
      |_=>none
    |_=>none
   |_,_=>none
 |.load t p=>match f p,T.find t with
   |.ref k off,some te=>match h k with
     |some (.arr [u] l)=>match pick te [Hh u (Row.hd (l.getD off (Row.zero [u])))] 0 with
      |some a=>some {cond:=[off<l.length],res:=a}
      |none=>none
     |_=>none
   |_,_=>none
 |.store t p v=>match f p with
   |.ref k off=>match h k with
     |some (.arr [u] l)=>match X8 u (f v) with
      |some x=>bif kU T t 1 then some {cond:=[off<l.length],res:=.undef,hX:=[(k,.arr [u] (l.set off (Row.mk x ())))]} else none
      |none=>none
     |_=>none
   |_=>none
 |_=>none
def aev(E:Env)(st:St)(o:Oper):Option Out:=match dY E st o with
 |some out=>some out
 |none=>Ou E st o
theorem aq.auc(g:aq C A β st a w)(p:∀t,dst=some t->t<st.n){row:M Ty}{l:M (Row row)}{cond:M Prop}
  (G:st.h d=none/\rJ d=false) (f:dZ (bJ w A row) arr.toList l):
  aq C A (br β d (.pointer (some ⟨w.heap.size,0,none⟩))) (st.put dst {cond:=cond,res:=.ref d 0,new:=[(d,.arr row l)]}) (a.put dst (.pointer (some ⟨w.heap.size,0,none⟩))) (w.alloc (.cells arr e)):=by
 have m:bI w (w.alloc (.cells arr e)) A A:=λb H=>⟨H,eE _ b (g.bound b H)⟩
 have q:∀k,ai [(d,AB.arr row l)] k=none->br β d (.pointer (some ⟨w.heap.size,0,none⟩)) k=β k:=by
  intro k h;have :k≠d:=by rintro rfl;simp[ai] at h
  grind[br]
 refine g.step (out:={cond:=cond,res:=.ref d 0,new:=[(d,.arr row l)]}) p ?_ (by simp[ai]) q m rfl rfl rfl z! (λb H _=>eE _ b H) (λb H=>by have:=g.bound b H;simp;omega) (λb H=>.inl H) (by simp[ai]) ?_ ?_ ?_ ?_;grind[gx];intro k ab h;obtain⟨rfl,rfl⟩:=gx h;exact⟨w.heap.size,arr,e,by simp[br],heap_alloc_new w _,λh=>absurd (g.bound _ h) w!,bR (λc x B=>bE m row c x B) l _ f⟩;intro k b ab h H;obtain⟨rfl,_⟩:=gx h;simp_all[br,if_true,ah,Option.some.injEq]
 grind[Option.isSome_iff_exists,gx];exact⟨w.heap.size,by simp[br],rfl⟩
def Th {u:Ty}{l:M (Row [u])}(L:off<l.length)(h:dZ (bJ w A [u]) cs l):
  ∃v,cs[off]? =some v/\Rd w A u v (Row.hd (l.getD off (Row.zero [u])))/\∀v' x,Rd w A u v' x->dZ (bJ w A [u]) (cs.take off++[v']++cs.drop (off+1)) (l.set off (Row.mk x ())):=by
 obtain⟨C,c,f,e,E,g,k,m⟩:=vj l cs off L h;obtain⟨v,V,rfl,G,rfl⟩:=g;have H:C.length=off:=by simpa using E
 subst e;refine⟨v,?_,x!,λv' x p=>?_⟩;rw[List.getElem?_append_right w!,H,Nat.sub_self];rfl;have t1:(C++([v]++f)).take off=C:=by rw[<-H,List.take_left]
 have t2:(C++([v]++f)).drop (off+1)=f:=by
  rw[<-H,List.drop_length_add_append];rfl
 rw[t1,t2,i?,Q! L,X!];refine j5 _ _ _ _ k ⟨[v'],f,rfl,?_,m⟩;exact⟨v',[],rfl,by exact p,rfl⟩
theorem Yu(I:dU P C E)(H:aq C A β st a w)(h:aev E st o=some out)(vu:fR st o=true)(iP:lp st.h out.new=true)(Z:∀p∈out.cond,p)
  (m:∀s w',Rel C (st.put o.dst out) s w'->K s w'):o.wp P a w K Q:=by
 unfold aev at h;split at h;grind[Option.some.injEq,Yt];rename_i rO;clear rO
 have q:∀t,o.dst=some t->t<st.n:=by
  intro t B;simp_all[fR,L!]
 obtain⟨dst,op,y,pos,J,L⟩:=o;simp only at q m;unfold Ou at h;simp only at h;split at h;rename_i t;split at h;rename_i te d B;split at h;rename_i n e JP;split at h;rename_i u mO;split at h;rename_i l hl;simp only[Option.some.injEq] at h;subst h;obtain⟨hu,i,hi,hs,z,hz⟩:=I.gm.ok t te B;obtain⟨g1,g2⟩:=B6 [u] n _ _ l (lv (w:=w) (A:=A) (β:=β) te.zero) hl;refine bK (v:=.pointer (some ⟨w.heap.size,0,none⟩)) (w':=w.alloc (.cells te.zero.cells t)) ?_ (m _ _ (Rel.kP (H.auc q (Ot iP) g1)));simp_all[execOp,Instr.alloc,zeroValue,typeInfo,hi,newVar,newRow]
 grind;grind;grind;grind;rename_i t p;split at h;rename_i k off te M B;split at h;rename_i u l N;split at h;rename_i r O;simp only[Option.some.injEq] at h;subst h;have R:off<l.length:=fH Z;have f:=aM H p;rw[M] at f;simp only[aa] at f;obtain⟨b,c,S⟩:=f;obtain⟨D,arr,e,g,F,U,G⟩:=H.blocks k _ N;rw[c] at g;simp only[Value.pointer.injEq,Option.some.injEq,Addr.mk.injEq,and_true] at g;subst g;obtain⟨v,c1,c2,_⟩:=Th R G
 have hr:w.rangeAt b off [v]:=by
  intro j u' hj;grind[List.getElem?_cons_zero,Option.some.injEq,World.cell?]
 have Vx:ae w A β [v] [Hh u (Row.hd (l.getD off (Row.zero [u])))]:=by
  grind[ae,Ya]
 obtain⟨v',k1,k2⟩:=lW (β:=β) I.gm B Vx O hr;refine bK (v:=v') (w':=w) ?_ (m _ _ (Rel.kP (H.quiet q ⟨rfl,rfl,rfl⟩ k2)));simp_all[Nat.add_zero,execOp]
 grind;grind;grind
 . rename_i t p x;split at h
   . rename_i k off M;split at h
     . rename_i u l N;split at h
       . rename_i d V;cases MV:kU E.T t 1 with
         |false=>grind
         |true=>
         rw[MV] at h;simp only[K!,A!] at h;subst h;have R:off<l.length:=fH Z;obtain⟨ii,kQ,vq⟩:=rN I.gm MV;have f:=aM H p;rw[M] at f;simp only[aa] at f;obtain⟨b,c,S⟩:=f;have rq:=Od u _ _ d (aM H x) V;obtain⟨D,arr,e,g,F,U,G⟩:=H.blocks k _ N;rw[c] at g;simp only[Value.pointer.injEq,A!,Addr.mk.injEq,and_true] at g;subst g;have z:ah (β k)=some b:=by rw[c];rfl
         have W:(a.eval x).oneCell'=true:=B2 [u] [a.eval x] (Row.mk d ()) (by simp only[bJ];exact⟨_,[],rfl,by rw[xW];exact rq,rfl⟩) _ z!;have X:=cells_one W;have hlen:=jl l _ G;have eH:arr.size=l.length:=by grind
         have iQ:=nN (w:=w) (P:=P) kQ (v:=a.eval x) x! x! F (off:=off) x!;rw[X] at iQ;obtain⟨v,c1,c2,c3⟩:=Th R G;refine pP (w':=w.setRow b (arr.toList.take off++[a.eval x]++arr.toList.drop (off+1)).toArray) ?_ (m _ _ ?_);grind[Instr.storeAt,execOp,Sem.run_bind,Result.andThen_ok,Sem.run_pure];refine H.write q (k:=k) (fz:=[]) (ab:=.arr [u] (l.set off (Row.mk d ()))) x! z U F ⟨rfl,rfl,rfl⟩ z! ?_ (by rfl);intro A' Y Yn hA3;have BE:bI w (w.setRow b (arr.toList.take off++[a.eval x]++arr.toList.drop (off+1)).toArray) A A':=λD h=>⟨Y D h,setRow_other w b D _ (λh'=>U (h'▸h))⟩;refine⟨b,_,e,c,setRow_heap w b arr _ e _ F,λh=>?_,?_⟩;grind;grind[bR,bE]
       grind
     grind
   grind
 grind
mutual
def aA:AV->M Nat
 |.own k|.pre k _|.view k _ _ _|.ref k _|.elem k _ _ _=>[k]
 |.agg cs=>ay cs
 |.bk vs=>ay vs
 |.fn _ first bl=>ay first++ay bl
 |.jR _ cs=>ay cs
 |_=>[]
def ay:M AV->M Nat
 |[]=>[]
 |a::as_=>aA a++ay as_
end
def iB:AB->M Nat
 |.cells cs=>ay cs
 |.views _ (some j) _ _ _|.iE _ (some j) _ _ _|.dO _ (some j) _|.eG _ (some j) _ _=>[j]
 |_=>[]
def Cf:M (Nat×AB)->M Nat
 |[]=>[]
 |(_,b)::r=>iB b++Cf r
mutual
def fa(f:Nat->Nat):AV->AV
 |.own k=>.own (f k)
 |.pre k n=>.pre (f k) n
 |.view k sz off n=>.view (f k) sz off n
 |.ref k off=>.ref (f k) off
 |.elem k sz i j=>.elem (f k) sz i j
 |.agg cs=>.agg (mP f cs)
 |.bk vs=>.bk (mP f vs)
 |.fn g first bl=>.fn g (mP f first) (mP f bl)
 |.jR ks cs=>.jR ks (mP f cs)
 |a=>a
def mP(f:Nat->Nat):M AV->M AV
 |[]=>[]
 |a::as_=>fa f a::mP f as_
end
def nj(f:Nat->Nat):AB->AB
 |.cells cs=>.cells (mP f cs)
 |.views e (some j) n m sz=>.views e (some (f j)) n m sz
 |.iE e (some j) row l i=>.iE e (some (f j)) row l i
 |.dO e (some j) l=>.dO e (some (f j)) l
 |.eG e (some j) xs i=>.eG e (some (f j)) xs i
 |b=>b
mutual
theorem zT(f:Nat->Nat):∀(x:AV) (v:Value),(∀k∈aA x,aC (f k)=β k)->aa w A β v x->aa w A aC v (fa f x)
 |.own k,v,hk,h=>by
   simp only[fa,aa] at h |-;rw[hk k (by simp[aA])];exact h
 |.pre k n,v,hk,h=>by
   simp only[fa,aa] at h |-;rw[hk k (by simp[aA])];exact h
 |.view k _ _ _,v,hk,h=>by
   simp only[fa,aa] at h |-;rw[hk k (by simp[aA])];exact h
 |.ref k _,v,hk,h=>by
   simp only[fa,aa] at h |-;rw[hk k (by simp[aA])];exact h
 |.elem k _ _ _,v,hk,h=>by
   simp only[fa,aa] at h |-;rw[hk k (by simp[aA])];exact h
 |.agg cs,v,hk,h=>by
   simp only[fa,aa] at h |-;obtain⟨arr,H,m⟩:=h;exact⟨arr,H,j7 f cs _ (λk G=>hk k (by simpa[aA] using G)) m⟩
 |.bk cs,v,hk,h=>by
   simp only[fa,aa] at h |-;obtain⟨arr,H,m⟩:=h;exact⟨arr,H,j7 f cs _ (λk G=>hk k (by simpa[aA] using G)) m⟩
 |.fn g first bl,v,hk,h=>by
   simp only[fa,aa] at h |-;obtain⟨a,q,H,m,p⟩:=h;exact⟨a,q,H,j7 f first _ (λk G=>hk k (by simp[aA,G])) m,j7 f bl _ (λk G=>hk k (by simp[aA,G])) p⟩
 |.jR ks cs,v,hk,h=>by
   simp only[fa,aa] at h |-;obtain⟨b,es,C,H,m,p,B,D⟩:=h;exact⟨b,es,C,H,m,p,B,j7 f cs _ (λk G=>hk k (by simpa[aA] using G)) D⟩
 |.db,v,_,h=>by simp[fa,aa]
 |.undef,v,_,h|.int _ _,v,_,h|.bool _,v,_,h|.tt,v,_,h|.ff,v,_,h|.str _,v,_,h|.nil,v,_,h|.lh,v,_,h|.tY _ _,v,_,h|.nb,v,_,h|.sl _ _,v,_,h|.full _ _,v,_,h|.dc _ _ _,v,_,h|.vc _ _,v,_,h=>by simpa only[fa,aa] using h
theorem j7(f:Nat->Nat):∀(xs:M AV) (V:M Value),(∀k∈ay xs,aC (f k)=β k)->ae w A β V xs->ae w A aC V (mP f xs)
 |[],V,_,h=>by simpa only[mP,ae] using h
 |x::xs,V,hk,h=>by
  simp only[mP,ae] at h |-;obtain⟨v,c,rfl,H,m⟩:=h;exact⟨v,c,rfl,zT f x v (λk G=>hk k (by simp[ay,G])) H,j7 f xs c (λk G=>hk k (by simp[ay,G])) m⟩
end
def Vy(f:Nat->Nat){k K:Nat}(hk:aC K=β k)(F:∀j∈iB b,aC (f j)=β j)(h:BR w A β k b):BR w A aC K (nj f b):=by
 have O:=F;cases b with
 |cells cs=>
  have⟨b,arr,e,H,g,p,B,I⟩:=h;exact⟨b,arr,e,hk.trans H,g,p,j7 f cs _ (λj D=>F j (by grind[iB])) B,I⟩
 |row e row l fr=>
  grind[nj,BR]
 |arr row l=>
  have⟨b,arr,e,H,g,p,B⟩:=h;exact⟨b,arr,e,hk.trans H,g,p,B⟩
 |eG e j xs i=>
  have⟨y,H,g,p,B⟩:=h;cases j with
  |none=>exact⟨y,hk▸H,hk▸g,p,nofun⟩
  |some j=>
   refine⟨y,hk▸H,hk▸g,p,λJ D=>?_⟩<;>grind[iB]
 |fvar row x=>
  have⟨b,arr,e,H,g,p,B⟩:=h;exact⟨b,arr,e,hk.trans H,g,p,B⟩
 |mp b es ck=>exact⟨hk.trans h.1,h.2⟩
 |bm e sz n cs=>
  have⟨xs,H,g,p⟩:=h;exact⟨xs,hk▸H,hk▸g,p⟩
 |dO e j l=>
  have⟨xs,H,g,p⟩:=h;cases j with
  |none=>exact⟨xs,hk▸H,hk▸g,λq _=>p q (λ_ h=>by cases h)⟩
  |some j=>
   exact⟨xs,hk▸H,hk▸g,λq L=>p q λJ F=>(L (f j) rfl).trans (by grind[iB])⟩
 |iE e j row l i=>
  cases j<;>grind[nj,BR,Option.some.injEq,iB]
 |views e j n m sz=>
  have⟨xs,H,g,p⟩:=h;cases j with
  |none=>
   grind[nj,BR]
  |some G=>
   simp only[nj,BR,hk];refine⟨xs,H,g,λJ D i M=>?_⟩;simp at D;subst D;obtain⟨v,E,N⟩:=p G rfl i M
   exact⟨v,E,zT f (.view G 1 (i*sz) sz) v (λk R=>by
    grind[aA,List.mem_singleton,iB]) N⟩
def kW:M Nat->Bool
 |[]=>true
 |k::r=>!(aw r k)&&kW r
def dedup(a:M Nat):M Nat->M Nat
 |[]=>a.reverse
 |k::r=>bif aw a k then dedup a r else dedup (k::a) r
def behind(h:aP):M Nat->M Nat
 |[]=>[]
 |k::r=>(match h k with
  |some b=>iB b
  |none=>[])++behind h r
def Ov:M Nat->Nat->Nat
 |[],_=>0
 |j::r,k=>bif Nat.beq k j then 0 else Ov r k+1
def İ(K:M Nat)(k:Nat):Nat:=50000+Ov K k
def iU(K:M Nat)(b k:Nat):Nat:=bif Nat.blt k 60000 then K.getD (k-50000) 0 else b+(k-60000)
def dR(h:aP):M Bool->M AV->M AV×M Nat
 |_,[]=>([],[])
 |m,a::as_=>bif m.headD false then(a::(dR h m.tail as_).1,(dR h m.tail as_).2) else((oG h a).1::(dR h m.tail as_).1,(oG h a).2++(dR h m.tail as_).2)
def contents(h:aP):M Nat->Option (M AB)
 |[]=>some []
 |k::r=>match h k,contents h r with
  |some b,some l=>some (b::l)
  |_,_=>none
def kOk(r:pb)(k:Nat):Bool:=(Nat.ble 50000 k&&Nat.blt k 60000&&(match r.heap[k-50000]? with
 |some (some _)=>true
 |_=>false)) || (Nat.ble 60000 k&&Nat.blt k (60000+r.new.length))
def qx(g:Nat->Nat):M Nat->M (Option AB)->M (Nat×AB)
 |k::ks,some b::bs=>(k,nj g b)::qx g ks bs
 |_::ks,none::bs=>qx g ks bs
 |_,_=>[]
def xZ:M Nat->M (Option AB)->M Nat
 |_::ks,some _::bs=>xZ ks bs
 |k::ks,none::bs=>k::xZ ks bs
 |_,_=>[]
def Cg:M (Option AB)->M Nat
 |[]=>[]
 |some b::r=>iB b++Cg r
 |none::r=>Cg r
def zU:M AB->M Nat
 |[]=>[]
 |b::r=>iB b++zU r
def aD9(a K:M Nat):Bool:=a.all λk=>aw K k
def Vz(s:eQ)(h:aP)(b:Nat)(K:M Nat)(p:M AV)(f:M Nat):Option Out:=match contents h K with
 |some H=>bif kW K&&(aD9 (ay p++zU H) K&&(f.all (λk=>!aw K k)&&Nat.ble H.length 100)) then
  match s (mP (İ K) p) (H.map (nj (İ K))) with
  |some r=>bif Nat.beq r.heap.length H.length&&(Nat.ble r.new.length 100&&((aA r.res++(Cg r.heap++zU r.new)).all (kOk r))) then
    some {cond:=[r.pre]
          res:=fa (iU K b) r.res
          hX:=qx (iU K b) K r.heap++cG h f
          del:=xZ K r.heap
          new:=nd b (r.new.map (nj (iU K b)))
          raw:=K}
   else none
  |none=>none
  else none
 |none=>none
def qy(h:aP)(k:M Nat):M Nat:=behind h k++behind h (behind h k)
def nP(E:Env)(h:aP)(d f:Nat)(a:M AV):Option Out:=match E.rA f with
 |some (m,s)=>Vz s h (yC d) (dedup [] (ay (dR h m a).1++qy h (ay (dR h m a).1))) (dR h m a).1 (dR h m a).2
 |none=>none
def nQ:∀ {l:M Nat} {k:Nat},aw l k=true↔k∈l
 |[],k=>by simp[aw]
 |j::l,k=>by
  simp_all[aw,Y?,O!,nQ,D!,cY]
def LJ:∀ {K:M Nat} {k:Nat},k∈K->Ov K k<K.length/\K.getD (Ov K k) 0=k
 |j::K,k,h=>by
  simp[Ov];by_cases hk:k=j;simp_all
  simp[aO hk,N!];have:=LJ ((O!.1 h).resolve_left hk);simpa using this
def Ch {h:aP}:∀ {K:M Nat} {f:M AB},contents h K=some f->f.length=K.length/\∀(i:Nat) (ab:AB),f[i]? =some ab->∃k:Nat,K[i]? =some k/\h k=some ab
 |[],f,H=>by
   grind[contents,Option.some.injEq]
 |k::K,f,H=>by
  simp[contents] at H;split at H
  . rename_i b l m p;simp at H;subst H;have⟨g1,G⟩:=Ch p;refine⟨by simp[g1],λi ab g=>?_⟩;cases i with
    |zero=>simp at g;subst g;exact⟨k,rfl,m⟩
    |succ i=>simpa using G i ab (by simpa using g)
  cases H
def LK:∀ {K:M Nat},kW K=true->∀ {i j:Nat} {k:Nat},K[i]? =some k->K[j]? =some k->i=j
 |[],_,i,j,k,h,_=>by grind
 |x::K,H,i,j,k,h1,f=>by
  simp[kW,B!,K?] at H
  have g:∀m:Nat,K[m]? =some x->False:=λm p=>by
   have:=nQ.2 (W! p);rw[this] at H;exact absurd H.1 z!
  cases i with
  |zero=>
   cases j with
   |zero=>rfl
   |succ j=>
    simp at h1;subst h1;exact(g j (by simpa using f)).elim
  |succ i=>
   cases j with
   |zero=>
    simp at f;subst f;exact(g i (by simpa using h1)).elim
   |succ j=>rw[LK H.2 (i:=i) (by simpa using h1) (by simpa using f)]
def xd {g:Nat->Nat}:∀ {K:M Nat} {B:M (Option AB)} {k:Nat} {ab:AB},ai (qx g K B) k=some ab->∃(i:Nat) (b:AB),K[i]? =some k/\B[i]? =some (some b)/\ab=nj g b
 |[],B,k,ab,h=>by grind[qx,ai]
 |x::K,[],k,ab,h=>by grind[qx,ai]
 |x::K,some b::B,k,ab,h=>by
  simp[qx,ai] at h;by_cases hk:k=x;subst hk;simp at h;exact⟨0,b,rfl,rfl,h.symm⟩;simp[aO hk,cond_false] at h;have⟨i,f,m,p,H⟩:=xd h;exact⟨i+1,f,x!,x!,H⟩
 |x::K,none::B,k,ab,h=>by
  simp[qx] at h;have⟨i,f,m,p,H⟩:=xd h;exact⟨i+1,f,by simpa using m,by simpa using p,H⟩
def Ci {g:Nat->Nat}:∀ {K:M Nat} {B:M (Option AB)} {i k:Nat} {b:AB},K[i]? =some k->B[i]? =some (some b)->(ai (qx g K B) k).isSome
 |[],B,i,k,b,h,_=>by grind
 |x::K,[],i,k,b,_,h=>by grind
 |x::K,some c::B,i,k,b,h1,H=>by
  simp[qx,ai];by_cases hk:k=x;simp_all
  . simp[aO hk,N!];cases i with
    |zero=>simp at h1;exact absurd h1.symm hk
    |succ i=>exact Ci (by simpa using h1) (by simpa using H)
 |x::K,none::B,i,k,b,h1,H=>by
  simp[qx];cases i with
  |zero=>simp at H
  |succ i=>exact Ci (by simpa using h1) (by simpa using H)
def zV:∀ {K:M Nat} {B:M (Option AB)} {k:Nat},k∈xZ K B↔∃i:Nat,K[i]? =some k/\B[i]? =some none
 |[],B,k=>by grind[xZ]
 |x::K,[],k=>by simp[xZ]
 |x::K,some b::B,k=>by
  simp[xZ,zV];constructor;rintro⟨i,h,H⟩;exact⟨i+1,by simpa using h,by simpa using H⟩
  . rintro⟨i,h,H⟩;cases i with
    |zero=>simp at H
    |succ i=>exact⟨i,by simpa using h,by simpa using H⟩
 |x::K,none::B,k=>by
  simp[xZ,O!,zV];constructor;rintro(rfl|⟨i,h,H⟩);exact⟨0,rfl,rfl⟩;exact⟨i+1,by simpa using h,by simpa using H⟩
  . rintro⟨i,h,H⟩;cases i with
    |zero=>simp at h;exact .inl h.symm
    |succ i=>exact .inr ⟨i,by simpa using h,by simpa using H⟩
def FY:∀ {B:M (Option AB)} {i:Nat} {b:AB},B[i]? =some (some b)->∀j∈iB b,j∈Cg B
 |[],i,b,h,_,_=>by grind
 |some c::B,0,b,h,j,H=>by
  grind[List.getElem?_cons_zero,Option.some.injEq,Cg]
 |some c::B,i+1,b,h,j,H=>by
  simp[Cg,I!];exact .inr (FY (by simpa using h) j H)
 |none::B,0,b,h,j,H=>by grind
 |none::B,i+1,b,h,j,H=>by
  simp[Cg];exact FY (by simpa using h) j H
def FZ:∀ {B:M AB} {i:Nat} {b:AB},B[i]? =some b->∀j∈iB b,j∈zU B
 |[],i,b,h,_,_=>by grind
 |c::B,0,b,h,j,H=>by
  grind[List.getElem?_cons_zero,Option.some.injEq,zU]
 |c::B,i+1,b,h,j,H=>by
  simp[zU,I!];exact .inr (FZ (by simpa using h) j H)
def oM:∀(a b:M (Nat×AB)) (k:Nat),ai (a++b) k=match ai a k with
  |some x=>some x
  |none=>ai b k
 |[],b,k=>rfl
 |(j,x)::a,b,k=>by
  simp[k?,ai];cases Nat.beq k j with
  |true=>rfl
  |false=>exact oM a b k
theorem VA {G:Nat->Option GD}{f:FuncId}{s:eQ}(hv:aJ P G f s)(R:aq C A β st a w)(hG:C.G=G)(hd:∀t,dst=some t->t<st.n)
  {L:M Value} {o:M AV} {I K:M Nat} {B:Nat} (hps:ae w (cd A β I) β L o) (BD:∀j∈I,∃e row l fr,st.h j=some (.row e row l fr))
  (h:Vz s st.h B K o I=some out) (iP:lp st.h out.new=true) (hc:∀p∈out.cond,p):
  Calls P f L.toArray w λe w'=>∃v,e= .returned v/\Rel C (st.put dst out) (a.put dst v) w':=by
 unfold Vz at h;split at h;case h_2=>cases h
 rename_i z O;cases hq:(kW K&&(aD9 (ay o++zU z) K&&(I.all (λk=>!aw K k)&&Nat.ble z.length 100))) with
 |false=>grind
 |true=>
 rw[hq] at h;simp only[K!] at h;split at h;case h_2=>cases h
 rename_i r U;cases V:(Nat.beq r.heap.length z.length&&(Nat.ble r.new.length 100&&((aA r.res++(Cg r.heap++zU r.new)).all (kOk r)))) with
 |false=>grind
 |true=>
 rw[V] at h;simp only[K!,A!] at h;subst h;simp only[B!,V!] at hq V;have⟨q1,q2,q3,q4⟩:=hq;have⟨r1,r2,r3⟩:=V;have q4:=L! q4;have r1:=D! r1;have r2:=L! r2;have⟨hl,O⟩:=Ch O;have Ti:∀k∈ay o++zU z,k∈K:=λk D=>nQ.1 (V!.1 q2 k D)
 have Q:∀k∈I,k∉K:=λk D hK=>by
  have:=q3 k D;rw[nQ.2 hK] at this;cases this
 let N:Nat->Value:=λk=>if 50000<=k/\k<50000+K.length then β (K.getD (k-50000) 0) else .slice none 0 0
 have S:∀(i k:Nat),K[i]? =some k->N (50000+i)=β k:=by
  intro i k hi;have T:=(F?.1 hi).1;simp only[N];rw[Q! ⟨w!,w!⟩,j?,List.getD,hi];rfl
 have hto:∀k∈K,N (İ K k)=β k:=by
  intro k D;have⟨h1,q⟩:=LJ D;refine S _ _ ?_;rw[C! h1];rw[List.getD,C! h1] at q;simpa using q
 have fP:∀(i k:Nat),K[i]? =some k->∃ab,z[i]? =some ab/\st.h k=some ab:=by
  intro i k hi;have T:=(F?.1 hi).1;have⟨k',h1,q⟩:=O i _ (C! w!);rw[hi] at h1;simp only[A!] at h1;subst h1;exact⟨_,C! w!,q⟩
 have aMi:∀b,cd A β I b->b<w.heap.size:=by
  intro b H;rcases H with H|⟨j,m,B4⟩;exact R.bound b H;have⟨e,row,l,fr,U⟩:=BD j m;exact oK R (by simp[U]) B4
 have Sr:bI w w A (cd A β I):=λb H=>⟨.inl H,rfl⟩
 have xY:=hv w (cd A β I) N L (mP (İ K) o) (z.map (nj (İ K))) r aMi
  (λi d hi=>(R.laid i d (by rw[hG];exact hi)).mono Sr)
  (j7 (İ K) o L (λk D=>hto k (Ti k (T! _ D))) hps)
  (λi ab hi=>by
    rw[A?,Option.map_eq_some_iff] at hi;obtain⟨W,hi,rfl⟩:=hi;have⟨k,D,vk⟩:=O i W hi
    have fO:BR w (cd A β I) β k W:=by
     have:=yD (new:=[]) (λ_ _=>rfl) rfl (λb H=>⟨rfl,λhA=>?_⟩) Sr (R.blocks k W vk);exact this;rcases hA with hA|⟨j,m,B4⟩;exact hA;exfalso;have⟨e,row,l,fr,U⟩:=BD j m;have:=R.apart j k b (by simp[U]) (by simp[vk]) B4 H;subst this;exact Q j m (W! D)
    exact Vy (İ K) (S i k D) (λj m=>hto j (Ti j (U! _ (FZ hi j m)))) fO)
  (λi j b hi m h1 q=>by
    rw[List.length_map] at hi m;have E:K[i]? =some K[i]:=C! w!;have e2:K[j]? =some K[j]:=C! w!;rw[S i _ E] at h1;rw[S j _ e2] at q;have⟨_,_,l1⟩:=fP i _ E;have⟨_,_,l2⟩:=fP j _ e2;have:=R.apart _ _ b (by simp[l1]) (by simp[l2]) h1 q;exact LK q1 E (by rw[this];exact e2))
  U (hc _ z!) (by rw[List.length_map];exact r1) (by rw[List.length_map];exact q4)
 rw[List.length_map] at xY;refine xY.mono ?_;rintro e w' ⟨v,rfl,A2,fy,F⟩;refine⟨v,rfl,?_⟩;let n:=K.length
 have anJ:r.new.length<=100:=r2;let u:=nd B (r.new.map (nj (iU K B)))
 have Vw:∀k,ai u k=(if B<=k then(r.new.map (nj (iU K B)))[k-B]? else none):=λk=>by simpa using Ce B (r.new.map (nj (iU K B))) 0 k
 let X:Nat->Value:=λk=>if B<=k/\k<B+r.new.length then fy (60000+(k-B)) else β k
 have Ow:∀j,j<r.new.length->X (B+j)=fy (60000+j):=by
  intro j m;simp only[X];rw[Q! ⟨w!,w!⟩,j?]
 have rO:∀k,ai u k=none->X k=β k:=by
  intro k h;rw[Vw k] at h;simp only[X];rw[R!];rintro⟨h1,q⟩;rw[Q! h1,List.getElem?_eq_none_iff,List.length_map] at h;omega
 have Bf:∀k ab,ai u k=some ab->∃j b,k=B+j/\r.new[j]? =some b/\ab=nj (iU K B) b/\j<r.new.length:=by
  intro k ab h;rw[Vw k] at h;split at h;rename_i H;rw[A?,Option.map_eq_some_iff] at h;have⟨b,h1,q⟩:=h;exact⟨k-B,b,w!,h1,q.symm,(F?.1 h1).1⟩;cases h
 have Sw:∀k,(st.h k).isSome->ai u k=none:=by
  intro k D;cases J:ai u k with
  |none=>rfl
  |some y=>have:=(pS _ k y iP J).1;rw[this] at D;cases D
 have Nn:∀(i k:Nat),K[i]? =some k->(st.h k).isSome:=λi k hi=>by have⟨_,_,h⟩:=fP i k hi;simp[h]
 have anK:∀(i k:Nat),K[i]? =some k->X k=β k:=λi k hi=>rO k (Sw k (Nn i k hi))
 have hg:∀j,kOk r j=true->X (iU K B j)=fy j:=by
  intro j m;simp only[kOk,Y?,B!] at m;rcases m with⟨⟨h1,q⟩,h3⟩|⟨h1,q⟩;have h1:=L! h1;obtain⟨i,rfl⟩:∃i,j=50000+i:=⟨j-50000,w!⟩;rw[j?] at h3;split at h3;rename_i ab kO;have T:=(F?.1 kO).1;have⟨k,Y⟩:∃k,K[i]? =some k:=⟨_,C! w!⟩;have⟨_,g2⟩:=F.kept _ _ kO
  have e:iU K B (50000+i)=k:=by
   unfold iU;rw[q,cond_true,Nat.add_sub_cancel_left,List.getD,Y];rfl
  rw[e,anK _ _ Y,g2,S _ _ Y];cases h3
  . have h1:=L! h1;have h2':j<60000+r.new.length:=L! q;obtain⟨i,rfl⟩:∃i,j=60000+i:=⟨j-60000,w!⟩
    have H:Nat.blt (60000+i) 60000=false:=by
     cases H:Nat.blt (60000+i) 60000 with
     |false=>rfl
     |true=>have :60000+i<60000:=L! H;omega
    have e:iU K B (60000+i)=B+i:=by
     unfold iU;rw[H,cond_false,Nat.add_sub_cancel_left]
    rw[e,Ow _ w!]
 have gM:∀(i k:Nat),K[i]? =some k->(r.heap[i]? =some none\/∃b,r.heap[i]? =some (some b)):=by
  intro i k hi;have T:=(F?.1 hi).1;have :i<r.heap.length:=by omega
  cases J:r.heap[i] with
  |none=>exact .inl (by rw[C! this,J])
  |some b=>exact .inr ⟨b,by rw[C! this,J]⟩
 generalize w8:({cond:=[r.pre],res:=fa (iU K B) r.res,hX:=qx (iU K B) K r.heap++cG st.h I,del:=xZ K r.heap,new:=nd B (r.new.map (nj (iU K B))),raw:=K}:Out)=out;have o1:out.hX=qx (iU K B) K r.heap++cG st.h I:=by rw[<-w8]
 have o2:out.del=xZ K r.heap:=by rw[<-w8]
 have o3:out.new=u:=by rw[<-w8]
 have o4:out.raw=K:=by rw[<-w8]
 have o5:out.res=fa (iU K B) r.res:=by rw[<-w8]
 have htK:∀(i k:Nat),K[i]? =some k->oI st out k:=by
  intro i k hi;refine⟨Nn i k hi,?_⟩;rcases gM i k hi with J|⟨b,J⟩;right;rw[o2];exact nQ.2 (zV.2 ⟨i,hi,J⟩)
  left;rw[o1,oM];have:=Ci (g:=iU K B) hi J;have⟨y,Z⟩:=Z!.1 this;rw[Z];rfl
 have htF:∀j∈I,oI st out j:=by
  intro j m;refine⟨by have⟨_,_,_,_,U⟩:=BD j m;simp[U],.inl ?_⟩;rw[o1,oM];cases ai (qx (iU K B) K r.heap) j with
  |some y=>rfl
  |none=>exact sw I j m (BD j m)
 have hHM:∀b,HM N K.length b->∃k,oI st out k/\ah (β k)=some b:=by
  rintro b ⟨i,hi,H⟩;have E:K[i]? =some K[i]:=C! hi;rw[S i _ E] at H;exact⟨_,htK i _ E,H⟩
 rw[hl] at F;have Si:bI w w' A A2:=λb H=>F.mono b (.inl H);refine⟨A2,X,R.Ě hd ?_ ?_ ?_ Si F.os F.tape F.output F.size ?_ F.bound ?_ ?_ ?_ ?_ ?_ ?_⟩;rw[o3];exact λk b h=>pS _ k b iP h;rw[o1];intro k b h;rw[oM] at h;split at h;rename_i y Z;have⟨i,_,h1,_⟩:=xd Z;exact Nn i k h1;have⟨h1,e,row,l,fr,q,_⟩:=kD I k b h;simp[q];rw[o3];exact rO;intro b H ht;refine F.same b H λhm=>?_;have⟨k,h1,q⟩:=hHM b hm;exact ht k h1 q;intro b H;rcases Nat.lt_or_ge b w.heap.size with T|Vp;rcases F.gG b T H with(h|⟨j,m,B4⟩)|hm;exact .inl h;exact .inr (.inr ⟨j,htF j m,B4⟩);exact .inr (.inr (hHM b hm));exact .inr (.inl Vp)
 . intro k ab h _;rw[o1,oM] at h;split at h;rename_i y Z;simp only[A!] at h;subst h;obtain⟨i,b,h1,q,rfl⟩:=xd Z
   have :w7 out k (nj (iU K B) b)=nj (iU K B) b:=by
    simp only[w7,o4,nQ.2 (W! h1),K!]
   rw[this];have⟨g1,g2⟩:=F.kept i b q;refine Vy (iU K B) ((anK i k h1).trans (g2.trans (S i k h1)).symm) (λj m=>hg j (r3 j ?_)) g1;simp only[I!];exact .inr (.inl (FY q j m))
   . obtain⟨D,e,row,l,fr,qq,rfl⟩:=kD I k ab h
     have hkK:aw K k=false:=by
      cases J:aw K k with
      |false=>rfl
      |true=>exact absurd (nQ.1 J) (Q k D)
     simp only[w7,o4,hkK,N!];rw[nI];have⟨xs,h1,q,h3⟩:=R.blocks k _ qq;simp only[BR,rO k (Sw k (by simp[qq]))];refine⟨xs,dH h1 (λb H=>(F.mono b (.inr ⟨k,D,H⟩)).2),bR (λc x hx=>bE Si row c x hx) l xs q,λb H=>?_⟩;simp only[Q?];exact(F.mono b (.inr ⟨k,D,H⟩)).1
 rw[o3];intro k ab h;obtain⟨j,b,rfl,h1,rfl,m⟩:=Bf k ab h;refine Vy (iU K B) (Ow j m) (λi hi=>hg i (r3 i ?_)) (F.rows j b h1).1;simp only[I!];exact .inr (.inr (FZ h1 i hi));rw[o3,o2];intro k b ab h H;obtain⟨j,c,rfl,h1,rfl,m⟩:=Bf k ab h;rw[Ow j m] at H;rcases(F.rows j c h1).2 b H with h|⟨i,hi,Ob⟩;exact .inl h;have E:K[i]? =some K[i]:=C! hi;have aEb:=Ob;rw[S i _ E] at aEb;rcases gM i _ E with J|⟨c',J⟩;exact .inr ⟨K[i],nQ.2 (zV.2 ⟨i,E,J⟩),Nn i _ E,aEb⟩;exfalso;have⟨_,g2⟩:=F.kept i c' J;have:=F.apart (50000+i) (60000+j) b (.inl ⟨i,c',rfl,w!,J⟩) (.inr ⟨j,rfl,m⟩) (by rw[g2];exact Ob) H;omega;rw[o3];intro k k' b h h' H fw;have⟨x,hx⟩:=Z!.1 h;have⟨y,Z⟩:=Z!.1 h';obtain⟨j,c,rfl,h1,_,m⟩:=Bf k x hx;obtain⟨j',c',rfl,h1',_,hY⟩:=Bf k' y Z;rw[Ow j m] at H;rw[Ow j' hY] at fw;have:=F.apart (60000+j) (60000+j') b (.inr ⟨j,rfl,m⟩) (.inr ⟨j',rfl,hY⟩) H fw;omega;rw[o5];refine zT (iU K B) r.res v (λk D=>hg k (r3 k ?_)) F.res;simp only[I!];exact .inl D
def yc(p:aq C A β st a w)(H:∀b,A b->A' b):∀(m:M Bool) (B:M AV) (f:M Value),ae w A β f B->(∀k∈(dR st.h m B).2,∀b,ah (β k)=some b->A' b)->
  ae w A' β f (dR st.h m B).1/\∀k∈(dR st.h m B).2,∃e row l fr,st.h k=some (.row e row l fr)
 |m,[],f,h,_=>by
  grind[dR,ae]
 |m,x::xs,f,h,hk=>by
  obtain⟨v,V,rfl,q,D⟩:=h;cases hm:m.headD false with
  |true=>
   simp only[dR,hm,K!] at hk |-;have⟨G,F⟩:=yc p H m.tail xs V D hk;refine⟨?_,F⟩;exact⟨v,V,rfl,jh (λb I=>⟨H b I,rfl⟩) x v q,G⟩
  |false=>
   simp only[dR,hm,cond_false] at hk |-;have⟨P,J⟩:=yH p H x v q (λk g=>hk k (List.mem_append_left _ g));have⟨G,F⟩:=yc p H m.tail xs V D (λk g=>hk k (List.mem_append_right _ g));refine⟨?_,λk g=>?_⟩;simp[ae];grind;grind
def Yv(E:Env)(st:St)(o:Oper):Option Out:=match o.op with
 |.call c=>match c.callee with
   |.value f=>match ev st f,o.dst with
     |.fn (.func f) first bl,some d=>nP E st.h (st.kb+d) f (first++(c.args.toList.map (ev st))++bl)
     |.fn (.func f) first bl,none=>nP E st.h st.kb f (first++(c.args.toList.map (ev st))++bl)
     |_,_=>none
   |_=>none
 |_=>none
def Tj(E:Env)(st:St)(o:Oper):Option Out:=match aev E st o with
 |some out=>some out
 |none=>Yv E st o
theorem Yw(N:dU P C E)(q:aq C A β st a w)(h:Tj E st o=some out)(vu:fR st o=true)(i:lp st.h out.new=true)(S:∀p∈out.cond,p)
  (U:∀O w',Rel C (st.put o.dst out) O w'->K O w'):o.wp P a w K Q:=by
 unfold Tj at h;split at h;grind[Option.some.injEq,Yu];rename_i rO
 have V:∀t,o.dst=some t->t<st.n:=by
  intro t ht;simp_all[fR,L!]
 have⟨dst,op,type,pos,after,guard⟩:=o;unfold Yv at h;simp at h;split at h;rename_i c;have⟨callee,args,argTypes⟩:=c;split at h;rename_i f W;have R:=aM q f
 have X:∀(F:FuncId) (first D:M AV) (B:Nat),ev st f= .fn (.func F) first D->nP E st.h B F (first++(args.toList.map (ev st))++D)=some out->
   Oper.wp P {dst,op:=.call {callee:=.value f,args,argTypes},type,pos,after,guard} a w K Q:=by
  intro F first D B J L
  rw[J] at R;have⟨G,I,Y,r,Z⟩:=R
  unfold nP at L;split at L;rename_i m s d;have⟨j,l⟩:=N.rA F m s d;have⟨u,x⟩:=yc (A':=cd A β (dR st.h m (first++(args.toList.map (ev st))++D)).2) q (λb h=>.inl h) m _ _ (ia _ _ _ _ (ia _ _ _ _ r (oL q args.toList)) Z) (λk y b z=>.inr ⟨k,y,z⟩)
  have T:(execOp a.eval {dst,op:=.call {callee:=.value f,args,argTypes},type,pos,after,guard}).run P w= .ok (.enter F (G.toList++args.toList.map a.eval++I.toList).toArray) w:=by
   have e:(G++args.map a.eval)++I=(G.toList++args.toList.map a.eval++I.toList).toArray:=by
    simp
   have:=l (G++args.map a.eval++I) w;rw[e] at this;simp only[execOp,resolve,Y,Deferred.ofValue,Sem.run_bind,Sem.run_pure,Result.andThen_ok,invoke,e,this]
  unfold Oper.wp;rw[T];refine(VA j q N.g V u x L i S).mono λe w' ⟨v,he,H⟩=>?_;subst he;exact U _ _ H;grind
 grind;grind;grind
end Go.Vg
