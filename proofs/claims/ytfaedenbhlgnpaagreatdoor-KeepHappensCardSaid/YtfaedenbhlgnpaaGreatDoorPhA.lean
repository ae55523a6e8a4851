import Derived.Deep.MidRow
import Derived.Laws.AppendOwn
import Derived.Laws.OwnMore
import Derived.KernelRfl
import Derived.Laws.Sem
import Derived.Laws.BytesString
import Derived.Laws.StructEq
import Derived.Laws.Strings
import Derived.Laws.Small
import Derived.MapKept
import Derived.Laws.MakeOwn
set_option linter.unusedVariables false
set_option linter.unusedSimpArgs false
section
namespace Go.Vg
open Go
inductive Ty where
 |int (k:IntKind)
 |bool
 |str
 |slice (row:List Ty)
mutual
def Ty.beq:Ty→Ty→Bool
 | .int k, .int k'=>decide (k=k')
 | .bool, .bool=>true
 | .str, .str=>true
 | .slice r, .slice r'=>Ty.tC r r'
 |_,_=>false
def Ty.tC:List Ty→List Ty→Bool
 | [],[]=>true
 |t::ts,u::us=>Ty.beq t u&&Ty.tC ts us
 |_,_=>false
end
@[reducible] def DI:IntKind→Type
  | .u8=>UInt8
  | .i8=>Int| .i16=>Int| .i32=>Int| .i64=>Int| .u16=>Int| .u32=>Int| .u64=>Int
@[reducible] def art (ts:List Ty) (a b:Type):Type :=match ts with
  | []=>a
  |_::_=>a×b
mutual
@[reducible] def D:Ty→Type
  | .int k=>DI k
  | .bool=>Bool
  | .str=>List UInt8
  | .slice row=>List (Row row)
@[reducible] def Row:List Ty→Type
  | []=>Unit
  |t::ts=>art ts (D t) (Row ts)
end
def DI.toInt:(k:IntKind)→DI k→Int
 | .u8,x=>(UInt8.toNat x:Int)
 | .i8,n=>n| .i16,n=>n| .i32,n=>n| .i64,n=>n| .u16,n=>n| .u32,n=>n| .u64,n=>n
def DI.ofInt:(k:IntKind)→Int→DI k
 | .u8,n=>UInt8.ofNat n.toNat
 | .i8,n=>n| .i16,n=>n| .i32,n=>n| .i64,n=>n| .u16,n=>n| .u32,n=>n| .u64,n=>n
def Row.hd {t:Ty}: {ts:List Ty}→Row (t::ts)→D t
 | [],x=>x
 |_::_,x=>x.1
def Row.tl {t:Ty}: {ts:List Ty}→Row (t::ts)→Row ts
 | [],_=>()
 |_::_,x=>x.2
def Row.mk {t:Ty}: {ts:List Ty}→D t→Row ts→Row (t::ts)
 | [],x,_=>x
 |_::_,x,y=>(x,y)
def DI.zero:(k:IntKind)→DI k
 | .u8=>(0:UInt8)
 | .i8=>(0:Int)| .i16=>(0:Int)| .i32=>(0:Int)| .i64=>(0:Int)| .u16=>(0:Int)| .u32=>(0:Int)| .u64=>(0:Int)
def D.zero:(t:Ty)→D t
 | .int k=>DI.zero k
 | .bool=>false
 | .str=> []
 | .slice _=> []
def Row.zero:(ts:List Ty)→Row ts
 | []=>()
 |t::ts=>Row.mk (D.zero t) (Row.zero ts)
def lo:IntKind→Int
 | .i8=> -128| .i16=> -32768| .i32=> -2147483648| .i64=> -9223372036854775808
 | .u8=>0| .u16=>0| .u32=>0| .u64=>0
def hi:IntKind→Int
 | .i8=>127| .i16=>32767| .i32=>2147483647| .i64=>9223372036854775807
 | .u8=>255| .u16=>65535| .u32=>4294967295| .u64=>18446744073709551615
def mf:IntKind→Option Int
 | .u8=>some 256| .u16=>some 65536| .u32=>some 4294967296| .u64=>some 18446744073709551616
 | .i8=>none| .i16=>none| .i32=>none| .i64=>none
inductive AV where
 |c5
 |undef
 |int (k:IntKind) (n:Int)
 |bool (b:Bool)
 |tt
 |ff
 |str (s:List UInt8)
 |nil
 |jn
 |jA
 |sl (row:List Ty) (l:List (Row row))
 |full (row:List Ty) (l:List (Row row))
 |gd (row:List Ty) (x:Row row) (j:Nat)
 |oY (row:List Ty) (l:List (Row row))
 |own (k:Nat)
 |pre (k:Nat) (n:Nat)
 |view (k sz off len:Nat)
 |ref (k off:Nat)
 |elem (k sz i j:Nat)
 |agg (cs:List AV)
 |cD (vs:List AV)
 |fn (f:Fn) (first bn:List AV)
 |og (row:List Ty) (l:List (Row row))
 |gf (ks:List Int) (cs:List AV)
inductive AB where
 |cells (cs:List AV)
 |row (e:Nat) (row:List Ty) (l:List (Row row)) (fr:Bool)
 |views (e:Nat) (j:Option Nat) (n m sz:Nat)
 |arr (row:List Ty) (l:List (Row row))
 |gD (e:Nat) (j:Option Nat) (row:List Ty) (l:List (Row row)) (i:Nat)
def yg:(t:Ty)→D t→AV
 | .int k,x=> .int k (DI.toInt k x)
 | .bool,b=> .bool b
 | .str,s=> .str s
 | .slice row,l=> .sl row l
def fp:(ts:List Ty)→Row ts→List AV
 | [],_=> []
 |t::ts,x=>yg t (Row.hd x)::fp ts (Row.tl x)
mutual
theorem Ty.eq_of_beq:∀(a b:Ty),Ty.beq a b=true→a=b
 | .int k, .int k',h=>by simp [Ty.beq] at h;rw [h]
 | .bool, .bool,_=>rfl
 | .str, .str,_=>rfl
 | .slice r, .slice r',h=>by simp only [Ty.beq] at h;rw [Ty.jB r r' h]
 | .int _, .bool,h=>by simp [Ty.beq] at h
 | .int _, .str,h=>by simp [Ty.beq] at h
 | .int _, .slice _,h=>by simp [Ty.beq] at h
 | .bool, .int _,h=>by simp [Ty.beq] at h
 | .bool, .str,h=>by simp [Ty.beq] at h
 | .bool, .slice _,h=>by simp [Ty.beq] at h
 | .str, .int _,h=>by simp [Ty.beq] at h
 | .str, .bool,h=>by simp [Ty.beq] at h
 | .str, .slice _,h=>by simp [Ty.beq] at h
 | .slice _, .int _,h=>by simp [Ty.beq] at h
 | .slice _, .bool,h=>by simp [Ty.beq] at h
 | .slice _, .str,h=>by simp [Ty.beq] at h
theorem Ty.jB:∀(a b:List Ty),Ty.tC a b=true→a=b
 | [],[],_=>rfl
 |t::ts,u::us,h=>by
  simp only [Ty.tC,Bool.and_eq_true] at h;rw [Ty.eq_of_beq t u h.1,Ty.jB ts us h.2]
 | [],_::_,h=>by simp [Ty.tC] at h
 |_::_,[],h=>by simp [Ty.tC] at h
end
def eP(r r':List Ty)(l:List (Row r)):Option (List (Row r')):=
 if h:Ty.tC r r'=true then some ((Ty.jB r r' h)▸l) else none
def Le:(t:Ty)→AV→Option (D t)
 | .int k, .int k' n=>if k=k' then some (DI.ofInt k n) else none
 | .bool, .bool b=>some b
 | .bool, .tt=>some true
 | .bool, .ff=>some false
 | .str, .str s=>some s
 | .slice r, .sl r' l=>eP r' r l
 | .slice r, .full r' l=>eP r' r l
 | .slice _, .nil=>some ([]:List _)
 |_,_=>none
def kp:(ts:List Ty)→List AV→Option (Row ts)
 | [],[]=>some ()
 |t::ts,a::aH=>match Le t a,kp ts aH with
  |some x,some y=>some (Row.mk x y)
  |_,_=>none
 |_,_=>none
def setRow:(ts:List Ty)→Row ts→Nat→AV→Option (Row ts)
 | [],_,_,_=>none
 |t::ts,x,0,a=>match Le t a with
  |some d=>some (Row.mk d (Row.tl x))
  |none=>none
 |t::ts,x,j+1,a=>match setRow ts (Row.tl x) j a with
  |some y=>some (Row.mk (Row.hd x:D t) y)
  |none=>none
def nv:(ts:List Ty)→Row ts→Nat→List AV→Option (Row ts)
 |_,x,_,[]=>some x
 |ts,x,j,a::aH=>match setRow ts x j a with
  |some y=>nv ts y (j+1) aH
  |none=>none
def sa(ts:List Ty):Nat→List AV→Option (List (Row ts))
 |0,aH=>match aH with| []=>some []|_::_=>none
 |n+1,aH=>match kp ts (aH.take ts.length),sa ts n (aH.drop ts.length) with
  |some x,some l=>some (x::l)
  |_,_=>none
structure TE where
 desc:TypeDesc
 size:Nat
 bytes:Nat
 zero:Value
inductive bY where
 |leaf
 |node (l:bY) (k:Nat) (v:TE) (r:bY)
def bY.find:bY→Nat→Option TE
 | .leaf,_=>none
 | .node l k v r,n=>bif Nat.beq n k then some v else bif Nat.blt n k then l.find n else r.find n
def _root_.Go.TypeDesc.jW:TypeDesc→Bool
 | .struct _| .array _ _=>true
 |_=>false
def wF {α:Type}:Option (List α)→Option (List α)→Option (List α)
 |some a,some b=>some (a++b)
 |_,_=>none
def rowOf(T:bY):Nat→TypeId→Option (List Ty)
 |0,_=>none
 |n+1,t=>match T.find t with
  |none=>none
  |some te=>match te.desc with
   | .int k=>some [.int k]
   | .bool=>some [.bool]
   | .string=>some [.str]
   | .slice e=>match rowOf T n e with|some r=>some [.slice r]|none=>none
   | .struct fs=>fs.toList.foldr (fun f acc=>wF (rowOf T n f.type) acc) (some [])
   | .array k e=>match rowOf T n e with|some r=>some ((List.replicate k r).flatten)|none=>none
   |_=>none
def sb:Value→AV
 | .int k n=>if lo k≤n∧n≤hi k then .int k n else .c5
 | .bool b=>if b then .tt else .ff
 | .string s=>bif Nat.ble s.data.toList.length 1000000 then .str s.data.toList else .c5
 | .slice none 0 0=> .nil
 | .pointer none=> .jn
 | .nilFunc=> .jA
 |_=> .c5
def ofConst:Value→AV
 | .agg cs=> .agg (cs.toList.map sb)
 |v=>sb v
inductive KS where
 |one (k:Nat)
 |dst (d:Nat)
structure GD where
 row:List Ty
 l:List (Row row)
structure St where
 t:Nat→AV
 h:Nat→Option AB
 bL:List Nat
 news:List KS
 A9:List Nat
 n:Nat
 kb:Nat
 g:Nat→Option GD
abbrev aS:=Nat→Option AB
def ev(st:St):Operand→AV
 | .tmp i=>st.t i
 | .const v=>ofConst v
 | .global i=>match st.g i with
   |some d=> .oY d.row d.l
   |none=> .c5
 | .func f=> .fn (.func f) [] []
def fD(h:aS):AV→AV×List Nat
 | .own k=>match h k with
   |some (.row _ row l _)=>(.sl row l,[k])
   |_=>(.c5,[])
 | .pre k n=>match h k with
   |some (.row _ row l _)=>(.sl row (l.take n),[k])
   |_=>(.c5,[])
 | .view k sz off len=>match h k with
   |some (.row _ row l _)=>bif Nat.beq sz row.length then(.sl row ((l.drop off).take len),[k]) else(.c5,[])
   |_=>(.c5,[])
 |a=>(a,[])
def lG(h:aS):List AV→List AV×List Nat
 | []=>([],[])
 |a::aH=>((fD h a).1::(lG h aH).1,(fD h a).2++(lG h aH).2)
def me(h:aS):AV→AV×List Nat
 | .agg cs=>(.agg (lG h cs).1,(lG h cs).2)
 |a=>fD h a
def jC(h:aS):List AV→List AV×List Nat
 | []=>([],[])
 |a::aH=>((me h a).1::(jC h aH).1,(me h a).2++(jC h aH).2)
def AV.cells:AV→List AV
 | .agg cs=>cs
 |a=> [a]
def AV.one:AV→Bool
 | .c5| .undef| .agg _| .cD _=>false
 |_=>true
structure Out where
 cond:List Prop
 res:AV
 gw:List (Nat×AB):= []
 del:List Nat:= []
 new:List (Nat×AB):= []
 raw:List Nat:= []
def cm(h:aS):List Nat→List (Nat×AB)
 | []=> []
 |k::ks=>match h k with
  |some (.row e row l _)=>(k, .row e row l true)::cm h ks
  |_=>cm h ks
mutual
def dw(d:Nat):AV→AV
 | .own k=>bif Nat.beq k d then .c5 else .own k
 | .pre k n=>bif Nat.beq k d then .c5 else .pre k n
 | .view k sz off n=>bif Nat.beq k d then .c5 else .view k sz off n
 | .ref k off=>bif Nat.beq k d then .c5 else .ref k off
 | .elem k sz i j=>bif Nat.beq k d then .c5 else .elem k sz i j
 | .agg cs=> .agg (e9 d cs)
 | .cD vs=> .cD (e9 d vs)
 | .fn f first bn=> .fn f (e9 d first) (e9 d bn)
 | .gf ks cs=> .gf ks (e9 d cs)
 |a=>a
def e9(d:Nat):List AV→List AV
 | []=> []
 |a::aH=>dw d a::e9 d aH
end
def p9(d:Nat):Option Nat→Option Nat
 |some k=>bif Nat.beq k d then none else some k
 |none=>none
def mT(d:Nat):AB→AB
 | .cells cs=> .cells (e9 d cs)
 | .views e j n m sz=> .views e (p9 d j) n m sz
 | .gD e j row l i=> .gD e (p9 d j) row l i
 |b=>b
def yh(cs:List AV)(off:Nat)(vs:List AV):List AV:=cs.take off++vs++cs.drop (off+vs.length)
def zW(h:aS):AV→Option Int
 | .str s=>some (s.length:Int)
 | .sl _ l=>some (l.length:Int)
 | .full _ l=>some (l.length:Int)
 | .nil=>some 0
 | .own k=>match h k with
   |some (.row _ _ l _)=>some (l.length:Int)
   |_=>none
 | .pre k n=>match h k with
   |some (.row _ _ _ _)=>some (n:Int)
   |_=>none
 | .view k _ _ n=>match h k with
   |some (.row _ _ _ _)=>some (n:Int)
   |_=>none
 |_=>none
def qa(T:bY)(t:TypeId):Option TE:=match T.find t with
 |some te=>match te.desc with
  | .slice e=>T.find e
  |_=>none
 |none=>none
def vG(T:bY)(t:TypeId):Option TypeId:=match T.find t with
 |some te=>match te.desc with
  | .slice e=>some e
  |_=>none
 |none=>none
def jX(T:bY)(t:TypeId)(n:Nat):Bool:=match T.find t with
 |some te=>Nat.beq te.size n
 |none=>false
def br(T:bY)(t:TypeId)(n:Nat):Bool:=match qa T t with
 |some te=>Nat.beq te.size n&&Nat.blt 0 n
 |none=>false
def CS(T:bY)(t:TypeId):Option (Nat×Nat):=match T.find t with
 |some te=>match te.desc with
  | .array k e=>match T.find e with
    |some ee=>bif Nat.blt 0 ee.size then some (k,ee.size) else none
    |none=>none
  |_=>none
 |none=>none
def ez(T:bY)(h:aS)(t:TypeId):AV→AV→Option Out
 | .sl row l, .int _ i=>
   bif br T t row.length then some {cond:= [0≤i∧i<(l.length:Int)],res:= .gd row (l.getD i.toNat (Row.zero row)) 0} else none
 | .full row l, .int _ i=>
   bif br T t row.length then some {cond:= [0≤i∧i<(l.length:Int)],res:= .gd row (l.getD i.toNat (Row.zero row)) 0} else none
 | .own k, .int _ i=>match h k with
   |some (.row _ row l _)=>bif br T t row.length then some {cond:= [0≤i∧i<(l.length:Int)],res:= .elem k row.length i.toNat 0} else none
   |_=>none
 | .pre k n, .int _ i=>match h k with
   |some (.row _ row l _)=>bif br T t row.length then some {cond:= [0≤i∧i<(n:Int)],res:= .elem k row.length i.toNat 0} else none
   |_=>none
 | .view k sz off n, .int _ i=>bif br T t sz then some {cond:= [0≤i∧i<(n:Int)],res:= .elem k sz (off+i.toNat) 0} else none
 | .oY row l, .int _ i=>match CS T t with
   |some (n,sz)=>bif Nat.beq sz row.length then some {cond:= [n=l.length,0≤i∧i<(l.length:Int)],res:= .gd row (l.getD i.toNat (Row.zero row)) 0} else none
   |none=>none
 | .ref k off, .int _ i=>match CS T t with
   |some (n,sz)=>some {cond:= [0≤i∧i<(n:Int)],res:= .ref k (off+i.toNat*sz)}
   |none=>none
 |_,_=>none
def G2(off:Nat)(n:Int)(sz:Nat):Nat:=off+n.toNat*sz
def acy:Operand→Option Int
 | .const (.int _ n)=>some n
 |_=>none
def oZ(T:bY)(h:aS)(t:TypeId)(n:Option Int)(x y:AV):Option Out:=match n,x,y with
 |some n, .ref k off, .int kd i=>match CS T t with
  |some (m,sz)=>if n=i then some {cond:= [0≤i∧i<(m:Int)],res:= .ref k (G2 off n sz)} else ez T h t (.ref k off) (.int kd i)
  |none=>none
 |_,x,y=>ez T h t x y
def pick(te:TE)(cs:List AV)(off:Nat):Option AV:=
 bif te.desc.jW then(bif Nat.ble (off+te.size) cs.length then some (.agg ((cs.drop off).take te.size)) else none)
 else cs[off]?
def ny(T:bY)(h:aS)(t:TypeId):AV→Option Out
 | .gd row x j=>match T.find t with
   |some te=>match pick te (fp row x) j with
    |some a=>some {cond:= [],res:=a}
    |none=>none
   |none=>none
 | .oY row l=>match T.find t with
   |some te=>match pick te (l.flatMap (fp row)) 0 with
    |some a=>some {cond:= [],res:=a}
    |none=>none
   |none=>none
 | .ref k off=>match T.find t,h k with
   |some te,some (.cells cs)=>match pick te cs off with
    |some a=>some {cond:= [],res:=a}
    |none=>none
   |_,_=>none
 | .elem k sz i j=>match T.find t,h k with
   |some te,some (.row _ row l _)=>
    bif Nat.beq sz row.length then match pick te (fp row (l.getD i (Row.zero row))) j with
     |some a=>some {cond:= [i<l.length],res:=a}
     |none=>none
    else none
   |_,_=>none
 |_=>none
def ij(T:bY)(h:aS)(t:TypeId):AV→AV→Option Out
 | .ref k off,v=>match h k with
   |some (.cells cs)=>
    bif v.cells.all AV.one&&jX T t v.cells.length&&Nat.ble (off+v.cells.length) cs.length then
     some {cond:= [],res:= .undef,gw:= [(k, .cells (yh cs off v.cells))]} else none
   |_=>none
 | .elem k sz i j,v=>match h k with
   |some (.row e row l false)=>
    bif Nat.beq sz row.length&&jX T t v.cells.length&&Nat.blt 0 v.cells.length then match nv row (l.getD i (Row.zero row)) j (me h v).1.cells with
     |some x=>bif (me h v).2.elem k then none else some {cond:= [i<l.length],res:= .undef,gw:=(k, .row e row (l.set i x) false)::cm h (me h v).2}
     |none=>none
    else none
   |_=>none
 |_,_=>none
def yi(T:bY)(s:TypeId)(f:Nat):Option (TypeId×Nat):=match T.find s with
 |some te=>match te.desc with
  | .struct fs=>match fs[f]? with
    |some fd=>some (fd.type,fd.offset)
    |none=>none
  |_=>none
 |none=>none
def yj(T:bY)(t:TypeId):Bool:=match T.find t with
 |some te=>Nat.blt 0 te.size
 |none=>false
def qM(T:bY)(s:TypeId)(f:Nat)(x:AV):Option Out:=match yi T s f with
 |some (ft,o)=>bif yj T ft then match x with
  | .ref k off=>some {cond:= [],res:= .ref k (off+o)}
  | .gd row x j=>some {cond:= [],res:= .gd row x (j+o)}
  | .elem k sz i j=>some {cond:= [],res:= .elem k sz i (j+o)}
  |_=>none
  else none
 |none=>none
def fit(k:IntKind)(n:Int):List Prop×AV:=match mf k with
 |some c=>([], .int k (n%c))
 |none=>([lo k≤n∧n≤hi k], .int k n)
def qb(k:IntKind)(cond:List Prop)(n:Int):Option Out:=some {cond:=cond++(fit k n).1,res:=(fit k n).2}
def wG(k:IntKind)(n:Int):List Prop :=match mf k with
 |some _=> []
 |none=> [0≤n]
def bitsOf:IntKind→Int
 | .i8| .u8=>8| .i16| .u16=>16| .i32| .u32=>32| .i64| .u64=>64
def bh(a b:Int):Int:=((a.toNat&&&b.toNat:Nat):Int)
def cI(a b:Int):Int:=((a.toNat ||| b.toNat:Nat):Int)
def k7(a b:Int):Int:=((a.toNat^^^b.toNat:Nat):Int)
def qc:AV→Option Bool
 | .bool b=>some b
 | .tt=>some true
 | .ff=>some false
 |_=>none
def dq(T:bY)(t:TypeId)(f:TypeDesc→Bool):Bool:=match T.find t with
 |some te=>f te.desc
 |none=>false
def gA:TypeDesc→Bool
 | .slice _=>true
 |_=>false
def CT:TypeDesc→Bool
 | .bool=>true
 |_=>false
def CU(T:bY)(E:TypeId→AV→AV→Option Bool)(xs ys:List AV):List Field→Option Bool
 | []=>some true
 |f::fs=>match T.find f.type with
  |some te=>match pick te xs f.offset,pick te ys f.offset with
   |some a,some b=>match E f.type a b,CU T E xs ys fs with
    |some r,some r'=>some (match fs with| []=>r|_=>bif r then r' else false)
    |_,_=>none
   |_,_=>none
  |none=>none
def Ba(T:bY):Nat→TypeId→AV→AV→Option Bool
 |0,_,_,_=>none
 |n+1,t,x,y=>match T.find t with
  |some te=>match te.desc with
   | .struct fs=>match x,y with
     | .agg xs, .agg ys=>CU T (Ba T n) xs ys fs.toList
     |_,_=>none
   | .int _=>match x,y with
     | .int k a, .int k' b=>if k=k' then some (decide (a=b)) else none
     |_,_=>none
   | .string=>match x,y with
     | .str a, .str b=>some (decide (a=b))
     |_,_=>none
   | .bool=>match qc x,qc y with
     |some a,some b=>some (a==b)
     |_,_=>none
   |_=>none
  |none=>none
def JE(T:bY)(t:TypeId)(op:BinOp):AV→AV→Option Out
 | .int k n, .int k' m=>match op with
   | .shl=>qb k [0≤m∧m≤bitsOf k] (n*2^m.toNat)
   | .shr=>some {cond:= [0≤m∧m≤bitsOf k],res:= .int k (n/2^m.toNat)}
   |_=>if k=k' then match op with
    | .add=>qb k [] (n+m)
    | .sub=>qb k [] (n-m)
    | .mul=>qb k [] (n*m)
    | .quo=>some {cond:=wG k n++ [0<m],res:= .int k (n/m)}
    | .rem=>some {cond:=wG k n++ [0<m],res:= .int k (n%m)}
    | .and=>some {cond:=wG k n++wG k m,res:= .int k (bh n m)}
    | .or=>some {cond:=wG k n++wG k m,res:= .int k (cI n m)}
    | .xor=>some {cond:=wG k n++wG k m,res:= .int k (k7 n m)}
    | .eql=>some {cond:= [],res:= .bool (decide (n=m))}
    | .neq=>some {cond:= [],res:= .bool (!decide (n=m))}
    | .lss=>some {cond:= [],res:= .bool (decide (n<m))}
    | .leq=>some {cond:= [],res:= .bool (decide (n≤m))}
    | .gtr=>some {cond:= [],res:= .bool (decide (m<n))}
    | .geq=>some {cond:= [],res:= .bool (decide (m≤n))}
    |_=>none
    else none
 | .str s, .str u=>match op with
   | .add=>some {cond:= [((s.length+u.length:Nat):Int)≤9223372036854775807],res:= .str (s++u)}
   | .eql=>some {cond:= [],res:= .bool (decide (s=u))}
   | .neq=>some {cond:= [],res:= .bool (!decide (s=u))}
   | .lss=>some {cond:= [],res:= .bool (Op.bytesLess s u)}
   | .leq=>some {cond:= [],res:= .bool (Op.bytesLess s u || decide (s=u))}
   | .gtr=>some {cond:= [],res:= .bool (!(Op.bytesLess s u || decide (s=u)))}
   | .geq=>some {cond:= [],res:= .bool (!Op.bytesLess s u)}
   |_=>none
 | .sl (r::rs) l, .nil=>bif dq T t gA then match op with
     | .eql=>some {cond:= [],res:= .og (r::rs) l}
     |_=>none
     else none
 | .agg xs, .agg ys=>match Ba T 8 t (.agg xs) (.agg ys) with
   |some r=>match op with
    | .eql=>some {cond:= [],res:= .bool r}
    | .neq=>some {cond:= [],res:= .bool (!r)}
    |_=>none
   |none=>none
 |a,b=>match qc a,qc b with
  |some x,some y=>bif dq T t CT then match op with
   | .eql=>some {cond:= [],res:= .bool (x==y)}
   | .neq=>some {cond:= [],res:= .bool (!(x==y))}
   |_=>none
   else none
  |_,_=>none
def NL(op:UnOp):AV→Option Out
 | .bool b=>match op with| .not=>some {cond:= [],res:= .bool (!b)}|_=>none
 | .tt=>match op with| .not=>some {cond:= [],res:= .ff}|_=>none
 | .ff=>match op with| .not=>some {cond:= [],res:= .tt}|_=>none
 | .int k n=>match op with
   | .neg=>qb k [] (0-n)
   | .xor=>match mf k with
     |some c=>some {cond:= [],res:= .int k (c-1-n)}
     |none=>none
   |_=>none
 |_=>none
def kq(h:aS)(row:List Ty)(a:AV):Option (List (Row row)):=match a with
 | .str s=>eP [.int .u8] row s
 | .nil=>some []
 |a=>match(fD h a).1 with
  | .sl r l=>eP r row l
  | .full r l=>eP r row l
  |_=>none
def qd:Nat:=8
def Cw:TypeDesc→Bool
 | .slice _=>true
 | .string=>true
 |_=>false
def mn(T:bY)(h:aS)(d:Nat)(t t':TypeId)(s x:AV):Option Out:=
 match vG T t,qa T t with
 |some e,some te=>match rowOf T qd e with
  |some row=>bif Nat.beq row.length te.size&&Nat.blt 0 te.size&&Nat.beq (ofConst te.zero).cells.length te.size&&dq T t' Cw then
   match kq h row x with
   |some m=>match s with
    | .nil=>some {cond:= [m.length≤140737488355328/te.bytes],res:= .own d,new:= [(d, .row e row m false)]}
    | .own k=>match h k with
      |some (.row e' iH l false)=>bif Nat.beq e' e then match eP iH row l with
       |some l'=>some {cond:= [l'.length+m.length≤140737488355328/te.bytes],res:= .own d,del:= [k],new:= [(d, .row e row (l'++m) false)]}
       |none=>none
       else none
      |_=>none
    | .pre k n=>match h k with
      |some (.row e' iH l false)=>bif Nat.beq e' e then match eP iH row l with
       |some l'=>some {cond:= [n+m.length≤140737488355328/te.bytes],res:= .own d,del:= [k],new:= [(d, .row e row (l'.take n++m) false)]}
       |none=>none
       else none
      |_=>none
    | .full r l=>match eP r row l with
      |some l'=>some {cond:= [0<m.length,l'.length+m.length≤140737488355328/te.bytes],res:= .own d,new:= [(d, .row e row (l'++m) false)]}
      |none=>none
    |_=>none
   |none=>none
   else none
  |none=>none
 |_,_=>none
def nz(T:bY)(h:aS)(t t':TypeId)(s x:AV):Option Out:=
 match s with
 | .own k=>match h k with
   |some (.row e row l false)=>bif br T t row.length then match kq h row x with
    |some m=>some {cond:= [],res:= .int .i64 ((min m.length l.length:Nat):Int),gw:= [(k, .row e row (m.take l.length++l.drop m.length) false)]}
    |none=>none
    else none
   |_=>none
 | .view k sz off n=>match h k with
   |some (.row e row l false)=>bif br T t row.length&&Nat.beq sz row.length then match kq h row x with
    |some m=>some {cond:= [off+n≤l.length],res:= .int .i64 ((min m.length n:Nat):Int),gw:= [(k, .row e row (l.take off++m.take n++l.drop (off+min m.length n)) false)]}
    |none=>none
    else none
   |_=>none
 |_=>none
def mU:Option AV→Option (Option Int)
 |none=>some none
 |some (.int _ i)=>some (some i)
 |some _=>none
def ot:TypeDesc→Bool
 | .string=>true
 |_=>false
def oO(T:bY)(h:aS)(t:TypeId)(x:AV)(lo hi mx:Option AV):Option Out:=
 match x,mU lo,mU hi,mU mx with
 | .str s,some lo,some hi,some none=>bif dq T t ot then match lo,hi with
   |none,none=>some {cond:= [],res:= .str s}
   |none,some b=>some {cond:= [0≤b∧b≤(s.length:Int)],res:= .str (s.take b.toNat)}
   |some a,none=>some {cond:= [0≤a∧a≤(s.length:Int)],res:= .str (s.drop a.toNat)}
   |some a,some b=>some {cond:= [0≤a∧a≤b∧b≤(s.length:Int)],res:= .str ((s.take b.toNat).drop a.toNat)}
   else none
 | .sl row l,some lo,some hi,some none=>bif br T t row.length then match lo,hi with
   |none,none=>some {cond:= [],res:= .sl row l}
   |none,some b=>some {cond:= [0≤b∧b≤(l.length:Int)],res:= .sl row (l.take b.toNat)}
   |some a,none=>some {cond:= [0≤a∧a≤(l.length:Int)],res:= .sl row (l.drop a.toNat)}
   |some a,some b=>some {cond:= [0≤a∧a≤b∧b≤(l.length:Int)],res:= .sl row ((l.take b.toNat).drop a.toNat)}
   else none
 | .sl row l,some none,some (some b),some (some c)=>bif br T t row.length then some {cond:= [0≤b∧b=c∧b≤(l.length:Int)],res:= .full row (l.take b.toNat)} else none
 | .own k,some lo,some hi,some none=>match h k with
   |some (.row _ row l _)=>bif br T t row.length then match lo,hi with
    |none,none=>some {cond:= [],res:= .own k}
    |none,some b=>some {cond:= [0≤b∧b≤(l.length:Int)],res:= .pre k b.toNat}
    |some a,none=>some {cond:= [0≤a∧a≤(l.length:Int)],res:= .view k row.length a.toNat (l.length-a.toNat)}
    |some a,some b=>some {cond:= [0≤a∧a≤b∧b≤(l.length:Int)],res:= .view k row.length a.toNat (b.toNat-a.toNat)}
    else none
   |_=>none
 |_,_,_,_=>none
def sc:AV→Bool
 | .str _=>false
 |_=>true
def vH(T:bY)(h:aS)(s d:TypeId)(k:Nat):Option Out:=
 bif Nat.beq s d then match T.find s with
  |some ts=>match ts.desc with
   | .slice e=>match T.find e,h k with
     |some te,some (.row _ row l false)=>match te.desc,eP row [.int .u8] l with
      | .int .u8,some l'=>some {cond:= [0<l'.length],res:= .sl [.int .u8] l',del:= [k]}
      |_,_=>none
     |_,_=>none
   |_=>none
  |none=>none
 else none
def lx(T:bY)(h:aS)(s d:TypeId)(x:AV):Option Out:=
 match T.find s,T.find d with
 |some ts,some td=>match ts.desc,td.desc,x with
  | .int _, .int k, .int k' n=>
    if lo k≤lo k'∧hi k'≤hi k then some {cond:= [],res:= .int k n} else qb k [] n
  | .string, .string, .str u=>some {cond:= [],res:= .str u}
  | .string, .slice e, .str u=>match T.find e with
    |some te=>match te.desc with
     | .int .u8=>some {cond:= [],res:= .sl [.int .u8] u}
     |_=>none
    |none=>none
  | .slice e, .string,x=>match T.find e with
    |some te=>match te.desc with
     | .int .u8=>match sc x,kq h [.int .u8] x with
       |true,some u=>some {cond:= [],res:= .str u}
       |_,_=>none
     |_=>none
    |none=>none
  | .slice _, .slice _, .own k=>vH T h s d k
  |_,_,_=>none
 |_,_=>none
def xi(place:Nat→Option (Nat×Nat))(cs:List AV):List (Nat×AV)→Option (List AV)
 | []=>some cs
 |(i,v)::rest=>match place i with
  |none=>none
  |some (off,size)=>bif Nat.beq v.cells.length size&&Nat.ble (off+size) cs.length&&v.cells.all AV.one then xi place (yh cs off v.cells) rest else none
def placesOf(T:bY):List Field→Option (List (Nat×Nat))
 | []=>some []
 |f::fs=>match T.find f.type,placesOf T fs with
  |some te,some ps=>some ((f.offset,te.size)::ps)
  |_,_=>none
def zX(T:bY)(t:TypeId)(parts:List (Nat×AV)):Option Out:=match T.find t with
 |some te=>match te.desc with
  | .struct fs=>match placesOf T fs.toList with
    |some ps=>match xi (fun i=>ps[i]?) (ofConst te.zero).cells parts with
     |some cs=>some {cond:= [],res:= .agg cs}
     |none=>none
    |none=>none
  | .array _ e=>match T.find e with
    |some ee=>match xi (fun i=>some (i*ee.size,ee.size)) (ofConst te.zero).cells parts with
     |some cs=>some {cond:= [],res:= .agg cs}
     |none=>none
    |none=>none
  |_=>none
 |none=>none
def lH(h:aS):List (Nat×AV)→List (Nat×AV)×List Nat
 | []=>([],[])
 |(i,x)::ps=>((i,(me h x).1)::(lH h ps).1,(me h x).2++(lH h ps).2)
def ik(T:bY)(h:aS)(d:Nat)(t:TypeId)(len:Nat)(parts:List (Nat×AV)):Option Out:=
 match vG T t,qa T t with
 |some e,some te=>match rowOf T qd e with
  |some row=>bif Nat.beq row.length te.size&&Nat.blt 0 te.size&&Nat.beq (ofConst te.zero).cells.length te.size&&Nat.ble (len*te.size) 16777216 then
   match xi (fun i=>some (i*te.size,te.size)) ((List.replicate len (ofConst te.zero).cells).flatten) (lH h parts).1 with
   |some cs=>match sa row len cs with
    |some l=>some {cond:= [],res:= .own d,gw:=cm h (lH h parts).2,new:= [(d, .row e row l false)]}
    |none=>none
   |none=>none
   else none
  |none=>none
 |_,_=>none
def cB(row:List Ty)(z:Value):Bool:=match z with
 | .agg cs=>bS row cs.toList
 |v=>bS row [v]
where
 bS:List Ty→List Value→Bool
 | [],[]=>true
 | .int k::ts, .int k' n::vs=>decide (k=k')&&decide (n=0)&&bS ts vs
 | .bool::ts, .bool false ::vs=>bS ts vs
 | .str::ts, .string s::vs=>s.data.toList.isEmpty&&bS ts vs
 | .slice _::ts, .slice none 0 0::vs=>bS ts vs
 |_,_=>false
def mo(T:bY)(h:aS)(t:TypeId)(x:AV):Option Out:=
 match x with
 | .view k sz off n=>match h k with
   |some (.row e row l false)=>match vG T t,qa T t with
    |some _,some te=>bif br T t row.length&&Nat.beq sz row.length&&Nat.beq row.length te.size&&cB row te.zero then
      some {cond:= [off+n≤l.length],res:= .cD [],gw:= [(k, .row e row (l.take off++List.replicate n (Row.zero row)++l.drop (off+n)) false)]} else none
    |_,_=>none
   |_=>none
 |_=>none
def qN(T:bY)(d:Nat)(t:TypeId):AV→AV→Option Out
 | .int k n, .int k' c=>match vG T t,qa T t with
   |some e,some te=>match rowOf T qd e with
    |some row=>bif Nat.beq row.length te.size&&Nat.blt 0 te.size&&cB row te.zero then
     some {cond:= [0≤n∧n≤c∧c≤140737488355328/te.bytes],res:= .own d,new:= [(d, .row e row (List.replicate n.toNat (Row.zero row)) false)]} else none
    |none=>none
   |_,_=>none
 |_,_=>none
abbrev bf:=List AV→Option (Prop×AV×List AB)
structure gg where
 pre:Prop
 res:AV
 heap:List (Option AB)
 new:List AB
abbrev gh:=List AV→List AB→Option gg
structure Env where
 T:bY
 sig:Nat→Option bf
 lI:Nat→Option GD:=fun _=>none
 oh:Nat→Option (List Bool×gh):=fun _=>none
 gD:Nat→Bool:=fun _=>false
 cls:Nat→Option Nat:=fun _=>none
 spl:Nat→Bool:=fun _=>false
 Gr:Nat:=0
mutual
def di(base:Nat):AV→AV
 | .own k=> .own (base+k)
 | .agg cs=> .agg (oP base cs)
 | .cD vs=> .cD (oP base vs)
 |a=>a
def oP(base:Nat):List AV→List AV
 | []=> []
 |a::aH=>di base a::oP base aH
end
def eV(base:Nat):List AB→List (Nat×AB)
 | []=> []
 |b::bs=>(base,b)::eV (base+1) bs
def ly(d:Nat):Nat:=100000+100*d
mutual
def AV.eu:AV→Bool
 | .int _ _| .bool _| .tt| .ff| .str _| .undef| .own _| .nil=>true
 | .agg cs=>yk cs
 | .cD vs=>yk vs
 |_=>false
def yk:List AV→Bool
 | []=>true
 |a::aH=>a.eu&&yk aH
end
def CV:AV→Bool
 | .fn (.func _) [] []=>true
 |_=>false
mutual
def iR(n:Nat):AV→Bool
 | .own k=>Nat.blt k n
 | .agg cs=>yl n cs
 | .cD vs=>yl n vs
 | .gf _ cs=>cs.all CV
 | .c5| .pre _ _| .view _ _ _ _| .ref _ _| .elem _ _ _ _| .fn _ _ _| .gd _ _ _| .oY _ _=>false
 |_=>true
def yl(n:Nat):List AV→Bool
 | []=>true
 |a::aH=>iR n a&&yl n aH
end
def il:List AB→Bool
 | []=>true
 | .row _ _ _ false ::r=>il r
 |_=>false
def Cx:Ty→Bool
 | .slice _=>false
 |_=>true
def db:List AB→Bool
 | []=>true
 | .row _ row _ _::r=>row.all Cx&&db r
 |_=>false
def lJ(E:Env)(h:aS)(d:Nat)(f:Nat)(args:List AV):Option Out:=match E.sig f with
 |some s=>match s (jC h args).1 with
  |some (pre,res,bs)=>bif Nat.ble bs.length 100&&iR bs.length res&&il bs then some {cond:= [pre],res:=di (ly d) res,gw:=bif res.eu&&db bs then [] else cm h (jC h args).2,new:=eV (ly d) bs} else none
  |none=>none
 |none=>none
def ym(b:Bool):AV→AV→AV
 | .int k n, .int k' m=>if k=k' then .int k (bif b then n else m) else .c5
 | .str s, .str u=> .str (bif b then s else u)
 | .sl r l, .sl r' m=>match eP r' r m with
   |some m'=> .sl r (bif b then l else m')
   |none=> .c5
 | .sl r l, .nil=> .sl r (bif b then l else [])
 | .nil, .sl r l=> .sl r (bif b then [] else l)
 | .nil, .nil=> .nil
 | .jn, .jn=> .jn
 | .own k, .own k'=>bif Nat.beq k k' then .own k else .c5
 |x,y=>match qc x,qc y with
  |some p,some q=> .bool (bif b then p else q)
  |_,_=> .c5
def mq(b:Bool):List AV→List AV→List AV
 |x::xs,y::ys=>ym b x y::mq b xs ys
 |_,_=> []
def yn(b:Bool):AV→AV→AV
 | .agg xs, .agg ys=>bif Nat.beq xs.length ys.length then .agg (mq b xs ys) else .c5
 | .cD xs, .cD ys=>bif Nat.beq xs.length ys.length then .cD (mq b xs ys) else .c5
 |x,y=>ym b x y
def yo(b:Bool):Option AB→Option AB→Option AB
 |some (.cells xs),some (.cells ys)=>bif Nat.beq xs.length ys.length then some (.cells (mq b xs ys)) else none
 |some (.row e r l fr),some (.row e' r' m zY)=>match eP r' r m with
  |some m'=>bif Nat.beq e e'&&(fr==zY) then some (.row e r (bif b then l else m') fr) else none
  |none=>none
 |_,_=>none
def yp:List AV→Option (IntKind×List Int)
 | []=>none
 |a::r=>match a with
  | .int k n=>match r with
    | []=>some (k,[n])
    |_::_=>match yp r with
     |some (k',l)=>if k=k' then some (k,n::l) else none
     |none=>none
  |_=>none
def every(sz j:Nat):Nat→List AV→List AV
 |0,_=> []
 |n+1,cs=>cs.getD j .c5::every sz j n (cs.drop sz)
def yq(sz k:Nat)(cs:List AV)(n:Int):Nat→Option (List AV)
 |0=>some []
 |m+1=>match yq sz k cs n m,yp (every sz m k cs) with
  |some vs,some (kd,l)=>some (vs++ [.int kd (l.getD n.toNat 0)])
  |_,_=>none
def CW(T:bY)(t:TypeId):Option (Nat×TE):=match T.find t with
 |some te=>match te.desc with
  | .array k e=>match T.find e with
    |some ee=>some (k,ee)
    |none=>none
  |_=>none
 |none=>none
def sd(T:bY)(t:TypeId)(cs:List AV)(n:Int):Option Out:=match CW T t with
 |some (k,ee)=>bif Nat.beq cs.length (k*ee.size) then match yq ee.size k cs n ee.size with
  |some vs=>bif ee.desc.jW then some {cond:= [0≤n∧n<(k:Int)],res:= .agg vs} else match vs with
   | [a]=>some {cond:= [0≤n∧n<(k:Int)],res:=a}
   |_=>none
  |none=>none
  else none
 |none=>none
def ou(k:Nat):Bool:=Nat.ble 50000 k&&Nat.blt k 60000
def fresh(h:aS)(k:Nat):Bool:=match h k with
 |none=> !(ou k)
 |some _=>false
def se(n:Int):List Int→Prop
 | []=>True
 |k::r=>n≠k∧se n r
def CX(n:Int):List Int→Bool
 | []=>false
 |k::r=>decide (n=k) || CX n r
def iS:List Int→Bool
 | []=>true
 |k::r=> !CX k r&&iS r
def xj:TypeDesc→Bool
 | .int .i64=>true
 |_=>false
def NM:Value→Bool
 | .nilFunc=>true
 |_=>false
def xk(T:bY)(Gr:Nat)(t:TypeId)(ok:Bool)(ks:List Int)(cs:List AV)(n:Int):Option Out:=match T.find t with
 |some te=>match te.desc with
  | .map kt et=>bif dq T kt xj&&iS ks then
      (match ks[Gr]?,cs[Gr]? with
      |some k,some c=>some {cond:= [n=k],res:=bif ok then .cD [c, .tt] else c}
      |_,_=>match T.find et with
       |some ee=>bif NM ee.zero then some {cond:= [se n ks],res:=bif ok then .cD [.jA, .ff] else .jA} else none
       |none=>none)
    else none
  |_=>none
 |none=>none
def cQ(E:Env)(st:St)(o:Oper):Option Out:=
 let T:=E.T
 let h:=st.h
 let ρ:=ev st
 match o.op with
 | .move x| .assign x=>some {cond:= [],res:=ρ x}
 | .pick c a b=>match ρ c with
   | .tt=>some {cond:= [],res:=ρ a}
   | .ff=>some {cond:= [],res:=ρ b}
   | .bool p=>some {cond:= [],res:=yn p (ρ a) (ρ b)}
   |_=>none
 | .alloc t=>match T.find t,o.dst with
   |some te,some d=>bif Nat.ble te.size 40 then(bif (ofConst te.zero).cells.all AV.one then some {cond:= [],res:= .ref (st.kb+d) 0,new:= [(st.kb+d, .cells (e9 (st.kb+d) (ofConst te.zero).cells))]} else none) else none
   |_,_=>none
 | .box _ x=>match o.dst with
   |some d=>bif (ρ x).cells.all AV.one then some {cond:= [],res:= .ref (st.kb+d) 0,new:= [(st.kb+d, .cells (e9 (st.kb+d) (ρ x).cells))]} else none
   |none=>none
 | .build t parts=>zX T t (parts.toList.map fun p=>(p.1,ρ p.2))
 | .buildSlice t len parts=>match o.dst with
   |some d=>bif fresh h (st.kb+d) then ik T h (st.kb+d) t len (parts.toList.map fun p=>(p.1,ρ p.2)) else none
   |none=>none
 | .load t p=>ny T h t (ρ p)
 | .store t p v=>ij T h t (ρ p) (ρ v)
 | .nilCheck x=>match ρ x with
   | .ref k off=>some {cond:= [],res:= .ref k off}
   | .gd r x j=>some {cond:= [],res:= .gd r x j}
   | .elem k sz i j=>some {cond:= [],res:= .elem k sz i j}
   | .fn (.func f) first bn=>some {cond:= [],res:= .fn (.func f) first bn}
   |_=>none
 | .binOp op t x y _=>JE T t op (ρ x) (ρ y)
 | .unOp op _ x=>NL op (ρ x)
 | .convert s d x=>lx T h s d (ρ x)
 | .makeFunc f first bn=>some {cond:= [],res:= .fn f (first.toList.map ρ) (bn.toList.map ρ)}
 | .makeSlice t l c=>match o.dst with
   |some d=>bif fresh h (st.kb+d) then qN T (st.kb+d) t (ρ l) (ρ c) else none
   |none=>none
 | .slice t x lo hi mx=>oO T h t (ρ x) (lo.map ρ) (hi.map ρ) (mx.map ρ)
 | .fieldAddr s x f=>qM T s f (ρ x)
 | .field s x f=>match yi T s f,ρ x with
   |some (ft,off), .agg cs=>match T.find ft with
    |some te=>match pick te cs off with
     |some a=>some {cond:= [],res:=a}
     |none=>none
    |none=>none
   |_,_=>none
 | .indexAddr t x i=>oZ T h t (acy i) (ρ x) (ρ i)
 | .index t x i=>match ρ x,ρ i with
   | .str s, .int _ n=>bif dq T t ot then some {cond:= [0≤n∧n<(s.length:Int)],res:= .int .u8 ((s.getD n.toNat 0).toNat:Int)} else none
   | .agg cs, .int _ n=>sd T t cs n
   |_,_=>none
 | .extract x i=>match ρ x with
   | .cD vs=>match vs[i]? with
     |some a=>some {cond:= [],res:=a}
     |none=>none
   |_=>none
 | .lookup t x i ok=>match ρ x,ρ i with
   | .gf ks cs, .int .i64 n=>xk T E.Gr t ok ks cs n
   |_,_=>none
 | .call c=>match c.callee with
   | .builtin b=>match b,c.args.toList,c.argTypes.toList with
     | .len,[x],[t]=>match zW h (ρ x) with
       |some n=>bif (bif sc (ρ x) then dq T t gA else dq T t ot) then some {cond:= [],res:= .int .i64 n} else none
       |none=>none
     | .append,[s,x],[t,t']=>match o.dst with
       |some d=>bif fresh h (st.kb+d) then mn T h (st.kb+d) t t' (ρ s) (ρ x) else none
       |none=>none
     | .copy,[s,x],[t,t']=>nz T h t t' (ρ s) (ρ x)
     | .clear,[x],[t]=>mo T h t (ρ x)
     | .min,[x,y],_=>match ρ x,ρ y with
       | .int k n, .int k' m=>if k=k' then some {cond:= [],res:= .int k (min n m)} else none
       |_,_=>none
     | .max,[x,y],_=>match ρ x,ρ y with
       | .int k n, .int k' m=>if k=k' then some {cond:= [],res:= .int k (max n m)} else none
       |_,_=>none
     |_,_,_=>none
   | .value f=>match ρ f,o.dst with
     | .fn (.func f) first bn,some d=>lJ E h (st.kb+d) f (first++(c.args.toList.map ρ)++bn)
     | .fn (.func f) first bn,none=>lJ E h st.kb f (first++(c.args.toList.map ρ)++bn)
     |_,_=>none
   |_=>none
 |_=>none
def iT(h:aS):List (Nat×AB)→Bool
 | []=>true
 |(k,_)::r=>(match h k with|none=> !(ou k)|some _=>false)&&iT h r
def lK(new:List (Nat×AB))(a:AV):AV:=match new with
 | []=>a
 |(k,_)::r=>lK r (dw k a)
def cJ(new:List (Nat×AB))(a:AB):AB:=match new with
 | []=>a
 |(k,_)::r=>cJ r (mT k a)
def au(l:List (Nat×AB))(k:Nat):Option AB:=match l with
 | []=>none
 |(j,b)::r=>bif Nat.beq k j then some b else au r k
def aG(l:List Nat)(k:Nat):Bool:=match l with
 | []=>false
 |j::r=>Nat.beq k j || aG r k
def tD(out:Out)(k:Nat)(b:AB):AB:=bif aG out.raw k then b else cJ out.new b
def CY(h:aS)(out:Out):aS:=fun k=>match au out.new k with
 |some b=>some b
 |none=>bif aG out.del k then none else match au out.gw k with
  |some b=>some (tD out k b)
  |none=>match h k with
   |some b=>some (cJ out.new b)
   |none=>none
def St.put(st:St)(d:Option Nat)(out:Out):St:=
 {st with
  t:=match d with
   |some d=>fun i=>bif Nat.beq i d then out.res else lK out.new (st.t i)
   |none=>fun i=>lK out.new (st.t i)
  h:=CY st.h out
  bL:=out.gw.map (·.1)++(out.del++(out.new.map (·.1)++st.bL))
  news:=st.news++out.new.map fun x=> .one x.1
  A9:=out.del++st.A9}
def Bb:List Prop→Prop
 | []=>True
 | [p]=>p
 |p::ps=>p∧Bb ps
end Go.Vg

end
section
namespace Go.Vg
open Go
def b9 {α:Type}(R:List Value→α→Prop):List Value→List α→Prop
 |cs,[]=>cs= []
 |cs,x::l=>∃c1 c2,cs=c1++c2∧R c1 x∧b9 R c2 l
mutual
def Rd(w:World)(A:Nat→Prop):(t:Ty)→Value→D t→Prop
 | .int k,v,x=>v= .int k (DI.toInt k x)∧lo k≤DI.toInt k x∧DI.toInt k x≤hi k
 | .bool,v,b=>v= .bool b
 | .str,v,s=>v= .string ⟨s.toArray⟩∧s.length≤maxLen
 | .slice row,v,l=>∃a cap cs,v= .slice a l.length cap∧l.length≤cap∧cap≤maxLen∧b9 (bk w A row) cs l∧
     (cs≠ []→∃b o,a=some ⟨b,o,none⟩∧A b∧w.rangeAt b o cs)
def bk(w:World)(A:Nat→Prop):(ts:List Ty)→List Value→Row ts→Prop
 | [],vs,_=>vs= []
 |t::ts,vs,x=>∃v bK,vs=v::bK∧Rd w A t v (Row.hd x)∧bk w A ts bK (Row.tl x)
end
mutual
def aa(w:World)(A:Nat→Prop)(β:Nat→Value):Value→AV→Prop
 |_, .c5=>True
 |v, .undef=>v=undef
 |v, .int k n=>v= .int k n∧lo k≤n∧n≤hi k
 |v, .bool b=>v= .bool b
 |v, .tt=>v= .bool true
 |v, .ff=>v= .bool false
 |v, .str s=>v= .string ⟨s.toArray⟩∧s.length≤maxLen
 |v, .nil=>v= .slice none 0 0
 |v, .jn=>v= .pointer none
 |v, .jA=>v= .nilFunc
 |v, .sl row l=>Rd w A (.slice row) v l
 |v, .full row l=>Rd w A (.slice row) v l∧∃a,v= .slice a l.length l.length
 |v, .gd row x j=>∃b o cs,v= .pointer (some ⟨b,o+j,none⟩)∧A b∧w.rangeAt b o cs∧bk w A row cs x
 |v, .oY row l=>∃b o cs,v= .pointer (some ⟨b,o,none⟩)∧A b∧w.rangeAt b o cs∧b9 (bk w A row) cs l
 |v, .own k=>v=β k∧v.oneCell'=true
 |v, .pre k n=>(β k= .slice none 0 0∧v= .slice none 0 0∧n=0)∨
    ∃b m cap,β k= .slice (some ⟨b,0,none⟩) m cap∧v= .slice (some ⟨b,0,none⟩) n cap∧n≤m
 |v, .view k sz off n=>(n=0∧∃a cap,v= .slice a 0 cap∧cap≤maxLen)∨
    ∃b m cap im,β k= .slice (some ⟨b,0,none⟩) m cap∧v= .slice (some ⟨b,off*sz,none⟩) n im∧n≤im∧off+im≤cap∧off+n≤m
 |v, .ref k off=>∃b,β k= .pointer (some ⟨b,0,none⟩)∧v= .pointer (some ⟨b,off,none⟩)
 |v, .elem k sz i j=>∃b m cap,β k= .slice (some ⟨b,0,none⟩) m cap∧v= .pointer (some ⟨b,i*sz+j,none⟩)
 |v, .agg cs=>∃arr:Array Value,v= .agg arr∧af w A β arr.toList cs
 |v, .cD vs=>∃arr:Array Value,v= .tuple arr∧af w A β arr.toList vs
 |v, .og _ l=>∃b,v= .bool b∧(b=true→l= [])
 |v, .fn f first bn=>∃a1 a2:Array Value,v= .func f a1 a2∧af w A β a1.toList first∧af w A β a2.toList bn
 |v, .gf ks cs=>∃(b:Nat) (es:Array MapEntry) (clock:Nat),v= .map (some b)∧A b∧w.heap[b]? =some (.map es clock)∧es.toList.map (·.key)=ks.map (Value.int .i64)∧af w A β (es.toList.map (·.val)) cs
def af(w:World)(A:Nat→Prop)(β:Nat→Value):List Value→List AV→Prop
 |vs,[]=>vs= []
 |vs,a::aH=>∃v bK,vs=v::bK∧aa w A β v a∧af w A β bK aH
end
def ay:Value→Option Nat
 | .pointer (some a)=>some a.block
 | .slice (some a) _ _=>some a.block
 |_=>none
def BR(w:World)(A:Nat→Prop)(β:Nat→Value)(k:Nat):AB→Prop
 | .cells cs=>∃b arr e,β k= .pointer (some ⟨b,0,none⟩)∧w.heap[b]? =some (.cells arr e (0,0))∧¬A b∧
     af w A β arr.toList cs∧∀v∈arr.toList,v.oneCell'=true
 | .row e row l fr=>∃xs,w.ownsRow 0 e row.length (β k) l.length xs∧b9 (bk w A row) xs l∧
     ∀b,ay (β k)=some b→if fr then A b else ¬A b
 | .arr row l=>∃b arr e,β k= .pointer (some ⟨b,0,none⟩)∧w.heap[b]? =some (.cells arr e (0,0))∧¬A b∧b9 (bk w A row) arr.toList l
 | .gD e j row l i=>∃xs v0,w.ownsRow 0 e row.length (β k) l.length xs∧(∀b,ay (β k)=some b→¬A b)∧b9 (bk w A row) (xs.set (i*row.length+(row.length-1)) v0) l∧
     ∀j',j=some j'→xs[i*row.length+(row.length-1)]? =some (β j')
 | .views e j n m sz=>∃xs,w.ownsRow 0 e 1 (β k) n xs∧(∀b,ay (β k)=some b→¬A b)∧
     ∀j',j=some j'→∀i,i<m→∃v,xs[i]? =some v∧aa w A β v (.view j' 1 (i*sz) sz)
def o0(w:World)(A:Nat→Prop)(i:Nat)(d:GD):Prop :=A i∧∃cs,w.rangeAt i 0 cs∧b9 (bk w A d.row) cs d.l
structure Ctx where
 w0:World
 A0:Nat→Prop
 M0:Nat→Prop
 G:Nat→Option GD
 yr:Nat→Value
structure Fr (C:Ctx) (w:World):Prop where
 os:w.os=C.w0.os
 tape:w.tape=C.w0.tape
 output:w.output=C.w0.output
 size:C.w0.heap.size≤w.heap.size
 block:∀b,b<C.w0.heap.size→¬C.M0 b→w.heap[b]? =C.w0.heap[b]?
structure aF (C:Ctx) (A:Nat→Prop) (β:Nat→Value) (st:St) (a:Act) (w:World):Prop where
 defers:a.defers= []
 size:a.tmps.size=st.n
 tmps:∀i,aa w A β (a.tmps.getD i undef) (st.t i)
 blocks:∀k ab,st.h k=some ab→BR w A β k ab
 apart:∀k k' b,(st.h k).isSome→(st.h k').isSome→ay (β k)=some b→ay (β k')=some b→k=k'
 bound:∀b,A b→b<w.heap.size
 frame:Fr C w
 kE:∀b,b<C.w0.heap.size→A b→C.A0 b∨C.M0 b
 base:∀b,C.A0 b→A b
 nA:∀k b,(st.h k).isSome→ay (β k)=some b→C.w0.heap.size≤b∨C.M0 b
 qO:∀i d,st.g i=some d→C.G i=some d
 laid:∀i d,C.G i=some d→o0 w A i d
 held:∀k,ou k=true→β k=C.yr k
def Rel(C:Ctx)(st:St)(a:Act)(w:World):Prop :=∃A β,aF C A β st a w
theorem mV {w w':World} {b o:Nat} {cs:List Value}(h:w'.heap[b]? =w.heap[b]?)(hr:w.rangeAt b o cs):w'.rangeAt b o cs:=by
 intro j v hj;have :=hr j v hj;rw [World.cell?_of_block (w:=w) (w':=w') (a:=⟨b,o+j,none⟩) h];exact this
theorem bE {α:Type} {R R':List Value→α→Prop}(h:∀c x,R c x→R' c x):∀(l:List α) (cs:List Value),b9 R cs l→b9 R' cs l
 | [],_,hr=>hr
 |_::l,_,⟨c1,c2,hc,h1,h2⟩=>⟨c1,c2,hc,h _ _ h1,bE h l c2 h2⟩
def cP(w w':World)(A A':Nat→Prop):Prop :=∀b,A b→A' b∧w'.heap[b]? =w.heap[b]?
mutual
theorem yu {w w':World} {A A':Nat→Prop}(h:cP w w' A A'):∀(t:Ty) (v:Value) (x:D t),Rd w A t v x→Rd w' A' t v x
 | .int _,_,_,hr=>by simpa only [Rd] using hr
 | .bool,_,_,hr=>by simpa only [Rd] using hr
 | .str,_,_,hr=>by simpa only [Rd] using hr
 | .slice row,v,l,hr=>by
   simp only [Rd] at hr ⊢;obtain⟨a,cap,cs,h1,h2,h3,h4,h5⟩:=hr;refine⟨a,cap,cs,h1,h2,h3,bE (fun c x hx=>bF h row c x hx) l cs h4,fun dD=> ?_⟩;obtain⟨b,o,ha,hA,Ut⟩:=h5 dD;exact⟨b,o,ha,(h b hA).1,mV (h b hA).2 Ut⟩
theorem bF {w w':World} {A A':Nat→Prop}(h:cP w w' A A'):∀(ts:List Ty) (vs:List Value) (x:Row ts),bk w A ts vs x→bk w' A' ts vs x
 | [],_,_,hr=>by simpa only [bk] using hr
 |t::ts,vs,x,hr=>by
  simp only [bk] at hr ⊢;obtain⟨v,bK,h1,h2,h3⟩:=hr;exact⟨v,bK,h1,yu h t v _ h2,bF h ts bK _ h3⟩
end
theorem o0.mono {w w':World} {A A':Nat→Prop} {i:Nat} {d:GD}(hd:o0 w A i d)(h:cP w w' A A'):o0 w' A' i d:=by
 obtain⟨h1,cs,h2,h3⟩:=hd;exact⟨(h i h1).1,cs,mV (h i h1).2 h2,bE (fun c x hx=>bF h _ _ _ hx) _ _ h3⟩
mutual
theorem iI {w w':World} {A A':Nat→Prop} {β:Nat→Value}(h:cP w w' A A'):∀(a:AV) (v:Value),aa w A β v a→aa w' A' β v a
 | .c5,_,hr=>by simp [aa]
 | .undef,_,hr=>by simpa only [aa] using hr
 | .int _ _,_,hr=>by simpa only [aa] using hr
 | .bool _,_,hr=>by simpa only [aa] using hr
 | .tt,_,hr=>by simpa only [aa] using hr
 | .ff,_,hr=>by simpa only [aa] using hr
 | .str _,_,hr=>by simpa only [aa] using hr
 | .nil,_,hr=>by simpa only [aa] using hr
 | .jn,_,hr=>by simpa only [aa] using hr
 | .og _ _,_,hr=>by simpa only [aa] using hr
 | .jA,_,hr=>by simpa only [aa] using hr
 | .sl row l,v,hr=>by
   simp only [aa] at hr ⊢;exact yu h _ _ _ hr
 | .full row l,v,hr=>by
   simp only [aa] at hr ⊢;exact⟨yu h _ _ _ hr.1,hr.2⟩
 | .gd row x j,v,hr=>by
   simp only [aa] at hr ⊢;obtain⟨b,o,cs,h1,h2,h3,h4⟩:=hr;exact⟨b,o,cs,h1,(h b h2).1,mV (h b h2).2 h3,bF h _ _ _ h4⟩
 | .oY row l,v,hr=>by
   simp only [aa] at hr ⊢;obtain⟨b,o,cs,h1,h2,h3,h4⟩:=hr;exact⟨b,o,cs,h1,(h b h2).1,mV (h b h2).2 h3,bE (fun c x hx=>bF h _ _ _ hx) _ _ h4⟩
 | .own _,_,hr=>by simpa only [aa] using hr
 | .pre _ _,_,hr=>by simpa only [aa] using hr
 | .view _ _ _ _,_,hr=>by simpa only [aa] using hr
 | .ref _ _,_,hr=>by simpa only [aa] using hr
 | .elem _ _ _ _,_,hr=>by simpa only [aa] using hr
 | .agg cs,v,hr=>by
   simp only [aa] at hr ⊢;obtain⟨arr,h1,h2⟩:=hr;exact⟨arr,h1,eA h cs _ h2⟩
 | .cD cs,v,hr=>by
   simp only [aa] at hr ⊢;obtain⟨arr,h1,h2⟩:=hr;exact⟨arr,h1,eA h cs _ h2⟩
 | .fn f first bn,v,hr=>by
   simp only [aa] at hr ⊢;obtain⟨a1,a2,h1,h2,h3⟩:=hr;exact⟨a1,a2,h1,eA h first _ h2,eA h bn _ h3⟩
 | .gf ks cs,v,hr=>by
   simp only [aa] at hr ⊢;obtain⟨b,es,ck,h1,h2,h3,h4,h5⟩:=hr;exact⟨b,es,ck,h1,(h b h2).1,(h b h2).2.trans h3,h4,eA h cs _ h5⟩
theorem eA {w w':World} {A A':Nat→Prop} {β:Nat→Value}(h:cP w w' A A'):∀(aH:List AV) (vs:List Value),af w A β vs aH→af w' A' β vs aH
 | [],_,hr=>by simpa only [af] using hr
 |a::aH,vs,hr=>by
  simp only [af] at hr ⊢;obtain⟨v,bK,h1,h2,h3⟩:=hr;exact⟨v,bK,h1,iI h a v h2,eA h aH bK h3⟩
end
theorem aR {k d:Nat}(h:¬k=d):Nat.beq k d=false :=by
 cases hb:Nat.beq k d with
 |false=>rfl
 |true=>exact absurd (Nat.eq_of_beq_eq_true hb) h
theorem bG(k:Nat):Nat.beq k k=true :=Nat.beq_refl k
def bI(β:Nat→Value)(d:Nat)(v:Value):Nat→Value:=fun k=>if k=d then v else β k
mutual
theorem sf {w:World} {A:Nat→Prop} {β:Nat→Value}(d:Nat)(u:Value):∀(a:AV) (v:Value),aa w A β v a→aa w A (bI β d u) v (dw d a)
 | .c5,_,hr=>by simp [dw,aa]
 | .undef,_,hr=>by simpa only [dw,aa] using hr
 | .int _ _,_,hr=>by simpa only [dw,aa] using hr
 | .bool _,_,hr=>by simpa only [dw,aa] using hr
 | .tt,_,hr=>by simpa only [dw,aa] using hr
 | .ff,_,hr=>by simpa only [dw,aa] using hr
 | .str _,_,hr=>by simpa only [dw,aa] using hr
 | .nil,_,hr=>by simpa only [dw,aa] using hr
 | .jn,_,hr=>by simpa only [dw,aa] using hr
 | .og _ _,_,hr=>by simpa only [dw,aa] using hr
 | .jA,_,hr=>by simpa only [dw,aa] using hr
 | .sl _ _,_,hr=>by simpa only [dw,aa] using hr
 | .full _ _,_,hr=>by simpa only [dw,aa] using hr
 | .gd _ _ _,_,hr=>by simpa only [dw,aa] using hr
 | .oY _ _,_,hr=>by simpa only [dw,aa] using hr
 | .own k,v,hr=>by
   simp only [dw];by_cases hk:k=d
   · subst hk;simp [aa]
   · have :Nat.beq k d=false :=aR hk;simp only [this,cond_false];simpa only [aa,bI,if_neg hk] using hr
 | .pre k n,v,hr=>by
   simp only [dw];by_cases hk:k=d
   · subst hk;simp [aa]
   · have :Nat.beq k d=false :=aR hk;simp only [this,cond_false];simpa only [aa,bI,if_neg hk] using hr
 | .view k sz off n,v,hr=>by
   simp only [dw];by_cases hk:k=d
   · subst hk;simp [aa]
   · have :Nat.beq k d=false :=aR hk;simp only [this,cond_false];simpa only [aa,bI,if_neg hk] using hr
 | .ref k off,v,hr=>by
   simp only [dw];by_cases hk:k=d
   · subst hk;simp [aa]
   · have :Nat.beq k d=false :=aR hk;simp only [this,cond_false];simpa only [aa,bI,if_neg hk] using hr
 | .elem k sz i j,v,hr=>by
   simp only [dw];by_cases hk:k=d
   · subst hk;simp [aa]
   · have :Nat.beq k d=false :=aR hk;simp only [this,cond_false];simpa only [aa,bI,if_neg hk] using hr
 | .agg cs,v,hr=>by
   simp only [dw,aa] at hr ⊢;obtain⟨arr,h1,h2⟩:=hr;exact⟨arr,h1,fR d u cs _ h2⟩
 | .cD cs,v,hr=>by
   simp only [dw,aa] at hr ⊢;obtain⟨arr,h1,h2⟩:=hr;exact⟨arr,h1,fR d u cs _ h2⟩
 | .fn f first bn,v,hr=>by
   simp only [dw,aa] at hr ⊢;obtain⟨a1,a2,h1,h2,h3⟩:=hr;exact⟨a1,a2,h1,fR d u first _ h2,fR d u bn _ h3⟩
 | .gf ks cs,v,hr=>by
   simp only [dw,aa] at hr ⊢;obtain⟨b,es,ck,h1,h2,h3,h4,h5⟩:=hr;exact⟨b,es,ck,h1,h2,h3,h4,fR d u cs _ h5⟩
theorem fR {w:World} {A:Nat→Prop} {β:Nat→Value}(d:Nat)(u:Value):∀(aH:List AV) (vs:List Value),af w A β vs aH→af w A (bI β d u) vs (e9 d aH)
 | [],_,hr=>by simpa only [e9,af] using hr
 |a::aH,vs,hr=>by
  simp only [e9,af] at hr ⊢;obtain⟨v,bK,h1,h2,h3⟩:=hr;exact⟨v,bK,h1,sf d u a v h2,fR d u aH bK h3⟩
end
theorem NN {w:World} {A:Nat→Prop} {β aJ:Nat→Value}(h:∀k,aJ k=β k) {v:Value} {a:AV}(hr:aa w A β v a):aa w A aJ v a:=by
 have :aJ=β:=funext h;rw [this];exact hr
theorem wH {w:World} {A:Nat→Prop}:∀(new:List (Nat×AB)) (β aJ:Nat→Value) (v:Value) (a:AV),(∀k,au new k=none→aJ k=β k)→aa w A β v a→aa w A aJ v (lK new a)
 | [],β,aJ,v,a,h,hr=>by
   simp only [lK];exact NN (fun k=>h k (by simp [au])) hr
 |(d,b)::r,β,aJ,v,a,h,hr=>by
  simp only [lK];refine wH r (bI β d (aJ d)) aJ v (dw d a) (fun k hk=> ?_) (sf d (aJ d) a v hr);by_cases JF:k=d
  · subst JF;simp [bI]
  · simp only [bI,if_neg JF];exact h k (by simp only [au,aR JF,cond_false];exact hk)
def ru(new:List (Nat×AB))(cs:List AV):List AV:=match new with
 | []=>cs
 |(k,_)::r=>ru r (e9 k cs)
theorem tE {w:World} {A:Nat→Prop}:∀(new:List (Nat×AB)) (β aJ:Nat→Value) (vs:List Value) (aH:List AV),(∀k,au new k=none→aJ k=β k)→af w A β vs aH→af w A aJ vs (ru new aH)
 | [],β,aJ,v,a,h,hr=>by
   simp only [ru];have :aJ=β:=funext fun k=>h k (by simp [au]);rw [this];exact hr
 |(d,b)::r,β,aJ,v,a,h,hr=>by
  simp only [ru];refine tE r (bI β d (aJ d)) aJ v (e9 d a) (fun k hk=> ?_) (fR d (aJ d) a v hr);by_cases JF:k=d
  · subst JF;simp [bI]
  · simp only [bI,if_neg JF];exact h k (by simp only [au,aR JF,cond_false];exact hk)
theorem tF:∀(new:List (Nat×AB)) (cs:List AV),cJ new (.cells cs)= .cells (ru new cs)
 | [],_=>rfl
 |(k,_)::r,cs=>by simp only [cJ,mT,ru,tF r]
theorem jY:∀(new:List (Nat×AB)) (e:Nat) (row:List Ty) (l:List (Row row)) (fr:Bool),cJ new (.row e row l fr)= .row e row l fr
 | [],_,_,_,_=>rfl
 |(k,_)::r,e,row,l,fr=>by simp only [cJ,mT,jY r]
theorem yv:∀(new:List (Nat×AB)) (row:List Ty) (l:List (Row row)),cJ new (.arr row l)= .arr row l
 | [],_,_=>rfl
 |(k,_)::r,row,l=>by simp only [cJ,mT,yv r]
def kF(new:List (Nat×AB))(j:Option Nat):Option Nat:=match new with
 | []=>j
 |(k,_)::r=>kF r (p9 k j)
theorem tG:∀(new:List (Nat×AB)) (e:Nat) (j:Option Nat) (n m sz:Nat),cJ new (.views e j n m sz)= .views e (kF new j) n m sz
 | [],_,_,_,_,_=>rfl
 |(k,_)::r,e,j,n,m,sz=>by simp only [cJ,mT,kF,tG r]
theorem yw:∀(new:List (Nat×AB)) (e:Nat) (j:Option Nat) (row:List Ty) (l:List (Row row)) (i:Nat),cJ new (.gD e j row l i)= .gD e (kF new j) row l i
 | [],_,_,_,_,_=>rfl
 |(k,_)::r,e,j,row,l,i=>by simp only [cJ,mT,kF,yw r]
theorem qP:∀(new:List (Nat×AB)),kF new none=none
 | []=>rfl
 |(k,_)::r=>by simp only [kF,p9,qP r]
theorem qQ:∀(new:List (Nat×AB)) (j:Option Nat) (j':Nat),kF new j=some j'→j=some j'∧au new j'=none
 | [],j,j',h=>⟨h,rfl⟩
 |(k,_)::r,none,j',h=>by simp only [kF,p9,qP] at h;cases h
 |(k,_)::r,some i,j',h=>by
  simp only [kF,p9] at h;cases hb:Nat.beq i k with
  |true=>rw [hb] at h;simp only [cond_true,qP] at h;cases h
  |false=>
   rw [hb] at h;obtain⟨h1,h2⟩:=qQ r (some i) j' h;simp only [Option.some.injEq] at h1;subst h1;exact⟨rfl,by simp only [au,hb,cond_false];exact h2⟩
theorem tH {w w':World} {A A':Nat→Prop} {β aJ:Nat→Value} {v:Value} {j sz off n:Nat}(h:aJ j=β j)(hr:aa w A β v (.view j sz off n)):aa w' A' aJ v (.view j sz off n):=by
 simp only [aa] at hr ⊢;rw [h];exact hr
theorem fS {w w':World} {e size n:Nat} {v:Value} {xs:List Value}(h:w.ownsRow 0 e size v n xs)(hb:∀b,ay v=some b→w'.heap[b]? =w.heap[b]?):w'.ownsRow 0 e size v n xs:=by
 refine⟨h.1,?_⟩;rcases h.2 with hn|⟨g,cap,cur,rfl,h0,hg,rest⟩
 · exact .inl hn
 · refine .inr ⟨g,cap,cur,rfl,h0,?_,rest⟩;rw [hb g rfl];exact hg
theorem tI {w w':World} {A A':Nat→Prop} {β aJ:Nat→Value} {new:List (Nat×AB)} {k:Nat} {ab:AB}(bZ:∀k,au new k=none→aJ k=β k)(hk:aJ k=β k)
  (hblk:∀b,ay (β k)=some b→w'.heap[b]? =w.heap[b]? ∧(A' b→A b)) (hK:cP w w' A A') (h:BR w A β k ab):BR w' A' aJ k (cJ new ab):=by
 cases ab with
 |cells cs=>
  rw [tF];obtain⟨b,arr,e,h1,h2,h3,h4,h5⟩:=h;have hb:=hblk b (by rw [h1];rfl);exact⟨b,arr,e,hk.trans h1,hb.1.trans h2,fun hA=>h3 (hb.2 hA),tE new β aJ _ _ bZ (eA hK _ _ h4),h5⟩
 |row e row l fr=>
  rw [jY];obtain⟨xs,h1,h2,h3⟩:=h;simp only [BR,hk];refine⟨xs,fS h1 (fun b hb=>(hblk b hb).1),bE (fun c x hx=>bF hK row c x hx) l xs h2,fun b hb=> ?_⟩;have :=h3 b hb;cases fr with
  |true=>simp only [if_true] at this ⊢;exact(hK b this).1
  |false=>simp only [Bool.false_eq_true,if_false] at this ⊢;exact fun hA=>this ((hblk b hb).2 hA)
 |arr row l=>
  rw [yv];obtain⟨b,arr,e,h1,h2,h3,h4⟩:=h;have hb:=hblk b (by rw [h1];rfl);exact⟨b,arr,e,hk.trans h1,hb.1.trans h2,fun hA=>h3 (hb.2 hA),bE (fun c x hx=>bF hK row c x hx) l _ h4⟩
 |views e j n m sz=>
  rw [tG];obtain⟨xs,h1,h2,h3⟩:=h;simp only [BR,hk];refine⟨xs,fS h1 (fun b hb=>(hblk b hb).1),fun b hb hA=>h2 b hb ((hblk b hb).2 hA),fun j' eJ i hi=> ?_⟩;obtain⟨hj,dj⟩:=qQ new j j' eJ;obtain⟨v,Lf,Gs⟩:=h3 j' hj i hi;exact⟨v,Lf,tH (bZ j' dj) Gs⟩
 |gD e j row l i=>
  rw [yw];obtain⟨xs,v0,h1,h2,h3,h4⟩:=h;simp only [BR,hk];refine⟨xs,v0,fS h1 (fun b hb=>(hblk b hb).1),fun b hb hA=>h2 b hb ((hblk b hb).2 hA),bE (fun c x hx=>bF hK row c x hx) l _ h3,fun j' eJ=> ?_⟩;obtain⟨hj,dj⟩:=qQ new j j' eJ;rw [bZ j' dj];exact h4 j' hj
def kG(st:St)(out:Out)(k:Nat):Prop :=(st.h k).isSome∧((au out.gw k).isSome∨aG out.del k=true)
theorem aF.Wc {C:Ctx} {A A':Nat→Prop} {β aJ:Nat→Value} {st:St} {a:Act} {w w':World} {out:Out} {d:Option Nat} {v:Value}
  (hB:aF C A β st a w) (hd:∀t,d=some t→t<st.n)
  (zZ:∀k b,au out.new k=some b→st.h k=none∧ou k=false)
  (z6:∀k b,au out.gw k=some b→(st.h k).isSome)
  (bZ:∀k,au out.new k=none→aJ k=β k)
  (hK:cP w w' A A')
  (hos:w'.os=w.os) (NO:w'.tape=w.tape) (nB:w'.output=w.output) (nW:w.heap.size≤w'.heap.size)
  (xl:∀b,b<w.heap.size→(∀k,kG st out k→ay (β k)≠some b)→w'.heap[b]? =w.heap[b]?)
  (hbound:∀b,A' b→b<w'.heap.size)
  (hA:∀b,A' b→A b∨w.heap.size≤b∨∃k,kG st out k∧ay (β k)=some b)
  (yx:∀k ab,au out.gw k=some ab→aG out.del k=false→BR w' A' aJ k (tD out k ab))
  (dj:∀k ab,au out.new k=some ab→BR w' A' aJ k ab)
  (tJ:∀k b ab,au out.new k=some ab→ay (aJ k)=some b→w.heap.size≤b∨∃k0,aG out.del k0=true∧(st.h k0).isSome∧ay (β k0)=some b)
  (xm:∀k k' b,(au out.new k).isSome→(au out.new k').isSome→ay (aJ k)=some b→ay (aJ k')=some b→k=k')
  (rv:aa w' A' aJ v out.res):aF C A' aJ (st.put d out) (a.put d v) w':=by
 have eM:∀k b,(st.h k).isSome→ay (β k)=some b→b<w.heap.size:=by
  intro k b hk hb;obtain⟨ab,fE⟩:=Option.isSome_iff_exists.1 hk;have fY:=hB.blocks k ab fE;cases ab with
  |arr row l=>
   obtain⟨b',arr,e,h1,h2,_⟩:=fY;rw [h1] at hb;simp only [ay,Option.some.injEq] at hb;subst hb;exact(Array.getElem?_eq_some_iff.1 h2).1
  |cells cs=>
   obtain⟨b',arr,e,h1,h2,_⟩:=fY;rw [h1] at hb;simp only [ay,Option.some.injEq] at hb;subst hb;exact(Array.getElem?_eq_some_iff.1 h2).1
  |row e row l fr=>
   obtain⟨xs,h1,_⟩:=fY;rcases h1.2 with⟨hn,_⟩|⟨g,cap,cur,hv,_,hg,_⟩
   · rw [hn] at hb;simp [ay] at hb
   · rw [hv] at hb;simp only [ay,Option.some.injEq] at hb;subst hb;exact(Array.getElem?_eq_some_iff.1 hg).1
  |gD e j row l i=>
   obtain⟨xs,v0,h1,_⟩:=fY;rcases h1.2 with⟨hn,_⟩|⟨g,cap,cur,hv,_,hg,_⟩
   · rw [hn] at hb;simp [ay] at hb
   · rw [hv] at hb;simp only [ay,Option.some.injEq] at hb;subst hb;exact(Array.getElem?_eq_some_iff.1 hg).1
  |views e j n m sz=>
   obtain⟨xs,h1,_⟩:=fY;rcases h1.2 with⟨hn,_⟩|⟨g,cap,cur,hv,_,hg,_⟩
   · rw [hn] at hb;simp [ay] at hb
   · rw [hv] at hb;simp only [ay,Option.some.injEq] at hb;subst hb;exact(Array.getElem?_eq_some_iff.1 hg).1
 have Wd:∀k CZ,(st.put d out).h k=some CZ→(∃ab,au out.new k=some ab∧ab=CZ)∨(au out.new k=none∧aG out.del k=false∧
   ((∃ab,au out.gw k=some ab∧CZ=tD out k ab)∨(au out.gw k=none∧∃ab,st.h k=some ab∧CZ=cJ out.new ab))):=by
  intro k CZ hk;simp only [St.put,CY] at hk;cases hn:au out.new k with
  |some ab=>simp only [hn,Option.some.injEq] at hk;exact .inl ⟨ab,rfl,hk⟩
  |none=>
   simp only [hn] at hk;cases ahM:aG out.del k with
   |true=>simp [ahM] at hk
   |false=>
    simp only [ahM,cond_false] at hk;cases hu:au out.gw k with
    |some ab=>simp only [hu,Option.some.injEq] at hk;exact .inr ⟨rfl,rfl, .inl ⟨ab,rfl,hk.symm⟩⟩
    |none=>
     simp only [hu] at hk;cases hs:st.h k with
     |none=>simp [hs] at hk
     |some ab=>simp only [hs,Option.some.injEq] at hk;exact .inr ⟨rfl,rfl, .inr ⟨rfl,ab,rfl,hk.symm⟩⟩
 have fc:∀k,((st.put d out).h k).isSome→(au out.new k).isSome∨(au out.new k=none∧aG out.del k=false∧(st.h k).isSome):=by
  intro k hk;obtain⟨CZ,aru⟩:=Option.isSome_iff_exists.1 hk;rcases Wd k CZ aru with⟨ab,h,_⟩|⟨h1,h2,⟨ab,h,_⟩|⟨_,ab,h,_⟩⟩
  · exact .inl (by simp [h])
  · exact .inr ⟨h1,h2,z6 k ab h⟩
  · exact .inr ⟨h1,h2,by simp [h]⟩
 have ahN:∀v a,aa w A β v a→aa w' A' aJ v (lK out.new a):=fun v a h=>wH out.new β aJ v a bZ (iI hK a v h)
 refine⟨?_,?_,?_,?_,?_,hbound,?_,?_,?_,?_,hB.qO,fun i d hd=>(hB.laid i d hd).mono hK,fun k hk=>by
  rw [bZ k (by
   cases hn:au out.new k with
   |none=>rfl
   |some ab=>rw [(zZ k ab hn).2] at hk;cases hk)]
  exact hB.held k hk⟩
 · cases d<;>exact hB.defers
 · cases d with
   |none=>exact hB.size
   |some t=>show(a.put (some t) v).tmps.size=st.n;simp [Act.put,hB.size]
 · intro i;cases d with
   |none=>exact ahN _ _ (hB.tmps i)
   |some t=>
    have ht:=hd t rfl;simp only [St.put,Act.put];by_cases hi:i=t
    · subst hi;simp only [bG,cond_true];rw [Array.getD_eq_getD_getElem?,Array.getElem?_setIfInBounds_self_of_lt (by rw [hB.size];exact ht)];exact rv
    · simp only [aR hi,cond_false];have :=ahN _ _ (hB.tmps i);rw [Array.getD_eq_getD_getElem?,Array.getElem?_setIfInBounds_ne (fun h=>hi h.symm),←Array.getD_eq_getD_getElem?];exact this
 · intro k CZ hk;rcases Wd k CZ hk with⟨ab,h,rfl⟩|⟨h1,h2,⟨ab,h,rfl⟩|⟨h3,ab,h,rfl⟩⟩
   · exact dj k _ h
   · exact yx k ab h h2
   · have xn:=hB.blocks k ab h;refine tI bZ (bZ k h1) (fun b hb=> ?_) hK xn
     have hnt:∀k',kG st out k'→ay (β k')≠some b:=by
      intro k' ht bA;have :k'=k:=hB.apart k' k b ht.1 (by simp [h]) bA hb;subst this;rcases ht.2 with hu|hu
      · simp [h3] at hu
      · simp [h2] at hu
     refine⟨xl b (eM k b (by simp [h]) hb) hnt,fun C0=> ?_⟩;rcases hA b C0 with hh|hh|⟨k',ht,bA⟩
     · exact hh
     · exact absurd (eM k b (by simp [h]) hb) (by omega)
     · exact absurd bA (hnt k' ht)
 · intro k k' b hk dx hb bA;rcases fc k hk with h1|⟨h1,h2,h3⟩<;>rcases fc k' dx with g1|⟨g1,g2,g3⟩
   · exact xm k k' b h1 g1 hb bA
   · obtain⟨ab,fE⟩:=Option.isSome_iff_exists.1 h1;rw [bZ k' g1] at bA;rcases tJ k b ab fE hb with hh|⟨k0,We,NP,B9⟩
     · exact absurd (eM k' b g3 bA) (by omega)
     · have :k0=k':=hB.apart k0 k' b NP g3 B9 bA;subst this;rw [We] at g2;cases g2
   · obtain⟨ab,fE⟩:=Option.isSome_iff_exists.1 g1;rw [bZ k h1] at hb;rcases tJ k' b ab fE bA with hh|⟨k0,We,NP,B9⟩
     · exact absurd (eM k b h3 hb) (by omega)
     · have :k0=k:=hB.apart k0 k b NP h3 B9 hb;subst this;rw [We] at h2;cases h2
   · rw [bZ k h1] at hb;rw [bZ k' g1] at bA;exact hB.apart k k' b h3 g3 hb bA
 · refine⟨hos.trans hB.frame.os,NO.trans hB.frame.tape,nB.trans hB.frame.output,Nat.le_trans hB.frame.size nW,fun b hb hM=> ?_⟩;rw [xl b (Nat.lt_of_lt_of_le hb hB.frame.size) (fun k ht xn=> ?_)]
   · exact hB.frame.block b hb hM
   · rcases hB.nA k b ht.1 xn with h|h
     · omega
     · exact hM h
 · intro b hb C0;rcases hA b C0 with hh|hh|⟨k,ht,xn⟩
   · exact hB.kE b hb hh
   · exact absurd hB.frame.size (by omega)
   · rcases hB.nA k b ht.1 xn with h|h
     · omega
     · exact .inr h
 · exact fun b hb=>(hK b (hB.base b hb)).1
 · intro k b hk hb;rcases fc k hk with h1|⟨h1,h2,h3⟩
   · obtain⟨ab,fE⟩:=Option.isSome_iff_exists.1 h1;rcases tJ k b ab fE hb with hh|⟨k0,We,NP,B9⟩
     · exact .inl (Nat.le_trans hB.frame.size hh)
     · exact hB.nA k0 b NP B9
   · rw [bZ k h1] at hb;exact hB.nA k b h3 hb
theorem aF.step {C:Ctx} {A A':Nat→Prop} {β aJ:Nat→Value} {st:St} {a:Act} {w w':World} {out:Out} {d:Option Nat} {v:Value}
  (hB:aF C A β st a w) (hd:∀t,d=some t→t<st.n)
  (zZ:∀k b,au out.new k=some b→st.h k=none∧ou k=false)
  (z6:∀k b,au out.gw k=some b→(st.h k).isSome)
  (bZ:∀k,au out.new k=none→aJ k=β k)
  (hK:cP w w' A A')
  (hos:w'.os=w.os) (NO:w'.tape=w.tape) (nB:w'.output=w.output) (nW:w.heap.size≤w'.heap.size)
  (xl:∀b,b<w.heap.size→(∀k,kG st out k→ay (β k)≠some b)→w'.heap[b]? =w.heap[b]?)
  (hbound:∀b,A' b→b<w'.heap.size)
  (hA:∀b,A' b→A b∨w.heap.size≤b∨∃k,kG st out k∧ay (β k)=some b)
  (yx:∀k ab,au out.gw k=some ab→aG out.del k=false→BR w' A' aJ k (cJ out.new ab))
  (dj:∀k ab,au out.new k=some ab→BR w' A' aJ k ab)
  (tJ:∀k b ab,au out.new k=some ab→ay (aJ k)=some b→w.heap.size≤b∨∃k0,aG out.del k0=true∧(st.h k0).isSome∧ay (β k0)=some b)
  (xm:∀k k' b,(au out.new k).isSome→(au out.new k').isSome→ay (aJ k)=some b→ay (aJ k')=some b→k=k')
  (rv:aa w' A' aJ v out.res) (hr:out.raw= []:=by rfl):aF C A' aJ (st.put d out) (a.put d v) w':=
 hB.Wc hd zZ z6 bZ hK hos NO nB nW xl hbound hA (fun k ab h1 h2=>by
  have :tD out k ab=cJ out.new ab:=by simp [tD,hr,aG]
  rw [this];exact yx k ab h1 h2) dj tJ xm rv
end Go.Vg

end
section
namespace Go.Vg
open Go
def NQ(P:Program)(t:TypeId):TypeDesc→Prop
 | .struct fs=>P.stoodInHeld t=false∧P.eqGuardType P.depth t=false∧(fs.toList.all fun f=>f.name != "_")=true
 |_=>True
structure bx (T:bY) (P:Program):Prop where
 ok:∀t te,T.find t=some te→P.underlying t=some te.desc∧∃i,P.info? t=some i∧i.size=te.size∧i.bytes=te.bytes∧i.zero=some te.zero
 held:∀t te,T.find t=some te→NQ P t te.desc
section
variable {P:Program} {C:Ctx} {A:Nat→Prop} {β:Nat→Value} {st:St} {a:Act} {w:World}
theorem cS {o:Oper} {K:Act→World→Prop} {Q:Exit→Act→World→Prop} {v:Value} {w':World}(h:(execOp a.eval o).run P w= .ok (.value v) w')(hk:K (a.put o.dst v) w'):o.wp P a w K Q:=by
 unfold Oper.wp;rw [h];exact hk
theorem ry {o:Oper} {K:Act→World→Prop} {Q:Exit→Act→World→Prop} {w':World}(h:(execOp a.eval o).run P w= .ok .skip w')(hk:K (a.put o.dst undef) w'):o.wp P a w K Q:=by
 unfold Oper.wp;rw [h];exact hk
theorem Bc(v:Value):aa w A β v (sb v):=by
 unfold sb;split
 · split
   · rename_i h;simp only [aa];exact⟨trivial,h⟩
   · simp [aa]
 · split
   · rename_i h;simp [aa,h]
   · rename_i h;simp [aa,h]
 · rename_i s;cases hb:Nat.ble s.data.toList.length 1000000 with
   |false=>simp [aa]
   |true=>
    have :=Nat.le_of_ble_eq_true hb;simp only [cond_true,aa];refine⟨by simp,?_⟩;unfold maxLen;omega
 · simp [aa]
 · simp [aa]
 · simp [aa]
 · simp [aa]
theorem Bd(f:Value→AV)(hf:∀v,aa w A β v (f v)):∀(vs:List Value),af w A β vs (vs.map f)
 | []=>by simp [af]
 |v::vs=>by
  simp only [List.map_cons,af];exact⟨v,vs,rfl,hf v,Bd f hf vs⟩
theorem sh(v:Value):aa w A β v (ofConst v):=by
 unfold ofConst;split
 · rename_i cs;simp only [aa];exact⟨cs,rfl,Bd sb Bc cs.toList⟩
 · exact Bc v
theorem aV(hB:aF C A β st a w)(x:Operand):aa w A β (a.eval x) (ev st x):=by
 cases x with
 |tmp i=>exact hB.tmps i
 |const v=>exact sh v
 |global g=>
  simp only [ev,Act.eval];cases hg:st.g g with
  |none=>simp [aa]
  |some d=>
   obtain⟨h1,cs,h2,h3⟩:=hB.laid g d (hB.qO g d hg);simp only [aa];exact⟨g,0,cs,rfl,h1,h2,h3⟩
 |func f=>
  simp only [ev,aa,Act.eval];exact⟨#[], #[],rfl,by simp [af],by simp [af]⟩
theorem cP.refl(w:World)(A:Nat→Prop):cP w w A A:=fun _ h=>⟨h,rfl⟩
theorem aF.pure(hB:aF C A β st a w) {d:Option Nat}(hd:∀t,d=some t→t<st.n) {c:List Prop} {r:AV} {v:Value}(h:aa w A β v r):
  aF C A β (st.put d {cond:=c,res:=r}) (a.put d v) w:=
 hB.step (out:= {cond:=c,res:=r}) hd (by simp [au]) (by simp [au]) (fun _ _=>rfl) (cP.refl w A) rfl rfl rfl (Nat.le_refl _) (fun _ _ _=>rfl) hB.bound
  (fun b h=> .inl h) (by simp [au]) (by simp [au]) (by simp [au]) (by simp [au]) h
theorem Rel.ku {A:Nat→Prop} {β:Nat→Value}(h:aF C A β st a w):Rel C st a w:=⟨A,β,h⟩
theorem si(b:Bool) {v:Value}:∀(x y:AV),(if b then aa w A β v x else aa w A β v y)→aa w A β v (ym b x y):=by
 intro x y h
 have hb:∀x y p q,qc x=some p→qc y=some q→(if b then aa w A β v x else aa w A β v y)→aa w A β v (.bool (bif b then p else q)):=by
  intro x y p q hx hy h;cases b<;>cases x<;>simp_all [qc,aa]<;>cases y<;>simp_all [aa]
 unfold ym;split
 · split
   · cases b<;>simp_all [aa]
   · simp [aa]
 · cases b<;>simp_all [aa]
 · rename_i r l r' m;cases hc:eP r' r m with
   |none=>simp [aa]
   |some m'=>
    simp only [eP] at hc;split at hc
    · rename_i wo;have :=Ty.jB _ _ wo;subst this;simp only [Option.some.injEq] at hc;subst hc;cases b<;>simp_all
    · cases hc
 · cases b with
   |true=>simpa using h
   |false=>
    simp only [aa,Bool.false_eq_true,if_false] at h;simp only [aa,Rd,cond_false];exact⟨none,0,[],by simpa using h,by simp,by simp,by simp [b9],by simp⟩
 · cases b with
   |false=>simpa using h
   |true=>
    simp only [aa,if_true] at h;simp only [aa,Rd,cond_true];exact⟨none,0,[],by simpa using h,by simp,by simp,by simp [b9],by simp⟩
 · cases b<;>simp_all
 · cases b<;>simp_all
 · rename_i k k';cases hk:Nat.beq k k' with
   |false=>simp [aa]
   |true=>
    have :=Nat.eq_of_beq_eq_true hk;subst this;cases b<;>simp_all
 · split;next p q hx hy=>exact hb _ _ _ _ hx hy h
   next=>simp [aa]
theorem c6:∀(aH:List AV) (vs:List Value),af w A β vs aH→vs.length=aH.length
 | [],vs,h=>by simp only [af] at h;simp [h]
 |a::aH,vs,h=>by
  simp only [af] at h;obtain⟨v,bK,rfl,_,h2⟩:=h;simp [c6 aH bK h2]
theorem gT(b:Bool):∀(xs ys:List AV) (vs:List Value),xs.length=ys.length→(if b then af w A β vs xs else af w A β vs ys)→af w A β vs (mq b xs ys)
 | [],[],vs,_,h=>by simpa [mq] using h
 |x::xs,y::ys,vs,hl,h=>by
  simp only [mq,af];cases b with
  |true=>
   simp only [if_true,af] at h;obtain⟨v,bK,rfl,h1,h2⟩:=h;exact⟨v,bK,rfl,si true x y (by simpa using h1),gT true xs ys bK (by simpa using hl) (by simpa using h2)⟩
  |false=>
   simp only [Bool.false_eq_true,if_false,af] at h;obtain⟨v,bK,rfl,h1,h2⟩:=h;exact⟨v,bK,rfl,si false x y (by simpa using h1),gT false xs ys bK (by simpa using hl) (by simpa using h2)⟩
 | [],_::_,_,hl,_=>by simp at hl
 |_::_,[],_,hl,_=>by simp at hl
theorem wI(b:Bool) {v:Value}(x y:AV)(h:if b then aa w A β v x else aa w A β v y):aa w A β v (yn b x y):=by
 unfold yn;split
 · rename_i xs ys;cases hl:Nat.beq xs.length ys.length with
   |false=>simp [aa]
   |true=>
    have hl:=Nat.eq_of_beq_eq_true hl;simp only [cond_true,aa];cases b with
    |true=>
     simp only [if_true,aa] at h;obtain⟨arr,h1,h2⟩:=h;exact⟨arr,h1,gT true xs ys _ hl (by simpa using h2)⟩
    |false=>
     simp only [Bool.false_eq_true,if_false,aa] at h;obtain⟨arr,h1,h2⟩:=h;exact⟨arr,h1,gT false xs ys _ hl (by simpa using h2)⟩
 · rename_i xs ys;cases hl:Nat.beq xs.length ys.length with
   |false=>simp [aa]
   |true=>
    have hl:=Nat.eq_of_beq_eq_true hl;simp only [cond_true,aa];cases b with
    |true=>
     simp only [if_true,aa] at h;obtain⟨arr,h1,h2⟩:=h;exact⟨arr,h1,gT true xs ys _ hl (by simpa using h2)⟩
    |false=>
     simp only [Bool.false_eq_true,if_false,aa] at h;obtain⟨arr,h1,h2⟩:=h;exact⟨arr,h1,gT false xs ys _ hl (by simpa using h2)⟩
 · exact si b x y h
end
end Go.Vg

end
section
namespace Go.Vg
open Go
section
variable {P:Program} {C:Ctx} {A:Nat→Prop} {β:Nat→Value} {st:St} {a:Act} {w:World} {T:bY}
theorem fT:∀(ts:List Ty) (vs:List Value) (x:Row ts),bk w A ts vs x→vs.length=ts.length
 | [],vs,_,h=>by simp only [bk] at h;simp [h]
 |t::ts,vs,x,h=>by
  simp only [bk] at h;obtain⟨v,bK,rfl,_,h2⟩:=h;simp [fT ts bK _ h2]
theorem eN {row:List Ty}:∀(l:List (Row row)) (cs:List Value),b9 (bk w A row) cs l→cs.length=l.length*row.length
 | [],cs,h=>by simp only [b9] at h;simp [h]
 |x::l,cs,⟨c1,c2,hc,h1,h2⟩=>by
  subst hc;simp [fT row c1 x h1,eN l c2 h2,Nat.add_mul,Nat.add_comm]
theorem o8 {row:List Ty}:∀(l:List (Row row)) (cs:List Value) (i:Nat) (hi:i<l.length),b9 (bk w A row) cs l→
  ∃c1 c c2,cs=c1++(c++c2)∧c1.length=i*row.length∧bk w A row c l[i]∧b9 (bk w A row) c1 (l.take i)∧b9 (bk w A row) c2 (l.drop (i+1))
 | [],_,_,hi,_=>by simp at hi
 |x::l,cs,0,_,⟨c1,c2,hc,h1,h2⟩=>⟨[],c1,c2,by simp [hc],by simp,by simpa using h1,by simp [b9],by simpa using h2⟩
 |x::l,cs,i+1,hi,⟨c1,c2,hc,h1,h2⟩=>by
  obtain⟨d1,d,d2,e1,e2,e3,e4,e5⟩:=o8 l c2 i (by simpa using hi) h2;subst hc;subst e1;exact⟨c1++d1,d,d2,by simp,by simp [e2,fT row c1 x h1,Nat.add_mul,Nat.add_comm],by simpa using e3,⟨c1,d1,rfl,h1,e4⟩,by simpa using e5⟩
theorem gE {α:Type} {R:List Value→α→Prop}:∀(l m:List α) (cs ds:List Value),b9 R cs l→b9 R ds m→b9 R (cs++ds) (l++m)
 | [],m,cs,ds,h,h'=>by simp only [b9] at h;subst h;simpa using h'
 |x::l,m,cs,ds,⟨c1,c2,hc,h1,h2⟩,h'=>by
  subst hc;exact⟨c1,c2++ds,by simp,h1,gE l m c2 ds h2 h'⟩
theorem dV {row:List Ty}:∀(l:List (Row row)) (cs:List Value) (i:Nat),b9 (bk w A row) cs l→
  b9 (bk w A row) (cs.take (i*row.length)) (l.take i)∧b9 (bk w A row) (cs.drop (i*row.length)) (l.drop i)
 | [],cs,i,h=>by simp only [b9] at h;subst h;simp [b9]
 |x::l,cs,0,h=>by simp [b9];exact h
 |x::l,cs,i+1,⟨c1,c2,hc,h1,h2⟩=>by
  subst hc;have hl:=fT row c1 x h1;have ih:=dV l c2 i h2;have e:(i+1)*row.length=c1.length+i*row.length:=by rw [hl,Nat.add_mul];omega
  rw [e];refine⟨⟨c1,c2.take (i*row.length),?_,h1,ih.1⟩,?_⟩
  · rw [List.take_length_add_append]
  · rw [List.drop_length_add_append];simpa using ih.2
theorem sk {b o:Nat} {c1 c c2:List Value}(h:w.rangeAt b o (c1++(c++c2))):w.rangeAt b (o+c1.length) c:=by
 intro j v hj
 have :=h (c1.length+j) v (by
  rw [List.getElem?_append_right (by omega)]
  have :j<c.length:=by
   rcases Nat.lt_or_ge j c.length with h|h
   · exact h
   · rw [List.getElem?_eq_none h] at hj;cases hj
  rw [show c1.length+j-c1.length=j by omega,List.getElem?_append_left this];exact hj)
 rw [←Nat.add_assoc] at this;exact this
theorem mW {b o n:Nat} {cs:List Value}(h:w.rangeAt b o cs):w.rangeAt b (o+n) (cs.drop n):=by
 intro j v hj;have :=h (n+j) v (by simpa using hj);rw [←Nat.add_assoc] at this;exact this
theorem gU {b o n:Nat} {cs:List Value}(h:w.rangeAt b o cs):w.rangeAt b o (cs.take n):=by
 intro j v hj;refine h j v ?_;rw [List.getElem?_take] at hj;split at hj
 · exact hj
 · cases hj
theorem Lg:∀(t:Ty) (v:Value) (x:D t),Rd w A t v x→aa w A β v (yg t x)
 | .int k,v,x,h=>by simpa only [yg,aa,Rd] using h
 | .bool,v,x,h=>by simpa only [yg,aa,Rd] using h
 | .str,v,x,h=>by simpa only [yg,aa,Rd] using h
 | .slice row,v,x,h=>by simpa only [yg,aa] using h
theorem jD:∀(ts:List Ty) (vs:List Value) (x:Row ts),bk w A ts vs x→af w A β vs (fp ts x)
 | [],vs,_,h=>by simpa only [fp,af,bk] using h
 |t::ts,vs,x,h=>by
  simp only [bk] at h;obtain⟨v,bK,rfl,h1,h2⟩:=h;simp only [fp,af];exact⟨v,bK,rfl,Lg t v _ h1,jD ts bK _ h2⟩
theorem lL:∀(ts:List Ty) (x:Row ts),(fp ts x).length=ts.length
 | [],_=>rfl
 |t::ts,x=>by simp [fp,lL ts]
theorem fU:∀(aH:List AV) (vs:List Value) (n:Nat),af w A β vs aH→af w A β (vs.take n) (aH.take n)∧af w A β (vs.drop n) (aH.drop n)
 | [],vs,n,h=>by simp only [af] at h;subst h;simp [af]
 |a::aH,vs,0,h=>by simp [af] at h ⊢;exact h
 |a::aH,vs,n+1,h=>by
  simp only [af] at h;obtain⟨v,bK,rfl,h1,h2⟩:=h;have ih:=fU aH bK n h2;simp only [List.take_succ_cons,List.drop_succ_cons,af];exact⟨⟨v,_,rfl,h1,ih.1⟩,ih.2⟩
theorem qe:∀(aH:List AV) (vs:List Value) (i:Nat) (r:AV),af w A β vs aH→aH[i]? =some r→∃v,vs[i]? =some v∧aa w A β v r
 | [],vs,i,r,h,hr=>by simp at hr
 |a::aH,vs,0,r,h,hr=>by
  simp only [af] at h;obtain⟨v,bK,rfl,h1,h2⟩:=h;simp at hr;subst hr;exact⟨v,by simp,h1⟩
 |a::aH,vs,i+1,r,h,hr=>by
  simp only [af] at h;obtain⟨v,bK,rfl,h1,h2⟩:=h;obtain⟨u,hu,lE⟩:=qe aH bK i r h2 (by simpa using hr);exact⟨u,by simpa using hu,lE⟩
theorem Gt(d:TypeDesc):d.jW=d.isRow:=by cases d<;>rfl
theorem lf(hT:bx T P) {t:TypeId} {te:TE}(ht:T.find t=some te) {cs:List Value} {aH:List AV}(hrel:af w A β cs aH) {off:Nat} {r:AV}(hp:pick te aH off=some r)
  {b o:Nat} (hr:w.rangeAt b o cs):∃v,(Instr.loadAt t (.pointer (some ⟨b,o+off,none⟩))).run P w= .ok v w∧aa w A β v r:=by
 obtain⟨hu,i,hi,hs,_,_⟩:=hT.ok t te ht;unfold pick at hp;cases G3:te.desc.jW with
 |true=>
  simp only [G3,cond_true] at hp;cases hle:Nat.ble (off+te.size) aH.length with
  |false=>simp [hle] at hp
  |true=>
   have hle:=Nat.le_of_ble_eq_true hle;simp only [hle,Nat.ble_eq_true_of_le,cond_true,Option.some.injEq] at hp;subst hp;have hlen:=c6 aH cs hrel;refine⟨.agg ((cs.drop off).take te.size).toArray,?_,?_⟩
   · refine run_loadAt_mid w b (o+off) t ((cs.drop off).take te.size) te.desc (gU (mW hr)) hu (by rw [←Gt];exact G3) ?_;rw [hi];simp only [Option.map_some,List.length_take,List.length_drop,hs,Option.some.injEq];omega
   · simp only [aa];exact⟨_,rfl,by simpa using(fU _ _ te.size ((fU aH cs off hrel).2)).1⟩
 |false=>
  simp only [G3,cond_false] at hp;obtain⟨v,hv,hrv⟩:=qe aH cs off r hrel hp;refine⟨v,?_,hrv⟩;have hc:=hr off v hv
  have Wf:(isAgg t).run P w= .ok false w:=by
   unfold isAgg;rw [Sem.run_bind,run_underlying hu w];cases hd:te.desc<;>simp_all [TypeDesc.jW]
  simp [Instr.loadAt,Instr.sureAddr,loadVar,Wf,hc]
theorem eB(hT:bx T P) {t:TypeId} {n:Nat}(h:br T t n=true):∃e i,P.underlying t=some (.slice e)∧P.info? e=some i∧i.size=n∧0<n:=by
 unfold br qa at h;cases ht:T.find t with
 |none=>simp [ht] at h
 |some te=>
  simp only [ht] at h;cases hd:te.desc with
  |slice e=>
   simp only [hd] at h;cases he:T.find e with
   |none=>simp [he] at h
   |some ee=>
    simp only [he,Bool.and_eq_true] at h;obtain⟨_,i,hi,hs,_⟩:=hT.ok e ee he;exact⟨e,i,by rw [(hT.ok t te ht).1,hd],hi,hs.trans (Nat.eq_of_beq_eq_true h.1),by have :=Nat.le_of_ble_eq_true h.2;omega⟩
  |_=>simp [hd] at h
theorem run_indexAt {t:TypeId} {e:TypeId} {i:TypeInfo}(hu:P.underlying t=some (.slice e))(hi:P.info? e=some i)(b o len cap:Nat)(k:IntKind)(n:Int)(h0:0≤n)(h1:n<(len:Int)):
  (Instr.indexAt t (.slice (some ⟨b,o,none⟩) len cap) (.int k n)).run P w= .ok (.pointer (some ⟨b,o+n.toNat*i.size,none⟩)) w:=by
 simp [Instr.indexAt,asIntOf,run_underlying hu,sizeOf,typeInfo,hi,h0,h1,Addr.add_mid]
theorem G4(hT:bx T P) {t:TypeId} {n sz:Nat}(h:CS T t=some (n,sz)):∃e i,P.underlying t=some (.array n e)∧P.info? e=some i∧i.size=sz:=by
 unfold CS at h;split at h
 · rename_i te kv;obtain⟨hu,_⟩:=hT.ok t te kv;split at h
   · rename_i k e hd;split at h
     · rename_i ee o9;obtain⟨_,i,hi,hs,_⟩:=hT.ok e ee o9;cases hb:Nat.blt 0 ee.size with
       |false=>rw [hb] at h;cases h
       |true=>
        rw [hb] at h;simp only [cond_true,Option.some.injEq,Prod.mk.injEq] at h;obtain⟨rfl,rfl⟩:=h;exact⟨e,i,by rw [hu,hd],hi,hs⟩
     · cases h
   · cases h
 · cases h
theorem wJ {t:TypeId} {e:TypeId} {i:TypeInfo} {len:Nat}(hu:P.underlying t=some (.array len e))(hi:P.info? e=some i)(b o:Nat)(k:IntKind)(n:Int)(h0:0≤n)(h1:n<(len:Int)):
  (Instr.indexAt t (.pointer (some ⟨b,o,none⟩)) (.int k n)).run P w= .ok (.pointer (some ⟨b,o+n.toNat*i.size,none⟩)) w:=by
 simp [Instr.indexAt,Instr.sureAddr,asIntOf,run_underlying hu,sizeOf,typeInfo,hi,h0,h1,Addr.add_mid]
theorem tK:∀(xs ys:List AV) (us vs:List Value),af w A β us xs→af w A β vs ys→af w A β (us++vs) (xs++ys)
 | [],ys,us,vs,h,g=>by
   simp only [af] at h;subst h;simpa using g
 |a::aH,ys,us,vs,h,g=>by
  simp only [af] at h;obtain⟨v,xo,rfl,h1,h2⟩:=h;simp only [List.cons_append,af];exact⟨v,xo++vs,rfl,h1,tK aH ys xo vs h2 g⟩
theorem G5(row:List Ty):∀(l:List (Row row)) (cs:List Value),b9 (bk w A row) cs l→af w A β cs (l.flatMap (fp row))
 | [],cs,h=>by simp only [b9] at h;subst h;simp [af]
 |x::l,cs,⟨c1,c2,hc,h1,h2⟩=>by
  subst hc;rw [List.flatMap_cons];exact tK _ _ _ _ (jD row c1 x h1) (G5 row l c2 h2)
theorem getD_eq {α:Type}(l:List α)(i:Nat)(d:α)(h:i<l.length):l.getD i d=l[i]:=by
 simp [List.getD,List.getElem?_eq_getElem h]
theorem G6(row:List Ty)(l:List (Row row))(v:Value)(n:Int)(hR:Rd w A (.slice row) v l)(h0:0≤n)(h1:n<(l.length:Int)):
  row≠ []→∃b o cap,v= .slice (some ⟨b,o,none⟩) l.length cap∧aa w A β (.pointer (some ⟨b,o+n.toNat*row.length,none⟩)) (.gd row (l.getD n.toNat (Row.zero row)) 0):=by
 intro ko;simp only [Rd] at hR;obtain⟨a,cap,cs,hv,_,_,hL,dc⟩:=hR;have hn:n.toNat<l.length:=by omega
 obtain⟨c1,c,c2,e1,e2,e3,_,_⟩:=o8 l cs n.toNat hn hL;have hc:=fT row c _ e3
 have dD:cs≠ []:=by
  intro h;rw [h] at e1;have :=congrArg List.length e1;simp at this;exact ko (List.eq_nil_of_length_eq_zero (by omega))
 obtain⟨b,o,ha,hA,Ut⟩:=dc dD;refine⟨b,o,cap,by rw [hv,ha],?_⟩;simp only [aa];refine⟨b,o+n.toNat*row.length,c,by simp,hA,?_,?_⟩
 · rw [e1] at Ut;have :=sk Ut;rwa [e2] at this
 · rw [getD_eq l _ _ hn];exact e3
theorem qf(T:bY)(h:aS)(t:TypeId)(n:Option Int)(x y:AV):oZ T h t n x y=ez T h t x y:=by
 unfold oZ;split
 · rename_i n k off kd i;split
   · rename_i m sz hm;split
     · rename_i hn;subst hn;simp only [ez,hm,G2]
     · rfl
   · rename_i hm;simp only [ez,hm]
 · rfl
theorem dL {x:Prop} {l:List Prop}(h:∀p∈(x::l),p):x:=h _ (List.Mem.head _)
theorem ahO {x y:Prop} {l:List Prop}(h:∀p∈(x::y::l),p):y:=h _ (List.Mem.tail _ (List.Mem.head _))
def Out.quiet(out:Out):Prop :=out.gw= []∧out.del= []∧out.new= []
theorem aF.quiet(hB:aF C A β st a w) {d:Option Nat}(hd:∀t,d=some t→t<st.n) {out:Out}(hq:out.quiet) {v:Value}(h:aa w A β v out.res):
  aF C A β (st.put d out) (a.put d v) w:=by
 obtain⟨c,r,u,dl,nw,rw'⟩:=out;obtain⟨h1,h2,h3⟩:=hq;simp only at h1 h2 h3;subst h1 h2 h3;exact hB.pure (c:=c) hd h
def Reads(P:Program)(A:Nat→Prop)(β:Nat→Value)(w:World)(s:Sem Value)(out:Out):Prop :=out.quiet∧∃v,s.run P w= .ok v w∧aa w A β v out.res
theorem eC(hB:aF C A β st a w) {k e:Nat} {row:List Ty} {l:List (Row row)} {fr:Bool}(h:st.h k=some (.row e row l fr)):
  (β k= .slice none 0 0∧l= [])∨∃b cap cur,β k= .slice (some ⟨b,0,none⟩) l.length cap∧w.heap[b]? =some (.cells cur e (0,0))∧l.length≤cap∧cap≤maxLen∧cur.size=cap*row.length∧
    b9 (bk w A row) (cur.toList.take (l.length*row.length)) l∧(if fr then A b else ¬A b):=by
 obtain⟨xs,h1,h2,h3⟩:=hB.blocks k _ h;rcases h1.2 with⟨hv,hn⟩|⟨g,cap,cur,hv,_,hg,h4,h5,h6,h7⟩
 · exact .inl ⟨hv,List.eq_nil_of_length_eq_zero hn⟩
 · exact .inr ⟨g,cap,cur,hv,hg,h4,h5,h6,by rw [h7];exact h2,h3 g (by rw [hv];rfl)⟩
theorem z7(hT:bx T P)(hB:aF C A β st a w) {t:TypeId} {x i:AV} {vx vi:Value}(hx:aa w A β vx x)(hi:aa w A β vi i) {out:Out}
  (h:ez T st.h t x i=some out) (hc:∀p∈out.cond,p):Reads P A β w (Instr.indexAt t vx vi) out:=by
 unfold ez at h;split at h
 · rename_i row l k n;cases hs:br T t row.length with
   |false=>simp [hs] at h
   |true=>
    simp only [hs,cond_true,Option.some.injEq] at h;subst h;obtain⟨h0,h1⟩:=dL hc;obtain⟨e,ii,hu,hU,cU,iJ⟩:=eB hT hs;simp only [aa] at hx hi;obtain⟨b,o,cap,hv,hr⟩:=G6 (β:=β) row l vx n hx h0 h1 (by intro hh;rw [hh] at iJ;simp at iJ);refine⟨⟨rfl,rfl,rfl⟩,_,?_,hr⟩;rw [hv,hi.1,run_indexAt hu hU b o l.length cap k n h0 h1,cU]
 · rename_i row l k n;cases hs:br T t row.length with
   |false=>simp [hs] at h
   |true=>
    simp only [hs,cond_true,Option.some.injEq] at h;subst h;obtain⟨h0,h1⟩:=dL hc;obtain⟨e,ii,hu,hU,cU,iJ⟩:=eB hT hs;simp only [aa] at hx hi;obtain⟨b,o,cap,hv,hr⟩:=G6 (β:=β) row l vx n hx.1 h0 h1 (by intro hh;rw [hh] at iJ;simp at iJ);refine⟨⟨rfl,rfl,rfl⟩,_,?_,hr⟩;rw [hv,hi.1,run_indexAt hu hU b o l.length cap k n h0 h1,cU]
 · rename_i k kk n;split at h
   · rename_i e' row l fr hk;cases hs:br T t row.length with
     |false=>simp [hs] at h
     |true=>
      simp only [hs,cond_true,Option.some.injEq] at h;subst h;obtain⟨h0,h1⟩:=dL hc;obtain⟨e,ii,hu,hU,cU,iJ⟩:=eB hT hs;simp only [aa] at hx hi;rcases eC hB hk with⟨_,hl⟩|⟨b,cap,cur,hv,_⟩
      · subst hl;simp at h1;omega
      · refine⟨⟨rfl,rfl,rfl⟩, .pointer (some ⟨b,0+n.toNat*row.length,none⟩),?_,?_⟩
        · rw [hx.1,hv,hi.1,run_indexAt hu hU b 0 l.length cap kk n h0 h1,cU]
        · simp only [aa];exact⟨b,_,cap,hv,by simp⟩
   · cases h
 · rename_i k m kk n;split at h
   · rename_i e' row l fr hk;cases hs:br T t row.length with
     |false=>simp [hs] at h
     |true=>
      simp only [hs,cond_true,Option.some.injEq] at h;subst h;obtain⟨h0,h1⟩:=dL hc;obtain⟨e,ii,hu,hU,cU,iJ⟩:=eB hT hs;simp only [aa] at hx hi;rcases hx with⟨_,_,hl⟩|⟨b,mm,cap,hv,xp,_⟩
      · subst hl;omega
      · refine⟨⟨rfl,rfl,rfl⟩, .pointer (some ⟨b,0+n.toNat*row.length,none⟩),?_,?_⟩
        · rw [xp,hi.1,run_indexAt hu hU b 0 m cap kk n h0 h1,cU]
        · simp only [aa];exact⟨b,_,cap,hv,by simp⟩
   · cases h
 · rename_i k sz off m kk n;cases hs:br T t sz with
   |false=>simp [hs] at h
   |true=>
    simp only [hs,cond_true,Option.some.injEq] at h;subst h;obtain⟨h0,h1⟩:=dL hc;obtain⟨e,ii,hu,hU,cU,iJ⟩:=eB hT hs;simp only [aa] at hx hi;rcases hx with⟨hm,_⟩|⟨b,mm,cap,im,hv,xp,_⟩
    · subst hm;omega
    · refine⟨⟨rfl,rfl,rfl⟩, .pointer (some ⟨b,off*sz+n.toNat*sz,none⟩),?_,?_⟩
      · rw [xp,hi.1,run_indexAt hu hU b (off*sz) m im kk n h0 h1,cU]
      · simp only [aa];exact⟨b,_,cap,hv,by simp [Nat.add_mul]⟩
 · rename_i row l k n;split at h
   · rename_i m sz ha;cases hb:Nat.beq sz row.length with
     |false=>rw [hb] at h;cases h
     |true=>
      rw [hb] at h;simp only [cond_true,Option.some.injEq] at h;subst h;have hm:=dL hc;have hz:=Nat.eq_of_beq_eq_true hb;obtain⟨h0,h1⟩:=ahO hc;obtain⟨e,ii,hu,hU,cU⟩:=G4 hT ha;simp only [aa] at hx hi;obtain⟨b,o,cs,rfl,hA,hr,hL⟩:=hx;have hn:n.toNat<l.length:=by omega
      obtain⟨c1,c,c2,e1,e2,e3,_,_⟩:=o8 l cs n.toNat hn hL;refine⟨⟨rfl,rfl,rfl⟩, .pointer (some ⟨b,o+n.toNat*row.length,none⟩),?_,?_⟩
      · rw [hi.1,wJ hu hU b o k n h0 (by rw [hm];exact h1),cU,hz]
      · simp only [aa];refine⟨b,o+n.toNat*row.length,c,by simp,hA,?_,?_⟩
        · rw [e1] at hr;have :=sk hr;rwa [e2] at this
        · rw [getD_eq l _ _ hn];exact e3
   · cases h
 · rename_i k off kk n;split at h
   · rename_i m sz ha;simp only [Option.some.injEq] at h;subst h;obtain⟨h0,h1⟩:=dL hc;obtain⟨e,ii,hu,hU,cU⟩:=G4 hT ha;simp only [aa] at hx hi;obtain⟨b,bZ,rfl⟩:=hx;refine⟨⟨rfl,rfl,rfl⟩, .pointer (some ⟨b,off+n.toNat*sz,none⟩),?_,?_⟩
     · rw [hi.1,wJ hu hU b off kk n h0 h1,cU]
     · simp only [aa];exact⟨b,bZ,rfl⟩
   · cases h
 · cases h
theorem Be(hT:bx T P)(hB:aF C A β st a w) {t:TypeId} {x:AV} {vx:Value}(hx:aa w A β vx x) {out:Out}
  (h:ny T st.h t x=some out) (hc:∀p∈out.cond,p):Reads P A β w (Instr.loadAt t vx) out:=by
 unfold ny at h;split at h
 · rename_i row x j;split at h
   · rename_i te ht;split at h
     · rename_i r hp;simp only [Option.some.injEq] at h;subst h;simp only [aa] at hx;obtain⟨b,o,cs,rfl,hA,hr,hv⟩:=hx;obtain⟨v,h1,h2⟩:=lf (β:=β) hT ht (jD row cs x hv) hp hr;exact⟨⟨rfl,rfl,rfl⟩,v,h1,h2⟩
     · cases h
   · cases h
 · rename_i row l;split at h
   · rename_i te ht;split at h
     · rename_i r hp;simp only [Option.some.injEq] at h;subst h;simp only [aa] at hx;obtain⟨b,o,cs,rfl,hA,hr,hv⟩:=hx;obtain⟨v,h1,h2⟩:=lf (β:=β) hT ht (G5 row l cs hv) hp hr;exact⟨⟨rfl,rfl,rfl⟩,v,by simpa using h1,h2⟩
     · cases h
   · cases h
 · rename_i k off;split at h
   · rename_i te cs ht hk;split at h
     · rename_i r hp;simp only [Option.some.injEq] at h;subst h;simp only [aa] at hx;obtain⟨b,bZ,rfl⟩:=hx;obtain⟨b',arr,e,h1,h2,_,h4,_⟩:=hB.blocks k _ hk;rw [bZ] at h1;simp only [Value.pointer.injEq,Option.some.injEq,Addr.mk.injEq,and_true] at h1;subst h1
       have hr:w.rangeAt b 0 arr.toList:=fun j v hj=>by
        simp [World.cell?,h2];simpa using hj
       obtain⟨v,g1,g2⟩:=lf (β:=β) hT ht h4 hp hr;exact⟨⟨rfl,rfl,rfl⟩,v,by simpa using g1,g2⟩
     · cases h
   · cases h
 · rename_i k sz i j;split at h
   · rename_i te e row l fr ht hk;cases cU:Nat.beq sz row.length with
     |false=>simp [cU] at h
     |true=>
      have cU:=Nat.eq_of_beq_eq_true cU;subst cU;simp only [bG,cond_true] at h;split at h
      · rename_i r hp;simp only [Option.some.injEq] at h;subst h;have hi:i<l.length:=dL hc;simp only [aa] at hx;obtain⟨b,m,cap,bZ,rfl⟩:=hx;rcases eC hB hk with⟨_,hl⟩|⟨b',im,cur,hv,hg,_,_,dc,hL,_⟩
        · subst hl;simp at hi
        · rw [bZ] at hv;simp only [Value.slice.injEq,Option.some.injEq,Addr.mk.injEq,and_true] at hv;obtain⟨hbb,_,_⟩:=hv;subst hbb;obtain⟨c1,c,c2,e1,e2,e3,_,_⟩:=o8 l _ i hi hL
          have hr:w.rangeAt b 0 (cur.toList.take (l.length*row.length)):=fun j v hj=>by
           rw [List.getElem?_take] at hj;split at hj
           · simp [World.cell?,hg];simpa using hj
           · cases hj
          rw [e1] at hr;have hr:=sk hr;rw [e2] at hr;rw [getD_eq l _ _ hi] at hp;obtain⟨v,g1,g2⟩:=lf (β:=β) hT ht (jD row c _ e3) hp hr;exact⟨⟨rfl,rfl,rfl⟩,v,by simpa using g1,g2⟩
      · cases h
   · cases h
 · cases h
end
end Go.Vg

end
section
namespace Go.Vg
open Go
section
variable {P:Program} {C:Ctx} {A:Nat→Prop} {β:Nat→Value} {st:St} {a:Act} {w:World} {T:bY}
theorem Bf(hT:bx T P) {s:TypeId} {f:Nat} {ft o:Nat}(h:yi T s f=some (ft,o)):∃fs fd,P.underlying s=some (.struct fs)∧fs[f]? =some fd∧fd.type=ft∧fd.offset=o:=by
 unfold yi at h;cases ht:T.find s with
 |none=>simp [ht] at h
 |some te=>
  simp only [ht] at h;cases hd:te.desc with
  |struct fs=>
   simp only [hd] at h;cases hf:fs[f]? with
   |none=>simp [hf] at h
   |some fd=>
    simp only [hf,Option.some.injEq,Prod.mk.injEq] at h;exact⟨fs,fd,by rw [(hT.ok s te ht).1,hd],hf,h.1,h.2⟩
  |_=>simp [hd] at h
theorem Lh(hT:bx T P) {t:TypeId}(h:yj T t=true):∃i,P.info? t=some i∧i.size≠0:=by
 unfold yj at h;cases ht:T.find t with
 |none=>simp [ht] at h
 |some te=>
  simp only [ht] at h;obtain⟨_,i,hi,hs,_⟩:=hT.ok t te ht;have :=Nat.le_of_ble_eq_true h;exact⟨i,hi,by omega⟩
theorem sm {s f:Nat} {fs:Array Field} {fd:Field} {i:TypeInfo}(hu:P.underlying s=some (.struct fs))(hf:fs[f]? =some fd)(hi:P.info? fd.type=some i)(hs:i.size≠0)(b o:Nat):
  (Instr.fieldAt s (.pointer (some ⟨b,o,none⟩)) f).run P w= .ok (.pointer (some ⟨b,o+fd.offset,none⟩)) w:=by
 simp [Instr.fieldAt,run_underlying hu,hf,Instr.sureAddr,fieldPlace,sizeOf,typeInfo,hi,hs,Addr.add_mid]
theorem z8(hT:bx T P) {s f:Nat} {x:AV} {vx:Value}(hx:aa w A β vx x) {out:Out}
  (h:qM T s f x=some out):Reads P A β w (Instr.fieldAt s vx f) out:=by
 unfold qM at h;split at h
 · rename_i ft o hf;obtain⟨fs,fd,hu,Wg,e1,e2⟩:=Bf hT hf;cases hs:yj T ft with
   |false=>simp [hs] at h
   |true=>
    simp only [hs,cond_true] at h;obtain⟨i,hi,dD⟩:=Lh hT hs;rw [←e1] at hi;split at h
    · simp only [Option.some.injEq] at h;subst h;simp only [aa] at hx;obtain⟨b,h1,rfl⟩:=hx;refine⟨⟨rfl,rfl,rfl⟩,_,sm hu Wg hi dD b _,?_⟩;simp only [aa];exact⟨b,h1,by rw [e2]⟩
    · simp only [Option.some.injEq] at h;subst h;simp only [aa] at hx;obtain⟨b,oo,cs,rfl,h2,h3,h4⟩:=hx;refine⟨⟨rfl,rfl,rfl⟩,_,sm hu Wg hi dD b _,?_⟩;simp only [aa];exact⟨b,oo,cs,by rw [e2,Nat.add_assoc],h2,h3,h4⟩
    · simp only [Option.some.injEq] at h;subst h;simp only [aa] at hx;obtain⟨b,m,cap,h1,rfl⟩:=hx;refine⟨⟨rfl,rfl,rfl⟩,_,sm hu Wg hi dD b _,?_⟩;simp only [aa];exact⟨b,m,cap,h1,by rw [e2,Nat.add_assoc]⟩
    · cases h
 · cases h
theorem rz {t:TypeId} {te:TE}(hT:bx T P)(ht:T.find t=some te) {arr:Array Value} {cs:List AV} {off:Nat} {r:AV}(hrel:af w A β arr.toList cs)(hp:pick te cs off=some r):
  ∃v,(part t arr off).run P w= .ok v w∧aa w A β v r:=by
 obtain⟨hu,i,hi,hs,_,_⟩:=hT.ok t te ht;unfold pick at hp;cases G3:te.desc.jW with
 |true=>
  simp only [G3,cond_true] at hp;cases hle:Nat.ble (off+te.size) cs.length with
  |false=>simp [hle] at hp
  |true=>
   have hle:=Nat.le_of_ble_eq_true hle;simp only [hle,Nat.ble_eq_true_of_le,cond_true,Option.some.injEq] at hp;subst hp;have hlen:=c6 cs _ hrel
   have Wf:(isAgg t).run P w= .ok true w:=by
    unfold isAgg;rw [Sem.run_bind,run_underlying hu w];cases hd:te.desc<;>simp_all [TypeDesc.jW]
   refine⟨.agg (arr.extract off (off+te.size)),?_,?_⟩
   · simp [part,Wf,sizeOf,typeInfo,hi,hs]
   · simp only [aa];refine⟨_,rfl,?_⟩;have :=(fU _ _ te.size ((fU cs _ off hrel).2)).1;rw [Array.toList_extract];simpa [List.extract] using this
 |false=>
  simp only [G3,cond_false] at hp;obtain⟨v,hv,hrv⟩:=qe cs _ off r hrel hp
  have Wf:(isAgg t).run P w= .ok false w:=by
   unfold isAgg;rw [Sem.run_bind,run_underlying hu w];cases hd:te.desc<;>simp_all [TypeDesc.jW]
  refine⟨v,?_,hrv⟩;have :arr[off]? =some v:=by simpa using hv
  simp [part,Wf,this]
theorem NR(hB:aF C A β st a w) {x:AV} {vx:Value}(hx:aa w A β vx x) {n:Int}(h:zW st.h x=some n):
  (∃ad l c,vx= .slice ad l c∧n=(l:Int)∧l≤maxLen)∨(∃s,x= .str s∧n=(s.length:Int)):=by
 unfold zW at h;split at h
 · rename_i s;simp only [Option.some.injEq] at h;exact .inr ⟨s,rfl,h.symm⟩
 · simp only [Option.some.injEq] at h;simp only [aa,Rd] at hx;obtain⟨ad,cap,cs,h1,h2,h3,_⟩:=hx;exact .inl ⟨ad,_,cap,h1,h.symm,by omega⟩
 · simp only [Option.some.injEq] at h;simp only [aa,Rd] at hx;obtain⟨⟨ad,cap,cs,h1,h2,h3,_⟩,_⟩:=hx;exact .inl ⟨ad,_,cap,h1,h.symm,by omega⟩
 · simp only [Option.some.injEq] at h;simp only [aa] at hx;exact .inl ⟨none,0,0,hx,by simpa using h.symm,by simp⟩
 · rename_i k;split at h
   · rename_i e row l fr hk;simp only [Option.some.injEq] at h;simp only [aa] at hx;rcases eC hB hk with⟨hv,hl⟩|⟨b,cap,cur,hv,hg,h4,h5,_⟩
     · subst hl;exact .inl ⟨none,0,0,hx.1.trans hv,by simpa using h.symm,by simp⟩
     · exact .inl ⟨_,_,_,hx.1.trans hv,h.symm,by omega⟩
   · cases h
 · rename_i k m;split at h
   · rename_i e row l fr hk;simp only [Option.some.injEq] at h;simp only [aa] at hx;rcases hx with⟨_,hv,hm⟩|⟨b,mm,cap,hv,xp,hle⟩
     · subst hm;exact .inl ⟨none,0,0,hv,by simpa using h.symm,by simp⟩
     · rcases eC hB hk with⟨hw,_⟩|⟨b',im,cur,hw,hg,h4,h5,_⟩
       · rw [hv] at hw;cases hw
       · rw [hv] at hw;simp only [Value.slice.injEq] at hw;exact .inl ⟨_,_,_,xp,h.symm,by omega⟩
   · cases h
 · rename_i k sz off m;split at h
   · rename_i e row l fr hk;simp only [Option.some.injEq] at h;simp only [aa] at hx;rcases hx with⟨hm,ad,cap,hv,_⟩|⟨b,mm,cap,im,hv,xp,hle,arv⟩
     · subst hm;exact .inl ⟨ad,0,cap,hv,by simpa using h.symm,by simp⟩
     · rcases eC hB hk with⟨hw,_⟩|⟨b',tL,cur,hw,hg,h4,h5,_⟩
       · rw [hv] at hw;cases hw
       · rw [hv] at hw;simp only [Value.slice.injEq] at hw;exact .inl ⟨_,_,_,xp,h.symm,by omega⟩
   · cases h
 · cases h
theorem tM {k:IntKind} {n:Int}(h:lo k≤n∧n≤hi k):k.wrap n=n:=by
 cases k<;>simp [lo,hi] at h<;>simp [IntKind.wrap,IntKind.signed,IntKind.bits]<;>omega
theorem NS {k:IntKind} {n c:Int}(h:mf k=some c):k.wrap n=n%c:=by
 cases k<;>simp [mf] at h<;>subst h<;>simp [IntKind.wrap,IntKind.signed,IntKind.bits]
theorem Li {k:IntKind} {n c:Int}(h:mf k=some c):lo k≤n%c∧n%c≤hi k:=by
 cases k<;>simp [mf] at h<;>subst h<;>simp [lo,hi]<;>omega
theorem mr {k:IntKind} {cs:List Prop} {n:Int} {out:Out}(h:qb k cs n=some out)(hc:∀p∈out.cond,p):
  out.quiet∧aa w A β (.int k (k.wrap n)) out.res∧∀p∈cs,p:=by
 unfold qb at h;simp only [Option.some.injEq] at h;subst h;unfold fit at hc ⊢;cases hk:mf k with
 |none=>
  simp only [hk] at hc ⊢;have hr:=hc (lo k≤n∧n≤hi k) (by simp);refine⟨⟨rfl,rfl,rfl⟩,?_,fun p hp=>hc p (by simp [hp])⟩;rw [tM hr];simp only [aa];exact⟨trivial,hr⟩
 |some c=>
  simp only [hk] at hc ⊢;refine⟨⟨rfl,rfl,rfl⟩,?_,fun p hp=>hc p (by simp [hp])⟩;rw [NS hk];simp only [aa];exact⟨trivial,Li hk⟩
theorem Aa {op:BinOp} {t:TypeId} {x y:Operand} {k k':IntKind} {n m:Int}:(eqGuard op t x y (.int k n) (.int k' m)).run P w= .ok () w:=by
 unfold eqGuard;cases op<;>rfl
theorem Ab {op:BinOp} {t:TypeId} {x y:Operand} {s u:ByteArray}:(eqGuard op t x y (.string s) (.string u)).run P w= .ok () w:=by
 unfold eqGuard;cases op<;>rfl
theorem xq {op:BinOp} {t:TypeId} {x y:Operand} {p q:Option Addr} {n m n' m':Nat}:(eqGuard op t x y (.slice p n m) (.slice q n' m')).run P w= .ok () w:=by
 unfold eqGuard;cases op<;>rfl
theorem Ac(w:World)(d:Nat)(t e:TypeId)(a:Option Addr)(n c n' c':Nat)(h:P.underlying t=some (.slice e)):
  (Op.equalIn (d+1) t (.slice a n c) (.slice none n' c')).run P w= .ok a.isNone w:=by
 cases a<;>simp [Op.equalIn,run_underlying h]
theorem JG(w:World)(t e:TypeId)(a:Option Addr)(n c n' c':Nat)(h:P.underlying t=some (.slice e)):
  (binOp .eql t (.slice a n c) (.slice none n' c')).run P w= .ok (.bool a.isNone) w:=by
 simp only [binOp];simp [Op.equal,Op.maxDepth,Ac w 9999 t e a n c n' c' h]
theorem yy {op:BinOp} {t:TypeId} {x y:Operand} {s u:Bool}:(eqGuard op t x y (.bool s) (.bool u)).run P w= .ok () w:=by
 unfold eqGuard;cases op<;>rfl
theorem nC {k:IntKind} {n:Int}(hr:lo k≤n)(h:∀p∈wG k n,p):0≤n:=by
 unfold wG at h;cases hc:mf k with
 |none=>simp only [hc] at h;exact h _ (by simp)
 |some c=>cases k<;>simp [mf] at hc<;>simpa [lo] using hr
def kH:IntKind→Nat
 | .i8=>7| .i16=>15| .i32=>31| .i64=>63| .u8=>8| .u16=>16| .u32=>32| .u64=>64
theorem toNat_lt {k:IntKind} {n:Int}(h0:0≤n)(h:n≤hi k):n.toNat<2^kH k:=by
 cases k<;>simp [hi] at h<;>simp [kH]<;>omega
theorem Uu {k:IntKind} {n:Nat}(h:n<2^kH k):lo k≤(n:Int)∧(n:Int)≤hi k:=by
 cases k<;>simp [kH] at h<;>simp [lo,hi]<;>omega
theorem ov {k:IntKind} {n:Int}(h0:0≤n)(h:n≤hi k):(BitVec.ofInt k.bits n).toNat=n.toNat:=by
 rw [BitVec.toNat_ofInt];congr 1
 cases k<;>simp [hi] at h<;>simp [IntKind.bits]<;>omega
theorem C1 {k:IntKind} {n m:Int}(f:Nat→Nat→Nat)(g:BitVec k.bits→BitVec k.bits→BitVec k.bits)(hfg:∀x y,(g x y).toNat=f x.toNat y.toNat)
  (hf:∀a b,a<2^kH k→b<2^kH k→f a b<2^kH k) (hn:lo k≤n∧n≤hi k) (hm:lo k≤m∧m≤hi k) (h0:0≤n) (h1:0≤m):
  k.wrap ((g (BitVec.ofInt k.bits n) (BitVec.ofInt k.bits m)).toNat:Int)=(f n.toNat m.toNat:Int)∧lo k≤(f n.toNat m.toNat:Int)∧(f n.toNat m.toNat:Int)≤hi k:=by
 rw [hfg,ov h0 hn.2,ov h1 hm.2];have :=Uu (hf _ _ (toNat_lt h0 hn.2) (toNat_lt h1 hm.2));exact⟨tM this,this⟩
theorem wK(s:List UInt8):(⟨s.toArray⟩:ByteArray).toList=s:=by
 rw [ByteArray.toList_eq]
theorem rA(s:List UInt8):(⟨s.toArray⟩:ByteArray).size=s.length:=by simp [ByteArray.size]
theorem NT(s u:List UInt8):(⟨s.toArray⟩:ByteArray)++⟨u.toArray⟩=⟨(s++u).toArray⟩:=by
 apply ByteArray.ext;simp [ByteArray.data_append]
theorem C2 {x:AV} {v:Value} {p:Bool}(hx:aa w A β v x)(h:qc x=some p):v= .bool p:=by cases x<;>simp_all [qc,aa]
theorem G7 {d:Nat} {E:TypeId→AV→AV→Option Bool}(hT:bx T P)(hE:∀t x y v u r,aa w A β v x→aa w A β u y→E t x y=some r→(Op.equalIn d t v u).run P w= .ok r w)
  {arr Uv:Array Value} {xs ys:List AV} (hx:af w A β arr.toList xs) (hy:af w A β Uv.toList ys):∀(fs:List Field) (r:Bool),(fs.all fun f=>f.name != "_")=true→CU T E xs ys fs=some r→(Op.eqFields d arr Uv fs).run P w= .ok r w
 | [],r,_,h=>by simp only [CU,Option.some.injEq] at h;subst h;simp [Op.eqFields]
 |f::fs,r,hn,h=>by
  simp only [List.all_cons,Bool.and_eq_true] at hn;have Uw:f.name≠ "_":=by simpa using hn.1
  simp only [CU] at h;cases hf:T.find f.type with
  |none=>simp [hf] at h
  |some te=>
   simp only [hf] at h;cases ha:pick te xs f.offset with
   |none=>simp [ha] at h
   |some a=>cases hb:pick te ys f.offset with
    |none=>simp [ha,hb] at h
    |some b=>
     simp only [ha,hb] at h;cases he:E f.type a b with
     |none=>simp [he] at h
     |some q=>cases hr:CU T E xs ys fs with
      |none=>simp [he,hr] at h
      |some q'=>
       simp only [he,hr,Option.some.injEq] at h;subst h;obtain⟨va,a1,a2⟩:=rz hT hf hx ha;obtain⟨vb,b1,b2⟩:=rz hT hf hy hb;have e1:=hE _ _ _ _ _ _ a2 b2 he;have e2:=G7 hT hE hx hy fs q' hn.2 hr;simp only [Op.eqFields,Uw,ne_eq,not_false_eq_true,if_true,Sem.run_bind,a1,b1,e1,Result.andThen_ok];cases fs with
       |nil=>
        simp only [CU,Option.some.injEq] at hr;subst hr;cases q<;>simp [Op.eqFields]
       |cons g gs=>cases q<;>simp [e2]
theorem G8(hT:bx T P):∀(n d:Nat) (t:TypeId) (x y:AV) (v u:Value) (r:Bool),n≤d→aa w A β v x→aa w A β u y→Ba T n t x y=some r→(Op.equalIn d t v u).run P w= .ok r w
 |0,_,_,_,_,_,_,_,_,_,_,h=>by simp [Ba] at h
 |n+1,0,_,_,_,_,_,_,hd,_,_,_=>by omega
 |n+1,d+1,t,x,y,v,u,r,hd,hx,hy,h=>by
  simp only [Ba] at h;cases hf:T.find t with
  |none=>simp [hf] at h
  |some te=>
   simp only [hf] at h;obtain⟨hu,_⟩:=hT.ok t te hf;split at h
   · rename_i fs qR;split at h
     · rename_i xs ys;simp only [aa] at hx hy;obtain⟨arr,rfl,hx⟩:=hx;obtain⟨Uv,rfl,hy⟩:=hy;have hh:=hT.held t te hf;rw [qR] at hh hu;have Wh:P.fieldsOf t=fs:=by simp [Program.fieldsOf,hu]
       rw [run_equalIn_struct w d t arr Uv (by rw [Wh];exact hu) hh.1,Wh];exact G7 hT (fun t x y v u r g1 g2 g3=>G8 hT n d t x y v u r (by omega) g1 g2 g3) hx hy _ _ hh.2.2 h
     · cases h
   · rename_i k0 qR;rw [qR] at hu;split at h
     · rename_i k a k' b;split at h
       · rename_i hk;subst hk;simp only [Option.some.injEq] at h;subst h;simp only [aa] at hx hy;rw [hx.1,hy.1,run_equalIn_int w d t _ _ _ _ hu];by_cases fE:a=b<;>simp [fE]
       · cases h
     · cases h
   · rename_i qR;rw [qR] at hu;split at h
     · rename_i a b;simp only [Option.some.injEq] at h;subst h;simp only [aa] at hx hy;rw [hx.1,hy.1,run_equalIn_string w d t _ _ hu];simp only [wK];by_cases fE:a=b<;>simp [fE]
     · cases h
   · rename_i qR;rw [qR] at hu;split at h
     · rename_i p q hp hq;simp only [Option.some.injEq] at h;subst h;rw [C2 hx hp,C2 hy hq,run_equalIn_bool' w d t _ _ hu]
     · cases h
   · cases h
theorem Lj(hT:bx T P) {n:Nat} {t:TypeId} {xs ys:List AV} {r:Bool}(h:Ba T n t (.agg xs) (.agg ys)=some r):P.eqGuardType P.depth t=false :=by
 cases n with
 |zero=>simp [Ba] at h
 |succ n=>
  simp only [Ba] at h;cases hf:T.find t with
  |none=>simp [hf] at h
  |some te=>
   simp only [hf] at h;have hh:=hT.held t te hf;split at h
   · rename_i fs qR;rw [qR] at hh;exact hh.2.1
   · cases h
   · cases h
   · simp [qc] at h
   · cases h
set_option maxHeartbeats 1000000 in
theorem NU(hT:bx T P) {op:BinOp} {t:TypeId} {ox oy:Operand} {x y:AV} {vx vy:Value}(hx:aa w A β vx x)(hy:aa w A β vy y) {out:Out}
  (h:JE T t op x y=some out) (hc:∀p∈out.cond,p):Reads P A β w (do eqGuard op t ox oy vx vy;binOp op t vx vy) out:=by
 unfold JE at h;split at h
 · rename_i k n k' m;simp only [aa] at hx hy;obtain⟨rfl,hn⟩:=hx;obtain⟨rfl,hm⟩:=hy;unfold Reads;simp only [Sem.run_bind,Aa,Result.andThen_ok];split at h
   · obtain⟨hq,hr,dc⟩:=mr (w:=w) (A:=A) (β:=β) h hc;obtain⟨h0,h1⟩:=dL dc;refine⟨hq,_,?_,hr⟩;have Wi:¬m<0:=by omega
     have Ql:min m.toNat k.bits=m.toNat:=by
      cases k<;>simp [bitsOf] at h1<;>simp [IntKind.bits]<;>omega
     simp [binOp,Op.shift,Wi,Ql]
   · simp only [Option.some.injEq] at h;subst h;obtain⟨h0,h1⟩:=dL hc;have Wi:¬m<0:=by omega
     have Ql:min m.toNat k.bits=m.toNat:=by
      cases k<;>simp [bitsOf] at h1<;>simp [IntKind.bits]<;>omega
     refine⟨⟨rfl,rfl,rfl⟩, .int k (n/2^m.toNat),?_,?_⟩
     · simp only [binOp,Op.shift,Wi,Ql,if_false,Sem.run_pure];rw [Int.fdiv_eq_ediv_of_nonneg _ (Int.le_of_lt (Int.pow_pos (by omega)))]
     · simp only [aa];have hp:(1:Int)≤2^m.toNat:=Int.pow_pos (by omega);refine⟨trivial,?_,?_⟩
       · have h2:lo k≤0:=by cases k<;>simp [lo]
         rcases Int.le_total 0 n with hh|hh
         · exact Int.le_trans h2 (Int.ediv_nonneg hh (by omega))
         · have :n≤n/2^m.toNat:=by
            rw [Int.le_ediv_iff_mul_le (by omega)];have :=Int.mul_le_mul_of_nonpos_left hh hp;omega
           omega
       · have h2:0≤hi k:=by cases k<;>simp [hi]
         rcases Int.le_total 0 n with hh|hh
         · have :n/2^m.toNat≤n:=Int.ediv_le_self _ hh;omega
         · have :n/2^m.toNat≤0:=Int.ediv_nonpos_of_nonpos_of_neg hh (by omega);omega
   · rename_i NV JH;by_cases Ux:k=k'
     · subst Ux;simp only [if_true] at h
       have hb:binOp op t (.int k n) (.int k m)=match op with
         | .add| .sub| .mul=>Op.intArith op k n m
         | .quo| .rem=>Op.intDiv op k n m
         | .and| .or| .xor| .andNot=>Op.intBits op k n m
         |_=>Op.intCmp op n m:=by
        cases op<;>first|exact absurd rfl NV|exact absurd rfl JH|simp [binOp]
       rw [hb];split at h
       · obtain⟨hq,hr,_⟩:=mr (w:=w) (A:=A) (β:=β) h hc;exact⟨hq,_,by simp [Op.intArith],hr⟩
       · obtain⟨hq,hr,_⟩:=mr (w:=w) (A:=A) (β:=β) h hc;exact⟨hq,_,by simp [Op.intArith],hr⟩
       · obtain⟨hq,hr,_⟩:=mr (w:=w) (A:=A) (β:=β) h hc;exact⟨hq,_,by simp [Op.intArith],hr⟩
       · simp only [Option.some.injEq] at h;subst h;have h0:0≤n:=nC hn.1 (fun p hp=>hc p (by simp [hp]));have h1:0<m:=hc _ (by simp);have dD:¬m=0:=by omega
         have h2:0≤n/m:=Int.ediv_nonneg h0 (by omega);have h3:n/m≤n:=Int.ediv_le_self _ h0;have JI:lo k≤0:=by cases k<;>simp [lo]
         have hr:lo k≤n/m∧n/m≤hi k:=⟨by omega,by omega⟩;refine⟨⟨rfl,rfl,rfl⟩, .int k (n/m),?_,by simp only [aa];exact⟨trivial,hr⟩⟩;simp only [Op.intDiv,dD,if_false,Int.tdiv_eq_ediv_of_nonneg h0,tM hr,Sem.run_pure]
       · simp only [Option.some.injEq] at h;subst h;have h0:0≤n:=nC hn.1 (fun p hp=>hc p (by simp [hp]));have h1:0<m:=hc _ (by simp);have dD:¬m=0:=by omega
         have h2:0≤n%m:=Int.emod_nonneg _ dD
         have h3:n%m≤n:=by
          have e1:=Int.emod_def n m;have e2:0≤m*(n/m):=Int.mul_nonneg (by omega) (Int.ediv_nonneg h0 (by omega));omega
         have JI:lo k≤0:=by cases k<;>simp [lo]
         have hr:lo k≤n%m∧n%m≤hi k:=⟨by omega,by omega⟩;refine⟨⟨rfl,rfl,rfl⟩, .int k (n%m),?_,by simp only [aa];exact⟨trivial,hr⟩⟩;simp only [Op.intDiv,dD,if_false,Int.tmod_eq_emod_of_nonneg h0,Sem.run_pure]
       · simp only [Option.some.injEq] at h;subst h;have h0:0≤n:=nC hn.1 (fun p hp=>hc p (by simp [hp]));have h1:0≤m:=nC hm.1 (fun p hp=>hc p (by simp [hp]));obtain⟨e1,e2⟩:=C1 (k:=k) (· &&& ·) (· &&& ·) (fun x y=>BitVec.toNat_and x y) (fun a b ha hb=>Nat.lt_of_le_of_lt Nat.and_le_left ha) hn hm h0 h1;exact⟨⟨rfl,rfl,rfl⟩,_,by simp only [Op.intBits,Sem.run_pure,e1];rfl,by simp only [aa];exact⟨rfl,e2⟩⟩
       · simp only [Option.some.injEq] at h;subst h;have h0:0≤n:=nC hn.1 (fun p hp=>hc p (by simp [hp]));have h1:0≤m:=nC hm.1 (fun p hp=>hc p (by simp [hp]));obtain⟨e1,e2⟩:=C1 (k:=k) (· ||| ·) (· ||| ·) (fun x y=>BitVec.toNat_or x y) (fun a b ha hb=>Nat.or_lt_two_pow ha hb) hn hm h0 h1;exact⟨⟨rfl,rfl,rfl⟩,_,by simp only [Op.intBits,Sem.run_pure,e1];rfl,by simp only [aa];exact⟨rfl,e2⟩⟩
       · simp only [Option.some.injEq] at h;subst h;have h0:0≤n:=nC hn.1 (fun p hp=>hc p (by simp [hp]));have h1:0≤m:=nC hm.1 (fun p hp=>hc p (by simp [hp]));obtain⟨e1,e2⟩:=C1 (k:=k) (· ^^^ ·) (· ^^^ ·) (fun x y=>BitVec.toNat_xor x y) (fun a b ha hb=>Nat.xor_lt_two_pow ha hb) hn hm h0 h1;exact⟨⟨rfl,rfl,rfl⟩,_,by simp only [Op.intBits,Sem.run_pure,e1];rfl,by simp only [aa];exact⟨rfl,e2⟩⟩
       · simp only [Option.some.injEq] at h;subst h;exact⟨⟨rfl,rfl,rfl⟩, .bool (decide (n=m)),by simp only [Op.intCmp,Sem.run_pure]<;>rfl,by simp only [aa]⟩
       · simp only [Option.some.injEq] at h;subst h;exact⟨⟨rfl,rfl,rfl⟩, .bool (!decide (n=m)),by simp only [Op.intCmp,Sem.run_pure]<;>rfl,by simp only [aa]⟩
       · simp only [Option.some.injEq] at h;subst h;exact⟨⟨rfl,rfl,rfl⟩, .bool (decide (n<m)),by simp only [Op.intCmp,Sem.run_pure]<;>rfl,by simp only [aa]⟩
       · simp only [Option.some.injEq] at h;subst h;exact⟨⟨rfl,rfl,rfl⟩, .bool (decide (n≤m)),by simp only [Op.intCmp,Sem.run_pure]<;>rfl,by simp only [aa]⟩
       · simp only [Option.some.injEq] at h;subst h;exact⟨⟨rfl,rfl,rfl⟩, .bool (decide (m<n)),by simp only [Op.intCmp,Sem.run_pure]<;>rfl,by simp only [aa]⟩
       · simp only [Option.some.injEq] at h;subst h;exact⟨⟨rfl,rfl,rfl⟩, .bool (decide (m≤n)),by simp only [Op.intCmp,Sem.run_pure]<;>rfl,by simp only [aa]⟩
       · cases h
     · simp [Ux] at h
 · rename_i s u;simp only [aa] at hx hy;obtain⟨rfl,hn⟩:=hx;obtain⟨rfl,hm⟩:=hy;unfold Reads;simp only [Sem.run_bind,Ab,Result.andThen_ok];have hb:binOp op t (.string ⟨s.toArray⟩) (.string ⟨u.toArray⟩)=Op.stringOp op ⟨s.toArray⟩ ⟨u.toArray⟩:=by cases op<;>rfl
   have arw:(s==u)=decide (s=u):=by
    by_cases hsu:s=u
    · simp [hsu]
    · simp [hsu]
   rw [hb];split at h
   · simp only [Option.some.injEq] at h;subst h;have h0:=dL hc;refine⟨⟨rfl,rfl,rfl⟩, .string ⟨(s++u).toArray⟩,?_,?_⟩
     · have xr:¬((s.length:Int)+(u.length:Int)>IntKind.i64.max):=by
        simp [IntKind.max,IntKind.signed,IntKind.bits];omega
       simp [Op.stringOp,rA,NT];omega
     · simp only [aa];refine⟨trivial,?_⟩;rw [List.length_append];unfold maxLen;omega
   all_goals first|(simp only [Option.some.injEq] at h;subst h;exact⟨⟨rfl,rfl,rfl⟩,_,by simp only [Op.stringOp,Sem.run_pure,wK,arw];rfl,by simp only [aa]⟩)|cases h
 · rename_i r rs l;cases hd:dq T t gA with
   |false=>simp [hd] at h
   |true=>
    simp only [hd,cond_true] at h
    obtain⟨e,hu⟩:∃e,P.underlying t=some (.slice e):=by
     unfold dq at hd;cases ht:T.find t with
     |none=>simp [ht] at hd
     |some te=>
      simp only [ht] at hd;rw [(hT.ok t te ht).1];cases qS:te.desc<;>simp_all [gA]
    simp only [aa,Rd] at hx hy;obtain⟨ad,cap,cs,rfl,h1,h2,h3,h4⟩:=hx;subst hy;split at h
    · simp only [Option.some.injEq] at h;subst h;unfold Reads;simp only [Sem.run_bind,xq,Result.andThen_ok];refine⟨⟨rfl,rfl,rfl⟩, .bool ad.isNone,JG w t e ad _ _ _ _ hu,?_⟩;simp only [aa];refine⟨_,rfl,fun hn=> ?_⟩;cases l with
      |nil=>rfl
      |cons x l=>
       exfalso;simp only [b9,bk] at h3;obtain⟨c1,c2,dc,⟨v,vs,NW,_⟩,_⟩:=h3;obtain⟨b,o,hb,_⟩:=h4 (by rw [dc,NW];simp);rw [hb] at hn;cases hn
    · cases h
 · rename_i xs ys;split at h
   · rename_i r hr;have hg:=Lj hT hr;have hq:=G8 (w:=w) (A:=A) (β:=β) hT 8 10000 t _ _ _ _ r (by omega) hx hy hr;simp only [aa] at hx hy;obtain⟨arr,rfl,hx⟩:=hx;obtain⟨Uv,rfl,hy⟩:=hy;unfold Reads;simp only [Sem.run_bind,run_eqGuard_agg w op t ox oy arr Uv hg,Result.andThen_ok];split at h
     · simp only [Option.some.injEq] at h;subst h;exact⟨⟨rfl,rfl,rfl⟩,_,by rw [run_eql_struct,hq];rfl,by simp only [aa]⟩
     · simp only [Option.some.injEq] at h;subst h;exact⟨⟨rfl,rfl,rfl⟩,_,by rw [run_neq_struct,hq];rfl,by simp only [aa]⟩
     · cases h
   · cases h
 · rename_i Ca hy1 hz1;split at h
   · rename_i p q hp hq;have ex:vx= .bool p:=by cases x<;>simp_all [qc,aa]
     have ey:vy= .bool q:=by cases y<;>simp_all [qc,aa]
     subst ex;subst ey;unfold Reads;simp only [Sem.run_bind,yy,Result.andThen_ok];cases hd:dq T t CT with
     |false=>simp [hd] at h
     |true=>
      simp only [hd,cond_true] at h
      have hu:P.underlying t=some .bool:=by
       unfold dq at hd;cases ht:T.find t with
       |none=>simp [ht] at hd
       |some te=>
        simp only [ht] at hd;rw [(hT.ok t te ht).1];cases qS:te.desc<;>simp_all [CT]
      split at h
      · simp only [Option.some.injEq] at h;subst h;exact⟨⟨rfl,rfl,rfl⟩, .bool (p==q),run_eql_bool w t p q hu,by simp only [aa]⟩
      · simp only [Option.some.injEq] at h;subst h;exact⟨⟨rfl,rfl,rfl⟩, .bool (!(p==q)),run_neq_bool w t p q hu,by simp only [aa]⟩
      · cases h
   · cases h
theorem C3(sz j:Nat):∀(k:Nat) (cs:List AV) (i:Nat),i<k→(every sz j k cs)[i]? =some (cs.getD (i*sz+j) .c5)
 |k+1,cs,0,_=>by simp [every]
 |k+1,cs,i+1,h=>by
  simp only [every,List.getElem?_cons_succ];rw [C3 sz j k (cs.drop sz) i (by omega)];simp only [List.getD,List.getElem?_drop];rw [show sz+(i*sz+j)=(i+1)*sz+j by rw [Nat.add_mul];omega]
theorem yz:∀(l:List AV) (kd:IntKind) (ns:List Int),yp l=some (kd,ns)→∀(i:Nat) (a:AV),l[i]? =some a→a= .int kd (ns.getD i 0)
 | [],kd,ns,h,i,a,hi=>by simp at hi
 |x::r,kd,ns,h,i,a,hi=>by
  unfold yp at h;split at h
  · rename_i k n;split at h
    · simp only [Option.some.injEq,Prod.mk.injEq] at h;obtain⟨rfl,rfl⟩:=h;cases i with
      |zero=>simp at hi;subst hi;simp
      |succ i=>simp at hi
    · rename_i y r';split at h
      · rename_i k' l hl;split at h
        · rename_i hk;subst hk;simp only [Option.some.injEq,Prod.mk.injEq] at h;obtain⟨rfl,rfl⟩:=h;cases i with
          |zero=>simp at hi;subst hi;simp
          |succ i=>
           rw [List.getElem?_cons_succ] at hi;have :=yz _ _ _ hl i a hi;rw [this];simp [List.getD]
        · cases h
      · cases h
  · cases h
theorem tN {sz k:Nat} {cs:List AV} {n:Int}(hn:n.toNat<k):∀(m:Nat) (vs:List AV),yq sz k cs n m=some vs→vs.length=m∧∀j,j<m→vs[j]? =some (cs.getD (n.toNat*sz+j) .c5)
 |0,vs,h=>by simp only [yq,Option.some.injEq] at h;subst h;exact⟨rfl,fun j hj=>by omega⟩
 |m+1,vs,h=>by
  simp only [yq] at h;split at h
  · rename_i us kd l h1 h2;simp only [Option.some.injEq] at h;subst h;obtain⟨g1,g2⟩:=tN hn m us h1;refine⟨by simp [g1],fun j hj=> ?_⟩;by_cases hjm:j<m
    · rw [List.getElem?_append_left (by omega)];exact g2 j hjm
    · have :j=m:=by omega
      subst this;rw [List.getElem?_append_right (by omega),g1,Nat.sub_self,List.getElem?_cons_zero];have :=yz _ _ _ h2 n.toNat _ (C3 sz j k cs n.toNat hn);rw [this]
  · cases h
theorem Lk {t:TypeId}(hT:bx T P) {k:Nat} {ee:TE}(h:CW T t=some (k,ee)):∃e i,P.underlying t=some (.array k e)∧T.find e=some ee∧P.info? e=some i∧i.size=ee.size:=by
 unfold CW at h;split at h
 · rename_i te kv;obtain⟨hu,_⟩:=hT.ok t te kv;split at h
   · rename_i k' e hd;split at h
     · rename_i ee' o9;obtain⟨_,i,hi,hs,_⟩:=hT.ok e ee' o9;simp only [Option.some.injEq,Prod.mk.injEq] at h;obtain⟨rfl,rfl⟩:=h;exact⟨e,i,by rw [hu,hd],o9,hi,hs⟩
     · cases h
   · cases h
 · cases h
theorem Cb(hT:bx T P) {t:TypeId} {cs:List AV} {n:Int} {kd:IntKind} {arr:Array Value} {vi:Value}(hx:af w A β arr.toList cs)(hi:vi= .int kd n) {out:Out}
  (h:sd T t cs n=some out) (hc:∀p∈out.cond,p):Reads P A β w (Instr.index t (.agg arr) vi) out:=by
 unfold sd at h;split at h
 · rename_i k ee ha;cases hb:Nat.beq cs.length (k*ee.size) with
   |false=>rw [hb] at h;cases h
   |true=>
    rw [hb] at h;simp only [cond_true] at h;have hlen:=Nat.eq_of_beq_eq_true hb;obtain⟨e,i,hu,o9,hie,hs⟩:=Lk hT ha
    have gi:∀(h0:0≤n) (h1:n<(k:Int)),(Instr.index t (.agg arr) vi).run P w=(part e arr (n.toNat*ee.size)).run P w:=by
     intro h0 h1;subst hi;simp [Instr.index,asIntOf,run_underlying hu,h0,h1,sizeOf,typeInfo,hie,hs]
    split at h
    · rename_i vs hv;cases Gu:ee.desc.jW with
      |true=>
       rw [Gu] at h;simp only [cond_true,Option.some.injEq] at h;subst h;obtain⟨h0,h1⟩:=dL hc;obtain⟨g1,g2⟩:=tN (by omega) _ _ hv
       have hle:n.toNat*ee.size+ee.size≤cs.length:=by
        rw [hlen,←Nat.succ_mul];exact Nat.mul_le_mul_right _ (by omega)
       have hp:pick ee cs (n.toNat*ee.size)=some (.agg vs):=by
        unfold pick;rw [Gu,cond_true,show Nat.ble (n.toNat*ee.size+ee.size) cs.length=true from Nat.ble_eq_true_of_le hle,cond_true];congr 2
        refine List.ext_getElem? fun j=> ?_;by_cases hj:j<ee.size
        · rw [List.getElem?_take,if_pos hj,List.getElem?_drop,g2 j hj];rw [List.getElem?_eq_getElem (by omega)];simp [List.getD,List.getElem?_eq_getElem (show n.toNat*ee.size+j<cs.length by omega)]
        · rw [List.getElem?_take,if_neg hj,List.getElem?_eq_none (by omega)]
       obtain⟨v,k1,k2⟩:=rz hT o9 hx hp;exact⟨⟨rfl,rfl,rfl⟩,v,by rw [gi h0 h1];exact k1,k2⟩
      |false=>
       rw [Gu] at h;simp only [cond_false] at h;split at h
       · rename_i a;simp only [Option.some.injEq] at h;subst h;obtain⟨h0,h1⟩:=dL hc;obtain⟨g1,g2⟩:=tN (by omega) _ _ hv;have cU:ee.size=1:=by simpa using g1.symm
         have hle:n.toNat*ee.size+ee.size≤cs.length:=by
          rw [hlen,←Nat.succ_mul];exact Nat.mul_le_mul_right _ (by omega)
         have hp:pick ee cs (n.toNat*ee.size)=some a:=by
          unfold pick;rw [Gu,cond_false];have :=g2 0 (by omega);simp only [List.getElem?_cons_zero,Option.some.injEq,Nat.add_zero] at this;rw [this,List.getElem?_eq_getElem (by omega)];simp [List.getD,List.getElem?_eq_getElem (show n.toNat*ee.size<cs.length by omega)]
         obtain⟨v,k1,k2⟩:=rz hT o9 hx hp;exact⟨⟨rfl,rfl,rfl⟩,v,by rw [gi h0 h1];exact k1,k2⟩
       · cases h
    · cases h
 · cases h
end
end Go.Vg

end
section
namespace Go.Vg
open Go
section
variable {P:Program} {C:Ctx} {A:Nat→Prop} {β:Nat→Value} {st:St} {a:Act} {w:World} {T:bY}
theorem rB(n:Int):∀ks,CX n ks=true↔n∈ks
 | []=>by simp [CX]
 |k::r=>by simp [CX,rB n r]
theorem tO(n:Int):∀ks,se n ks↔n∉ks
 | []=>by simp [se]
 |k::r=>by simp [se,tO n r]
theorem qT(n:Int):∀(es:List MapEntry) (ks:List Int) (i:Nat),es.map (·.key)=ks.map (Value.int .i64)→n∉ks→Instr.findNow (.int .i64) (.int .i64 n) es i=some none
 | [],_,_,_,_=>rfl
 |e::es,[],_,h,_=>by simp at h
 |e::es,k::ks,i,h,hn=>by
  simp only [List.map_cons,List.cons.injEq] at h;have hk:n≠k:=fun q=>hn (by rw [q];exact List.mem_cons_self ..)
  have hs:Instr.sameNow (.int .i64) (.int .i64 n) e.key=some false :=by
   rw [h.1];simp [Instr.sameNow,hk]
  simp only [Instr.findNow,hs];exact qT n es ks (i+1) h.2 (fun q=>hn (List.mem_cons_of_mem _ q))
theorem Bg(n:Int):∀(es:List MapEntry) (ks:List Int) (i j:Nat),es.map (·.key)=ks.map (Value.int .i64)→iS ks=true→ks[j]? =some n→
  ∃e,es[j]? =some e∧Instr.findNow (.int .i64) (.int .i64 n) es i=some (some (i+j,e.val))
 | [],[],_,j,_,_,hj=>by simp at hj
 | [],_::_,_,_,h,_,_=>by simp at h
 |e::es,[],_,_,h,_,_=>by simp at h
 |e::es,k::ks,i,j,h,hd,hj=>by
  simp only [List.map_cons,List.cons.injEq] at h;simp only [iS,Bool.and_eq_true,Bool.not_eq_true'] at hd;cases j with
  |zero=>
   simp only [List.getElem?_cons_zero,Option.some.injEq] at hj;subst hj
   have hs:Instr.sameNow (.int .i64) (.int .i64 k) e.key=some true :=by
    rw [h.1];simp [Instr.sameNow]
   exact⟨e,rfl,by simp [Instr.findNow,hs]⟩
  |succ j=>
   simp only [List.getElem?_cons_succ] at hj
   have hk:n≠k:=by
    rintro rfl;have :n∈ks:=List.mem_of_getElem? hj;rw [(rB n ks).2 this] at hd;cases hd.1
   have hs:Instr.sameNow (.int .i64) (.int .i64 n) e.key=some false :=by
    rw [h.1];simp [Instr.sameNow,hk]
   obtain⟨e',h1,h2⟩:=Bg n es ks (i+1) j h.2 hd.2 hj;refine⟨e',by simpa using h1,?_⟩;simp only [Instr.findNow,hs];rw [h2];congr 3;omega
theorem C4:∀(aH:List AV) (vs:List Value) (i:Nat) (x:AV) (v:Value),af w A β vs aH→aH[i]? =some x→vs[i]? =some v→aa w A β v x
 | [],_,i,x,v,_,h,_=>by simp at h
 |a::aH,vs,i,x,v,h,hx,hv=>by
  simp only [af] at h;obtain⟨u,bK,rfl,h1,h2⟩:=h;cases i with
  |zero=>
   simp only [List.getElem?_cons_zero,Option.some.injEq] at hx hv;rw [←hx,←hv];exact h1
  |succ i=>exact C4 aH bK i x v h2 (by simpa using hx) (by simpa using hv)
theorem Gv(hT:bx T P) {t:TypeId} {ok:Bool} {ks:List Int} {cs:List AV} {n:Int} {Gr:Nat} {vm:Value} {out:Out}(hm:aa w A β vm (.gf ks cs))
  (h:xk T Gr t ok ks cs n=some out) (hc:∀p∈out.cond,p):Reads P A β w (Instr.lookup t vm (.int .i64 n) ok) out:=by
 simp only [aa] at hm;obtain⟨b,es,ck,rfl,hA,hb,hk,hv⟩:=hm;unfold xk at h;split at h
 · rename_i te kv;obtain⟨hu,_⟩:=hT.ok t te kv;split at h
   · rename_i kt et hd;rw [hd] at hu;cases hq:(dq T kt xj&&iS ks) with
     |false=>rw [hq] at h;cases h
     |true=>
     rw [hq] at h;simp only [cond_true] at h;simp only [Bool.and_eq_true] at hq
     have JJ:P.underlying kt=some (.int .i64):=by
      have h1:=hq.1;unfold dq at h1;split at h1
      · rename_i tk Cc;obtain⟨hku,_⟩:=hT.ok kt tk Cc;unfold xj at h1;split at h1
        · rename_i qS;rw [hku,qS]
        · cases h1
      · cases h1
     have hck:∀e,(Instr.checkKey e 10000 kt (.int .i64 n)).run P w= .ok () w:=fun e=>MapKept.run_checkKey JJ (by simp [MapKept.IsKey]) e 9999;split at h
     · rename_i k c yA NW;simp only [Option.some.injEq] at h;subst h;have hn:n=k:=hc _ (List.mem_cons_self ..);subst hn;obtain⟨e,he,hf⟩:=Bg n es.toList ks 0 Gr hk hq.2 yA;have hrel:=C4 cs _ Gr c e.val hv NW (by rw [List.getElem?_map,he];rfl);refine⟨⟨rfl,rfl,rfl⟩,(if ok then .tuple #[e.val, .bool true] else e.val),?_,?_⟩
       · simp [Instr.lookup,run_underlying hu,MapKept.run_getObj_map hb,hck,MapKept.run_findKey JJ hf,Result.andThen]
       · cases ok
         · exact hrel
         · simp only [cond_true,if_true,aa];exact⟨_,rfl,by simp only [af];exact⟨_,_,rfl,hrel,_,_,rfl,by simp [aa],rfl⟩⟩
     · split at h
       · rename_i ee o9;cases hz:NM ee.zero with
         |false=>rw [hz] at h;cases h
         |true=>
         rw [hz] at h;simp only [cond_true,Option.some.injEq] at h;subst h;have hn:n∉ks:=(tO n ks).1 (hc _ (List.mem_cons_self ..));have hf:=qT n es.toList ks 0 hk hn;obtain⟨_,i,hi,_,_,hzz⟩:=hT.ok et ee o9
         have hz':ee.zero= .nilFunc:=by
          unfold NM at hz;split at hz
          · rename_i q;exact q
          · cases hz
         have hzr:(zeroValue et).run P w= .ok .nilFunc w:=by
          simp [zeroValue,typeInfo,hi,hzz,hz']
         refine⟨⟨rfl,rfl,rfl⟩,(if ok then .tuple #[.nilFunc, .bool false] else .nilFunc),?_,?_⟩
         · simp [Instr.lookup,run_underlying hu,MapKept.run_getObj_map hb,hck,MapKept.run_findKey JJ hf,hzr,Result.andThen]
         · cases ok
           · simp [aa]
           · simp only [cond_true,if_true,aa];exact⟨_,rfl,by simp only [af];exact⟨_,_,rfl,by simp [aa],_,_,rfl,by simp [aa],rfl⟩⟩
       · cases h
   · cases h
 · cases h
end
end Go.Vg

end
section
namespace Go.Vg
open Go
section
variable {P:Program} {C:Ctx} {A:Nat→Prop} {β:Nat→Value} {st:St} {a:Act} {w:World} {T:bY}
theorem Uy {op:UnOp} {x:AV} {vx:Value}(hx:aa w A β vx x) {out:Out}(h:NL op x=some out)(hc:∀p∈out.cond,p):Reads P A β w (Op.unary op vx) out:=by
 unfold NL at h;split at h
 · split at h
   · simp only [Option.some.injEq] at h;subst h;simp only [aa] at hx;subst hx;exact⟨⟨rfl,rfl,rfl⟩,_,rfl,by simp only [aa]⟩
   · cases h
 · split at h
   · simp only [Option.some.injEq] at h;subst h;simp only [aa] at hx;subst hx;exact⟨⟨rfl,rfl,rfl⟩,_,rfl,by simp only [aa];rfl⟩
   · cases h
 · split at h
   · simp only [Option.some.injEq] at h;subst h;simp only [aa] at hx;subst hx;exact⟨⟨rfl,rfl,rfl⟩,_,rfl,by simp only [aa];rfl⟩
   · cases h
 · rename_i k n;simp only [aa] at hx;obtain⟨rfl,hn⟩:=hx;split at h
   · obtain⟨hq,hr,_⟩:=mr (w:=w) (A:=A) (β:=β) h hc;exact⟨hq, .int k (k.wrap (0-n)),by simp [Op.unary,Op.intArith],hr⟩
   · cases hk:mf k with
     |none=>simp [hk] at h
     |some c=>
      simp only [hk,Option.some.injEq] at h;subst h;have hs:k.signed=false :=by cases k<;>simp [mf] at hk<;>rfl
      have h0:0≤n:=by cases k<;>simp [mf] at hk<;>simpa [lo] using hn.1
      have NW:c-1=hi k:=by cases k<;>simp [mf] at hk<;>subst hk<;>rfl
      have hx:(c-1-n)=k.wrap ((BitVec.ofInt k.bits (hi k)^^^BitVec.ofInt k.bits n).toNat:Int):=by
       rw [BitVec.toNat_xor,ov (by cases k<;>simp [hi]) (Int.le_refl _),ov h0 hn.2];have eM:=toNat_lt h0 hn.2
       have e:(hi k).toNat^^^n.toNat=(hi k).toNat-n.toNat:=by
        have e2:(hi k).toNat=2^kH k-1:=by cases k<;>simp [mf] at hk<;>rfl
        rw [e2];apply Nat.eq_of_testBit_eq;intro i;rw [Nat.testBit_xor,Nat.testBit_two_pow_sub_one,Nat.sub_sub,Nat.add_comm,Nat.testBit_two_pow_sub_succ eM];cases hb:n.toNat.testBit i with
        |false=>simp
        |true=>
         have :i<kH k:=by
          rcases Nat.lt_or_ge i (kH k) with h|h
          · exact h
          · rw [Nat.testBit_lt_two_pow (Nat.lt_of_lt_of_le eM (Nat.pow_le_pow_right (by omega) h))] at hb;cases hb
         simp [this]
       rw [e];have hle:n.toNat≤(hi k).toNat:=by omega
       have hr:lo k≤(((hi k).toNat-n.toNat:Nat):Int)∧(((hi k).toNat-n.toNat:Nat):Int)≤hi k:=by
        have :lo k=0:=by cases k<;>simp [mf] at hk<;>rfl
        omega
       rw [tM hr,NW];omega
      have acC:lo k≤c-1-n∧c-1-n≤hi k:=by
       have :lo k=0:=by cases k<;>simp [mf] at hk<;>rfl
       omega
      refine⟨⟨rfl,rfl,rfl⟩, .int k (c-1-n),?_,by simp only [aa];exact⟨trivial,acC⟩⟩;have Ll:k.max=hi k:=by cases k<;>simp [mf] at hk<;>rfl
      simp only [Op.unary,Op.intBits,hs,Bool.false_eq_true,if_false,Sem.run_pure,Ll];rw [hx]
   · cases h
 · cases h
theorem yB(s:List UInt8)(x y:Nat)(hy:y≤s.length):(⟨s.toArray⟩:ByteArray).extract x y=⟨((s.take y).drop x).toArray⟩:=by
 apply ByteArray.ext;apply Array.ext';simp [ByteArray.data_extract,List.extract,List.drop_take]
theorem run_sliceBound {k:IntKind} {n:Int} {y:Nat} {code:BoundsCode}(h0:0≤n)(h1:n≤(y:Int)):(Instr.sliceBound (.int k n) y code).run P w= .ok n.toNat w:=by
 simp [Instr.sliceBound,asIntOf,h0,h1]
def dy:Option Int→Nat
 |none=>0
 |some a=>a.toNat
def bj(len:Nat):Option Int→Nat
 |none=>len
 |some b=>b.toNat
def mX(w:World)(A:Nat→Prop)(β:Nat→Value):Option AV→Option Value→Prop
 |none,none=>True
 |some x,some v=>aa w A β v x
 |_,_=>False
theorem fv {x:Option AV} {n:Option Int} {v:Option Value}(h:mU x=some n)(hr:mX w A β x v):
  (n=none∧v=none)∨∃k m,n=some m∧v=some (.int k m):=by
 cases x with
 |none=>
  simp [mU] at h;cases v with
  |none=>exact .inl ⟨h.symm,rfl⟩
  |some v=>simp [mX] at hr
 |some x=>
  cases v with
  |none=>simp [mX] at hr
  |some v=>
   cases x with
   |int k m=>
    simp only [mU,Option.some.injEq] at h;simp only [mX,aa] at hr;exact .inr ⟨k,m,h.symm,by rw [hr.1]⟩
   |_=>simp [mU] at h
theorem jZ {s:Bool} {len cap:Nat} {lo hi:Option Int} {vl vh:Option Value}(hl:(lo=none∧vl=none)∨∃k m,lo=some m∧vl=some (.int k m))(hh:(hi=none∧vh=none)∨∃k m,hi=some m∧vh=some (.int k m))
  (hlen:len≤cap) (h0:∀m,hi=some m→0≤m∧m≤(len:Int)) (h1:∀m,lo=some m→0≤m∧m≤(bj len hi:Int)):
  (Instr.sliceBounds s len cap vl vh none).run P w= .ok (dy lo,bj len hi,cap) w:=by
 rcases hl with⟨rfl,rfl⟩|⟨k,m,rfl,rfl⟩<;>rcases hh with⟨rfl,rfl⟩|⟨k',m',rfl,rfl⟩
 · simp [Instr.sliceBounds,dy,bj]
 · obtain⟨g0,g1⟩:=h0 m' rfl;simp [Instr.sliceBounds,dy,bj,run_sliceBound (P:=P) (w:=w) (k:=k') g0 (show m'≤(cap:Int) by omega)]
 · obtain⟨g0,g1⟩:=h1 m rfl;simp only [bj] at g1;simp [Instr.sliceBounds,dy,bj,run_sliceBound (P:=P) (w:=w) (k:=k) g0 g1]
 · obtain⟨g0,g1⟩:=h0 m' rfl;obtain⟨f0,f1⟩:=h1 m rfl;simp only [bj] at f1;simp [Instr.sliceBounds,dy,bj,run_sliceBound (P:=P) (w:=w) (k:=k') g0 (show m'≤(cap:Int) by omega),run_sliceBound (P:=P) (w:=w) (k:=k) f0 f1]
theorem sn {row:List Ty} {v:Value} {l:List (Row row)}(h:Rd w A (.slice row) v l):∃ad cap,v= .slice ad l.length cap∧l.length≤cap∧cap≤maxLen:=by
 simp only [Rd] at h;obtain⟨ad,cap,cs,h1,h2,h3,_⟩:=h;exact⟨ad,cap,h1,h2,h3⟩
theorem Lm {row:List Ty} {ad:Option Addr} {len cap:Nat} {l:List (Row row)}(h:Rd w A (.slice row) (.slice ad len cap) l)(x y:Nat)(hx:x≤y)(hy:y≤l.length)(Ad:Option Addr)
  (had:x<cap→Ad=ad.map (·.add (x*row.length))):Rd w A (.slice row) (.slice Ad (y-x) (cap-x)) ((l.take y).drop x):=by
 simp only [Rd] at h ⊢;obtain⟨a0,arz,cs,h1,h2,h3,h4,h5⟩:=h;simp only [Value.slice.injEq] at h1;obtain⟨rfl,rfl,rfl⟩:=h1;have hs:=dV (w:=w) (A:=A) l cs y h4;have JH:=dV (w:=w) (A:=A) (l.take y) _ x hs.1;have hlen:((l.take y).drop x).length=y-x:=by simp;omega
 refine⟨Ad,cap-x,((cs.take (y*row.length)).drop (x*row.length)),by rw [hlen],by rw [hlen];omega,by omega,JH.2,fun dD=> ?_⟩
 have aww:x<l.length:=by
  rcases Nat.lt_or_ge x l.length with eM|Cd
  · exact eM
  · exfalso;apply dD
    have :y=x:=by omega
    subst this;rw [List.drop_take];simp
 have dc:cs≠ []:=by intro h0;apply dD;simp [h0]
 obtain⟨b,o,hb,hA,hr⟩:=h5 dc;refine⟨b,o+x*row.length,?_,hA,mW (gU hr)⟩;rw [had (by omega),hb];simp [Addr.add_mid]
theorem Ae {t:TypeId}(hu:P.underlying t=some .string)(s:List UInt8) {vl vh:Option Value} {x y c:Nat}(hy:y≤s.length)(hb:(Instr.sliceBounds false s.length s.length vl vh none).run P w= .ok (x,y,c) w):
  (Instr.sliceAt t (.string ⟨s.toArray⟩) vl vh none).run P w= .ok (.string ⟨((s.take y).drop x).toArray⟩) w:=by
 simp [Instr.sliceAt,Instr.slice,run_underlying hu,rA,hb,yB s x y hy]
theorem nX {t e:TypeId} {i:TypeInfo}(hu:P.underlying t=some (.slice e))(hi:P.info? e=some i)(ad:Option Addr)(len cap:Nat) {vl vh:Option Value} {x y:Nat}(hb:(Instr.sliceBounds true len cap vl vh none).run P w= .ok (x,y,cap) w):
  (Instr.sliceAt t (.slice ad len cap) vl vh none).run P w= .ok (.slice (if cap=x then ad else ad.map (·.add (x*i.size))) (y-x) (cap-x)) w:=by
 simp [Instr.sliceAt,Instr.slice,run_underlying hu,sizeOf,typeInfo,hi,hb]
theorem jE(hT:bx T P) {t:TypeId} {te:TE}(ht:T.find t=some te):P.underlying t=some te.desc:=(hT.ok t te ht).1
theorem JK(hT:bx T P)(hB:aF C A β st a w) {t:TypeId} {x:AV} {lo hi mx:Option AV} {vx:Value} {vl vh vm:Option Value}(hx:aa w A β vx x)
  (hl:mX w A β lo vl)
  (hh:mX w A β hi vh)
  (hm:mX w A β mx vm) {out:Out}
  (h:oO T st.h t x lo hi mx=some out) (hc:∀p∈out.cond,p):Reads P A β w (Instr.sliceAt t vx vl vh vm) out:=by
 unfold oO at h;split at h
 · rename_i s xt hX JI NX rC
   have Wj:vm=none:=by
    rcases fv rC hm with⟨_,h⟩|⟨k,m,h,_⟩
    · exact h
    · cases h
   subst Wj;have iU:=fv JI hl;have Gw:=fv NX hh;simp only [aa] at hx;obtain⟨rfl,hs⟩:=hx;cases hd:dq T t ot with
   |false=>simp [hd] at h
   |true=>
    simp only [hd,cond_true] at h
    have hu:P.underlying t=some .string:=by
     unfold dq at hd;cases ht:T.find t with
     |none=>simp [ht] at hd
     |some te=>
      simp only [ht] at hd;rw [(hT.ok t te ht).1];cases qS:te.desc<;>simp_all [ot]
    have fin:∀(r:List UInt8),(bj s.length hX≤s.length)→(∀m,hX=some m→0≤m∧m≤(s.length:Int))→(∀m,xt=some m→0≤m∧m≤(bj s.length hX:Int))→
      r=((s.take (bj s.length hX)).drop (dy xt))→∃v,(Instr.sliceAt t (.string ⟨s.toArray⟩) vl vh none).run P w= .ok v w∧aa w A β v (.str r):=by
     intro r h1 h2 h3 h4;have hb:=jZ (P:=P) (w:=w) (s:=false) (cap:=s.length) iU Gw (Nat.le_refl _) h2 h3;refine⟨_,Ae hu s h1 hb,?_⟩;simp only [aa,h4];exact⟨trivial,by simp only [List.length_drop,List.length_take];omega⟩
    split at h
    · simp only [Option.some.injEq] at h;subst h;exact⟨⟨rfl,rfl,rfl⟩,fin s (by simp [bj]) (by simp) (by simp) (by simp [bj,dy])⟩
    · rename_i b;simp only [Option.some.injEq] at h;subst h;obtain⟨c0,c1⟩:=dL hc;exact⟨⟨rfl,rfl,rfl⟩,fin _ (by simp only [bj];omega) (by simp only [Option.some.injEq];rintro m rfl;exact⟨c0,c1⟩) (by simp) (by simp [bj,dy])⟩
    · rename_i x;simp only [Option.some.injEq] at h;subst h;obtain⟨c0,c1⟩:=dL hc;exact⟨⟨rfl,rfl,rfl⟩,fin _ (by simp [bj]) (by simp) (by simp only [Option.some.injEq,bj];rintro m rfl;exact⟨c0,c1⟩) (by simp [bj,dy])⟩
    · rename_i x b;simp only [Option.some.injEq] at h;subst h;obtain⟨c0,c1,c2⟩:=dL hc;exact⟨⟨rfl,rfl,rfl⟩,fin _ (by simp only [bj];omega) (by simp only [Option.some.injEq];rintro m rfl;exact⟨by omega,c2⟩) (by simp only [Option.some.injEq,bj];rintro m rfl;omega) (by simp [bj,dy])⟩
 · rename_i row l xt hX JI NX rC
   have Wj:vm=none:=by
    rcases fv rC hm with⟨_,h⟩|⟨k,m,h,_⟩
    · exact h
    · cases h
   subst Wj;have iU:=fv JI hl;have Gw:=fv NX hh;simp only [aa] at hx;cases hs:br T t row.length with
   |false=>simp [hs] at h
   |true=>
    simp only [hs,cond_true] at h;obtain⟨e,ii,hu,hU,cU,iJ⟩:=eB hT hs;obtain⟨ad,cap,rfl,hle,yC⟩:=sn hx
    have fin:∀(r:List (Row row)),(bj l.length hX≤l.length)→(dy xt≤bj l.length hX)→(∀m,hX=some m→0≤m∧m≤(l.length:Int))→(∀m,xt=some m→0≤m∧m≤(bj l.length hX:Int))→
      r=((l.take (bj l.length hX)).drop (dy xt))→∃v,(Instr.sliceAt t (.slice ad l.length cap) vl vh none).run P w= .ok v w∧aa w A β v (.sl row r):=by
     intro r h1 Uz h2 h3 h4;have hb:=jZ (P:=P) (w:=w) (s:=true) (cap:=cap) iU Gw hle h2 h3;refine⟨_,nX hu hU ad l.length cap hb,?_⟩;simp only [aa,h4];refine Lm hx _ _ Uz h1 _ (fun eM=> ?_);rw [if_neg (by omega),cU]
    split at h
    · simp only [Option.some.injEq] at h;subst h;exact⟨⟨rfl,rfl,rfl⟩,fin l (by simp [bj]) (by simp [dy]) (by simp) (by simp) (by simp [bj,dy])⟩
    · rename_i b;simp only [Option.some.injEq] at h;subst h;obtain⟨c0,c1⟩:=dL hc;exact⟨⟨rfl,rfl,rfl⟩,fin _ (by simp only [bj];omega) (by simp [dy]) (by simp only [Option.some.injEq];rintro m rfl;exact⟨c0,c1⟩) (by simp) (by simp [bj,dy])⟩
    · rename_i x;simp only [Option.some.injEq] at h;subst h;obtain⟨c0,c1⟩:=dL hc;exact⟨⟨rfl,rfl,rfl⟩,fin _ (by simp [bj]) (by simp only [bj,dy];omega) (by simp) (by simp only [Option.some.injEq,bj];rintro m rfl;exact⟨c0,c1⟩) (by simp [bj,dy])⟩
    · rename_i x b;simp only [Option.some.injEq] at h;subst h;obtain⟨c0,c1,c2⟩:=dL hc;exact⟨⟨rfl,rfl,rfl⟩,fin _ (by simp only [bj];omega) (by simp only [bj,dy];omega) (by simp only [Option.some.injEq];rintro m rfl;exact⟨by omega,c2⟩) (by simp only [Option.some.injEq,bj];rintro m rfl;omega) (by simp [bj,dy])⟩
 · rename_i row l b c JI NX rC
   have hvl:vl=none:=by
    rcases fv JI hl with⟨_,h⟩|⟨k,m,h,_⟩
    · exact h
    · cases h
   subst hvl
   obtain⟨kb,rfl⟩:∃kb,vh=some (.int kb b):=by
    rcases fv NX hh with⟨h,_⟩|⟨k,m,h,h2⟩
    · cases h
    · cases h;exact⟨k,h2⟩
   obtain⟨kc,rfl⟩:∃kc,vm=some (.int kc c):=by
    rcases fv rC hm with⟨h,_⟩|⟨k,m,h,h2⟩
    · cases h
    · cases h;exact⟨k,h2⟩
   simp only [aa] at hx;cases hs:br T t row.length with
   |false=>simp [hs] at h
   |true=>
    simp only [hs,cond_true] at h;obtain⟨e,ii,hu,hU,cU,iJ⟩:=eB hT hs;obtain⟨ad,cap,rfl,hle,yC⟩:=sn hx;simp only [Option.some.injEq] at h;subst h;obtain⟨c0,c1,c2⟩:=dL hc;subst c1
    have hb:(Instr.sliceBounds true l.length cap none (some (.int kb b)) (some (.int kc b))).run P w= .ok (0,b.toNat,b.toNat) w:=by
     simp [Instr.sliceBounds,run_sliceBound (P:=P) (w:=w) (k:=kc) (n:=b) (y:=cap) (by omega) (by omega),run_sliceBound (P:=P) (w:=w) (k:=kb) (n:=b) (y:=b.toNat) (by omega) (by omega)]
    have gi:(Instr.sliceAt t (.slice ad l.length cap) none (some (.int kb b)) (some (.int kc b))).run P w=
      .ok (.slice (if b.toNat=0 then ad else ad.map (·.add (0*ii.size))) (b.toNat-0) (b.toNat-0)) w:=by
     simp [Instr.sliceAt,Instr.slice,run_underlying hu,sizeOf,typeInfo,hU,hb]
    have hR:=Lm hx 0 b.toNat (by omega) (by omega) (if b.toNat=0 then ad else ad.map (·.add (0*ii.size))) (fun _=>by
     by_cases hz:b.toNat=0
     · rw [if_pos hz];cases ad<;>simp [Addr.add]
     · rw [if_neg hz];cases ad<;>simp [Addr.add])
    have hlen:((l.take b.toNat).drop 0).length=b.toNat:=by rw [List.drop_zero,List.length_take];omega
    simp only [Rd] at hR;obtain⟨a0,arz,cs,g1,g2,g3,g4,g5⟩:=hR;simp only [Value.slice.injEq] at g1;obtain⟨g6,g7,g8⟩:=g1;rw [List.drop_zero] at hlen g4;rw [g6,Nat.sub_zero] at gi;refine⟨⟨rfl,rfl,rfl⟩, .slice a0 b.toNat b.toNat,gi,?_⟩;simp only [aa,Rd];refine⟨⟨a0,b.toNat,cs,?_,by omega,by omega,g4,g5⟩,a0,?_⟩<;>rw [hlen]
 · rename_i k xt hX JI NX rC
   have Wj:vm=none:=by
    rcases fv rC hm with⟨_,h⟩|⟨k,m,h,_⟩
    · exact h
    · cases h
   subst Wj;have iU:=fv JI hl;have Gw:=fv NX hh;split at h
   · rename_i e' row l fr hk;cases hs:br T t row.length with
     |false=>simp [hs] at h
     |true=>
      simp only [hs,cond_true] at h;obtain⟨e,ii,hu,hU,cU,iJ⟩:=eB hT hs;simp only [aa] at hx;obtain⟨rfl,_⟩:=hx
      have fin:(bj l.length hX≤l.length)→(dy xt≤bj l.length hX)→(∀m,hX=some m→0≤m∧m≤(l.length:Int))→(∀m,xt=some m→0≤m∧m≤(bj l.length hX:Int))→
        (β k= .slice none 0 0∧l= []∧(Instr.sliceAt t (β k) vl vh none).run P w= .ok (.slice none 0 0) w)∨∃b cap Ad,β k= .slice (some ⟨b,0,none⟩) l.length cap∧(l.length≤cap∧cap≤maxLen)∧
          (Instr.sliceAt t (β k) vl vh none).run P w= .ok (.slice Ad (bj l.length hX-dy xt) (cap-dy xt)) w∧(dy xt<cap→Ad=some ⟨b,dy xt*row.length,none⟩)∧(dy xt=0→Ad=some ⟨b,0,none⟩):=by
       intro h1 Uz h2 h3;rcases eC hB hk with⟨g1,g2⟩|⟨b,cap,cur,g1,_,g3,g4,_⟩
       · subst g2;have hb:=jZ (P:=P) (w:=w) (s:=true) (cap:=0) iU Gw (Nat.le_refl _) h2 h3;have hz:bj 0 hX=0:=by simpa using h1
         have hz2:dy xt=0:=by simp only [List.length_nil] at Uz;omega
         refine .inl ⟨g1,rfl,?_⟩;rw [g1,nX hu hU none 0 0 hb,hz,hz2];simp
       · have hb:=jZ (P:=P) (w:=w) (s:=true) (cap:=cap) iU Gw g3 h2 h3;refine .inr ⟨b,cap,_,g1,⟨g3,g4⟩,by rw [g1];exact nX hu hU (some ⟨b,0,none⟩) l.length cap hb,fun eM=> ?_,fun hz=> ?_⟩
         · rw [if_neg (by omega),cU];simp [Addr.add_mid]
         · split
           · rfl
           · rw [hz];simp [Addr.add]
      split at h
      · simp only [Option.some.injEq] at h;subst h;rcases fin (by simp [bj]) (by simp [dy]) (by simp) (by simp) with⟨g1,g2,g3⟩|⟨b,cap,Ad,g1,g2,g3,_,g5⟩
        · exact⟨⟨rfl,rfl,rfl⟩,_,g3,by simp only [aa];exact⟨g1.symm,rfl⟩⟩
        · refine⟨⟨rfl,rfl,rfl⟩,_,g3,?_⟩;simp only [aa];rw [g5 rfl,g1];simp [bj,dy,Value.oneCell']
      · rename_i b;simp only [Option.some.injEq] at h;subst h;obtain⟨c0,c1⟩:=dL hc;rcases fin (by simp only [bj];omega) (by simp [dy]) (by simp only [Option.some.injEq];rintro m rfl;exact⟨c0,c1⟩) (by simp) with⟨g1,g2,g3⟩|⟨bb,cap,Ad,g1,g2,g3,_,g5⟩
        · refine⟨⟨rfl,rfl,rfl⟩,_,g3,?_⟩;simp only [aa];refine .inl ⟨g1,trivial,?_⟩;subst g2;simp at c1;omega
        · refine⟨⟨rfl,rfl,rfl⟩,_,g3,?_⟩;simp only [aa];rw [g5 rfl];exact .inr ⟨bb,_,cap,g1,by simp [bj,dy],by omega⟩
      · rename_i x;simp only [Option.some.injEq] at h;subst h;obtain⟨c0,c1⟩:=dL hc;rcases fin (by simp [bj]) (by simp only [bj,dy];omega) (by simp) (by simp only [Option.some.injEq,bj];rintro m rfl;exact⟨c0,c1⟩) with⟨g1,g2,g3⟩|⟨bb,cap,Ad,g1,g2,g3,g4,_⟩
        · refine⟨⟨rfl,rfl,rfl⟩,_,g3,?_⟩;simp only [aa];subst g2;exact .inl ⟨by simp,none,0,rfl,by simp⟩
        · refine⟨⟨rfl,rfl,rfl⟩,_,g3,?_⟩;simp only [aa,bj,dy] at g4 ⊢;by_cases hz:l.length-x.toNat=0
          · exact .inl ⟨hz,Ad,_,by rw [hz],by omega⟩
          · exact .inr ⟨bb,_,cap,cap-x.toNat,g1,by rw [g4 (by omega)],by omega,by omega,by omega⟩
      · rename_i x b;simp only [Option.some.injEq] at h;subst h;obtain⟨c0,c1,c2⟩:=dL hc;rcases fin (by simp only [bj];omega) (by simp only [bj,dy];omega) (by simp only [Option.some.injEq];rintro m rfl;exact⟨by omega,c2⟩) (by simp only [Option.some.injEq,bj];rintro m rfl;omega) with⟨g1,g2,g3⟩|⟨bb,cap,Ad,g1,g2,g3,g4,_⟩
        · refine⟨⟨rfl,rfl,rfl⟩,_,g3,?_⟩;simp only [aa];subst g2;exact .inl ⟨by simp at c2;omega,none,0,rfl,by simp⟩
        · refine⟨⟨rfl,rfl,rfl⟩,_,g3,?_⟩;simp only [aa,bj,dy] at g4 ⊢;by_cases hz:b.toNat-x.toNat=0
          · exact .inl ⟨hz,Ad,_,by rw [hz],by omega⟩
          · exact .inr ⟨bb,_,cap,cap-x.toNat,g1,by rw [g4 (by omega)],by omega,by omega,by omega⟩
   · cases h
 · cases h
end
end Go.Vg

end
section
namespace Go.Vg
open Go
section
variable {P:Program} {C:Ctx} {A:Nat→Prop} {β:Nat→Value} {st:St} {a:Act} {w:World} {T:bY}
theorem JL:∀(t:Ty) (v:Value) (x:D t),Rd w A t v x→v.oneCell'=true
 | .int _,v,x,h=>by simp only [Rd] at h;rw [h.1];rfl
 | .bool,v,x,h=>by simp only [Rd] at h;rw [h];rfl
 | .str,v,x,h=>by simp only [Rd] at h;rw [h.1];rfl
 | .slice _,v,x,h=>by simp only [Rd] at h;obtain⟨_,_,_,h1,_⟩:=h;rw [h1];rfl
theorem tP:∀(ts:List Ty) (vs:List Value) (x:Row ts),bk w A ts vs x→∀v∈vs,v.oneCell'=true
 | [],vs,_,h=>by simp only [bk] at h;subst h;simp
 |t::ts,vs,x,h=>by
  simp only [bk] at h;obtain⟨v,bK,rfl,h1,h2⟩:=h;intro u hu;rcases List.mem_cons.1 hu with rfl|hu
  · exact JL t _ _ h1
  · exact tP ts bK _ h2 u hu
theorem tQ {row:List Ty}:∀(l:List (Row row)) (cs:List Value),b9 (bk w A row) cs l→∀v∈cs,v.oneCell'=true
 | [],cs,h=>by simp only [b9] at h;subst h;simp
 |x::l,cs,⟨c1,c2,hc,h1,h2⟩=>by
  subst hc;intro u hu;rcases List.mem_append.1 hu with hu|hu
  · exact tP row c1 x h1 u hu
  · exact tQ l c2 h2 u hu
theorem iq {r r':List Ty} {l:List (Row r)} {l':List (Row r')}(h:eP r r' l=some l'):∃e:r=r',e▸l=l':=by
 unfold eP at h;split at h
 · rename_i hb;simp only [Option.some.injEq] at h;exact⟨Ty.jB r r' hb,h⟩
 · cases h
structure Src (P:Program) (w:World) (A:Nat→Prop) (row:List Ty) (m:List (Row row)) (v:Value) (cs:List Value):Prop where
 rd:b9 (bk w A row) cs m
 len:(Builtin.lenOf v).run P w= .ok m.length w
 first :∀w':World,w'.heap=w.heap→∀n,n≤m.length→(Builtin.firstCells row.length n v).run P w'= .ok (cs.take (n*row.length)).toArray w'
 max:m.length≤maxLen
theorem C5 {w w':World}(h:w'.heap=w.heap)(p:Addr):w'.cell? p=w.cell? p:=by simp [World.cell?,h]
theorem mu {row:List Ty} {m:List (Row row)} {cs:List Value} {ad:Option Addr} {cap:Nat}(qU:b9 (bk w A row) cs m)(dc:cs≠ []→∃b o,ad=some ⟨b,o,none⟩∧w.rangeAt b o cs)(Ll:m.length≤maxLen):
  Src P w A row m (.slice ad m.length cap) cs:=by
 refine⟨qU,by simp [Builtin.lenOf],fun w' hw n hn=> ?_,Ll⟩;have hlen:=eN m cs qU;by_cases h0:cs= []
 · subst h0;simp only [List.length_nil] at hlen
   have hz:n*row.length=0:=by
    rcases Nat.eq_zero_or_pos n with h|h
    · simp [h]
    · have :m.length*row.length=0:=hlen.symm;rcases Nat.mul_eq_zero.1 this with h'|h'
      · omega
      · simp [h']
   cases ad with
   |none=>simp [Builtin.firstCells]
   |some p=>simp [Builtin.firstCells,hz,loadCells,loadCellsFrom]
 · obtain⟨b,o,rfl,hr⟩:=dc h0
   have eM:(cs.take (n*row.length)).length=n*row.length:=by
    rw [List.length_take,hlen];exact Nat.min_eq_left (Nat.mul_le_mul_right _ hn)
   have :=run_loadCells_list (P:=P) w' ⟨b,o,none⟩ (cs.take (n*row.length)) (fun j v hv=>by
    rw [Addr.add_mid,C5 hw];exact gU hr j v hv)
   rw [eM] at this;simp only [Builtin.firstCells,this]
theorem C6 {row:List Ty}:Src P w A row ([]:List (Row row)) (.slice none 0 0) []:=
 mu (m:=([]:List (Row row))) (by simp [b9]) (fun h=>absurd rfl h) (by simp)
theorem JM {row:List Ty} {l:List (Row row)} {v:Value}(h:Rd w A (.slice row) v l):∃cs,Src P w A row l v cs:=by
 simp only [Rd] at h;obtain⟨ad,cap,cs,rfl,h2,h3,h4,h5⟩:=h;exact⟨cs,mu h4 (fun dD=>let⟨b,o,h1,_,h2⟩:=h5 dD;⟨b,o,h1,h2⟩) (by omega)⟩
theorem C7(s:List UInt8):b9 (bk w A [.int .u8]) (s.map fun b=>Value.int .u8 (b.toNat:Int)) s:=by
 induction s with
 |nil=>simp [b9]
 |cons b s ih=>
  refine⟨[.int .u8 (b.toNat:Int)],s.map fun b=>Value.int .u8 (b.toNat:Int),rfl,?_,ih⟩;simp only [bk,Rd];refine⟨_,[],rfl,⟨rfl,?_,?_⟩,rfl⟩
  · simp [lo,Row.hd,DI.toInt]
  · have :=b.toNat_lt;simp only [hi,Row.hd,DI.toInt];omega
theorem Wk(s:List UInt8)(hs:s.length≤maxLen):Src P w A [.int .u8] s (.string ⟨s.toArray⟩) (s.map fun b=>Value.int .u8 (b.toNat:Int)):=by
 refine⟨C7 s,by simp [Builtin.lenOf,rA],fun w' hw n hn=> ?_,hs⟩;simp only [Builtin.firstCells,List.length_singleton,Nat.mul_one,Sem.run_pure];congr 1
 rw [yB s 0 n hn];apply Array.ext';simp [List.map_take]
theorem lh {k e:Nat} {row:List Ty} {l:List (Row row)} {fr:Bool}(hB:aF C A β st a w)(h:st.h k=some (.row e row l fr)):
  (β k= .slice none 0 0∧l= [])∨∃b cap cs,β k= .slice (some ⟨b,0,none⟩) l.length cap∧l.length≤cap∧cap≤maxLen∧b9 (bk w A row) cs l∧w.rangeAt b 0 cs:=by
 rcases eC hB h with h|⟨b,cap,cur,h1,h2,h3,h4,h5,h6,_⟩
 · exact .inl h
 · refine .inr ⟨b,cap,_,h1,h3,h4,h6,fun j v hj=> ?_⟩;rw [List.getElem?_take] at hj;split at hj
   · simp [World.cell?,h2];simpa using hj
   · cases hj
theorem Cy(hB:aF C A β st a w) {x:AV} {v:Value}(hx:aa w A β v x) {row:List Ty} {m:List (Row row)}(h:kq st.h row x=some m):∃cs,Src P w A row m v cs:=by
 unfold kq at h;split at h
 · rename_i s;obtain⟨e,h⟩:=iq h;subst e;simp only at h;subst h;simp only [aa] at hx;obtain⟨rfl,hs⟩:=hx;exact⟨_,Wk s hs⟩
 · simp only [Option.some.injEq] at h;subst h;simp only [aa] at hx;subst hx;exact⟨[],C6⟩
 · rename_i h1 h2
   have key:∀r (l:List (Row r)),(fD st.h x).1= .sl r l→eP r row l=some m→∃cs,Src P w A row m v cs:=by
    intro r l hp hc;obtain⟨e,hc⟩:=iq hc;subst e;simp only at hc;subst hc;unfold fD at hp;split at hp
    · rename_i k;simp only [aa] at hx;split at hp
      · rename_i e' iH l' fr hk;simp only [AV.sl.injEq] at hp;obtain⟨rfl,hp⟩:=hp;simp only [heq_eq_eq] at hp;subst hp;rcases lh hB hk with⟨g1,g2⟩|⟨b,cap,cs,g1,g2,g3,g4,g5⟩
        · subst g2;rw [hx.1,g1];exact⟨[],C6⟩
        · rw [hx.1,g1];exact⟨cs,mu g4 (fun _=>⟨b,0,rfl,g5⟩) (by omega)⟩
      · cases hp
    · rename_i k n;simp only [aa] at hx;split at hp
      · rename_i e' iH l' fr hk;simp only [AV.sl.injEq] at hp;obtain⟨rfl,hp⟩:=hp;simp only [heq_eq_eq] at hp;subst hp;rcases lh hB hk with⟨g1,g2⟩|⟨b,cap,cs,g1,g2,g3,g4,g5⟩
        · subst g2;rcases hx with⟨_,hv,hn⟩|⟨b,m,cap,hv,_⟩
          · subst hn;rw [hv];exact⟨[],by have :=C6 (P:=P) (w:=w) (A:=A) (row:=iH);simpa using this⟩
          · rw [g1] at hv;cases hv
        · rcases hx with⟨hv,_,_⟩|⟨b',m,im,hv,xp,hle⟩
          · rw [g1] at hv;cases hv
          · rw [g1] at hv;simp only [Value.slice.injEq,Option.some.injEq,Addr.mk.injEq,and_true] at hv;obtain⟨rfl,rfl,rfl⟩:=hv;have hl:(l'.take n).length=n:=by simp;omega
            rw [xp];have :=mu (P:=P) (ad:=some ⟨b,0,none⟩) (cap:=cap) (dV l' cs n g4).1 (fun _=>⟨b,0,rfl,gU g5⟩) (by omega);rw [hl] at this;exact⟨_,this⟩
      · cases hp
    · rename_i k sz off n;simp only [aa] at hx;split at hp
      · rename_i e' iH l' fr hk;cases cU:Nat.beq sz iH.length with
        |false=>simp [cU] at hp
        |true=>
         have cU:=Nat.eq_of_beq_eq_true cU;subst cU;simp only [bG,cond_true,AV.sl.injEq] at hp;obtain⟨rfl,hp⟩:=hp;simp only [heq_eq_eq] at hp;subst hp;rcases hx with⟨hn,ad,cap,hv,_⟩|⟨b',m,im,tL,hv,xp,hle,arv,auD⟩
         · subst hn;rw [hv];have :=mu (P:=P) (w:=w) (A:=A) (row:=iH) (m:= []) (ad:=ad) (cap:=cap) (cs:= []) (by simp [b9]) (fun h=>absurd rfl h) (by simp);exact⟨[],by simpa using this⟩
         · rcases lh hB hk with⟨g1,g2⟩|⟨b,cap,cs,g1,g2,g3,g4,g5⟩
           · rw [g1] at hv;cases hv
           · rw [g1] at hv;simp only [Value.slice.injEq,Option.some.injEq,Addr.mk.injEq,and_true] at hv;obtain⟨rfl,rfl,rfl⟩:=hv;have hl:((l'.drop off).take n).length=n:=by simp;omega
             rw [xp];have :=mu (P:=P) (ad:=some ⟨b,off*iH.length,none⟩) (cap:=tL) (dV _ _ n (dV l' cs off g4).2).1 (fun _=>⟨b,_,rfl,by have :=gU (n:=n*iH.length) (mW (n:=off*iH.length) g5);simpa using this⟩) (by omega);rw [hl] at this;exact⟨_,this⟩
      · cases hp
    · rename_i Uw hn2 hn3;simp only at hp;subst hp;simp only [aa] at hx;exact JM hx
   split at h
   · rename_i r l hp;exact key r l hp h
   · rename_i r l hp
     have j1:x= .full r l:=by
      unfold fD at hp;split at hp
      · split at hp<;>cases hp
      · split at hp<;>cases hp
      · split at hp
        · rename_i sz _ _ _ _ iH _ _ _;cases cU:Nat.beq sz iH.length<;>simp [cU] at hp
        · cases hp
      · exact hp
     subst j1;simp only [aa] at hx;obtain⟨e,hc⟩:=iq h;subst e;simp only at hc;subst hc;exact JM hx.1
   · cases h
end
end Go.Vg

end
section
namespace Go.Vg
open Go
section
variable {P:Program} {C:Ctx} {A:Nat→Prop} {β:Nat→Value} {st:St} {a:Act} {w:World} {T:bY}
structure Qm (P:Program) (t t' e:TypeId) (size bytes:Nat) (z:Value):Prop where
 under:P.underlying t=some (.slice e)
 aur:∃d,P.underlying t'=some d∧(d= .string∨∃e',d= .slice e')
 info:∃i,P.info? e=some i∧i.size=size∧i.bytes=bytes∧i.zero=some z
 Wl:z.cells.size=size
 pos:0<size
theorem lM {t t' ty e:TypeId} {size bytes:Nat} {z:Value}(hE:Qm P t t' e size bytes z) {base:Option Addr} {n cap:Nat} {ahP:List Value} {x:Value} {m:Nat} {news:List Value}
  (hold:∀w':World,w'.heap=w.heap→(Builtin.firstCells size n (.slice base n cap)).run P w'= .ok ahP.toArray w')
  (hlen:(Builtin.lenOf x).run P w= .ok m w) (gF:∀w':World,w'.heap=w.heap→(Builtin.firstCells size m x).run P w'= .ok news.toArray w')
  (hg:cap<n+m) (Ln:n+m≤maxLen) (vI:(n+m)*bytes≤140737488355328):
  (Builtin.append_ #[t,t'] ty #[.slice base n cap,x]).run P w=
    .ok (.slice (some ⟨w.heap.size,0,none⟩) (n+m) (grownCap w (n+m) cap e))
      (w.drew.alloc (.cells (ahP.toArray++(news.toArray++Builtin.zeroCells z.cells (grownCap w (n+m) cap e-(n+m)))) e)):=by
 obtain⟨hu,⟨d',Af,C8⟩,⟨i,hi,hs,hb,hz⟩,Gx,iJ⟩:=hE;subst hs;subst hb;have hn:¬(n+m≤cap):=by omega
 have ahQ:¬(9223372036854775807<((n:Int)+(m:Int))):=by unfold maxLen at Ln;omega
 have h48:=growslice_fits hg vI;have ahR:¬(281474976710656<Builtin.nextslicecap (n+m) cap*i.bytes):=by omega
 have Wh:=hold w.drew rfl;have hf:=gF w.drew rfl;rcases C8 with rfl|⟨e',rfl⟩
 · simp [Builtin.append_,run_underlying hu,run_underlying Af,sizeOf,typeInfo,zeroValue,hi,hz,hlen,hn,ahQ,ahR,Question.forced,hf,Wh,newRow,grownCap]
 · simp [Builtin.append_,run_underlying hu,run_underlying Af,sizeOf,typeInfo,zeroValue,hi,hz,hlen,hn,ahQ,ahR,Question.forced,hf,Wh,newRow,grownCap]
theorem yD {t t' ty e:TypeId} {size bytes:Nat} {z:Value}(hE:Qm P t t' e size bytes z) {g n cap:Nat} {cur:Array Value}(hg:w.heap[g]? =some (.cells cur e (0,0))) {x:Value} {m:Nat} {news:List Value}
  (hlen:(Builtin.lenOf x).run P w= .ok m w) (gF:∀w':World,w'.heap=w.heap→(Builtin.firstCells size m x).run P w'= .ok news.toArray w')
  (hl:news.length=m*size) (h1:∀u∈news,u.oneCell'=true) (tR:n+m≤cap) (dc:cur.size=cap*size):
  (Builtin.append_ #[t,t'] ty #[.slice (some ⟨g,0,none⟩) n cap,x]).run P w=
    .ok (.slice (some ⟨g,0,none⟩) (n+m) cap) (w.setRow g (cur.toList.take (n*size)++news++cur.toList.drop (n*size+news.length)).toArray):=by
 obtain⟨hu,⟨d',Af,C8⟩,⟨i,hi,hs,hb,hz⟩,Gx,iJ⟩:=hE;subst hs;subst hb;have pa:n*i.size+news.length≤cur.size:=by rw [hl,dc,←Nat.add_mul];exact Nat.mul_le_mul_right _ tR
 have kI:=run_storeCells_at P g (n*i.size) e news 0 cur w hg (by simpa using pa) h1;simp only [Nat.add_zero] at kI;have hf:=gF w rfl;rcases C8 with rfl|⟨e',rfl⟩
 · simp [Builtin.append_,run_underlying hu,run_underlying Af,sizeOf,typeInfo,hi,hlen,tR,hf,Addr.add_lit,kI]
 · simp [Builtin.append_,run_underlying hu,run_underlying Af,sizeOf,typeInfo,hi,hlen,tR,hf,Addr.add_lit,kI]
theorem mv {t t' ty e:TypeId} {size bytes:Nat} {z:Value}(hE:Qm P t t' e size bytes z) {v:Value} {n:Nat} {xs:List Value}(fV:w.ownsRow 0 e size v n xs) {x:Value} {m:Nat} {news:List Value}
  (hlen:(Builtin.lenOf x).run P w= .ok m w) (gF:∀w':World,w'.heap=w.heap→(Builtin.firstCells size m x).run P w'= .ok news.toArray w')
  (hl:news.length=m*size) (h1:∀u∈news,u.oneCell'=true) (Ln:n+m≤maxLen) (vI:(n+m)*bytes≤140737488355328):
  ∃v' w',(Builtin.append_ #[t,t'] ty #[v,x]).run P w= .ok v' w'∧w'.ownsRow 0 e size v' (n+m) (xs++news)∧w.grownBy w' v.ownBlock∧∀b,ay v'=some b→ay v=some b∨w.heap.size≤b:=by
 have JN:(xs++news).length=(n+m)*size:=by rw [List.length_append,fV.1,hl,Nat.add_mul]
 have grown:∀(kE:Nat) (row:Option Nat),
   (w.drew.alloc (.cells (xs.toArray++(news.toArray++Builtin.zeroCells z.cells (grownCap w (n+m) kE e-(n+m)))) e)).ownsRow 0 e size
     (.slice (some ⟨w.heap.size,0,none⟩) (n+m) (grownCap w (n+m) kE e)) (n+m) (xs++news)∧
   w.grownBy (w.drew.alloc (.cells (xs.toArray++(news.toArray++Builtin.zeroCells z.cells (grownCap w (n+m) kE e-(n+m)))) e)) row:=by
  intro kE row;have Cd:=grownCap_ge w (n+m) kE e;have Ag:grownCap w (n+m) kE e≤maxLen:=grownCap_le_maxLen w (n+m) kE e Ln;refine⟨⟨JN, .inr ⟨w.heap.size,_,_,rfl,by omega,heap_alloc_new w.drew _,Cd,Ag,?_,?_⟩⟩,⟨rfl,rfl,rfl,by simp,fun k hk _=>heap_alloc_old w.drew _ k hk⟩⟩
  · simp only [Array.size_append,List.size_toArray,size_zeroCells,hE.Wl,fV.1,hl,←Nat.add_mul];congr 1
    omega
  · simp only [Array.toList_append];rw [←List.append_assoc,←JN];exact List.take_left
 rcases fV.2 with⟨rfl,rfl⟩|⟨g,cap,cur,rfl,hbg,hg,hnc,Ag,dc,ajc⟩
 · have hx:xs= []:=List.eq_nil_of_length_eq_zero (by simpa using fV.1);subst hx;by_cases hm:m=0
   · subst hm;have hn:news= []:=List.eq_nil_of_length_eq_zero (by simpa using hl);subst hn;refine⟨.slice none 0 0,w,?_,by simpa using World.ownsRow_nil w 0 e size,⟨rfl,rfl,rfl,Nat.le_refl _,fun _ _ _=>rfl⟩,by simp [ay]⟩;obtain⟨hu,⟨d',Af,C8⟩,⟨i,hi,hs,hb,hz⟩,Gx,iJ⟩:=hE;subst hs;have hf:=gF w rfl;rcases C8 with rfl|⟨e',rfl⟩
     · simp [Builtin.append_,run_underlying hu,run_underlying Af,sizeOf,typeInfo,hi,hlen,hf]
     · simp [Builtin.append_,run_underlying hu,run_underlying Af,sizeOf,typeInfo,hi,hlen,hf]
   · have hold:∀w':World,w'.heap=w.heap→(Builtin.firstCells size 0 (.slice none 0 0)).run P w'= .ok ([]:List Value).toArray w':=fun w' _=>by simp [Builtin.firstCells]
     have hr:=lM (ty:=ty) hE hold hlen gF (by omega) Ln vI;have Wm:=grown 0 (Value.ownBlock (.slice none 0 0));exact⟨_,_,hr,Wm.1,Wm.2,fun b hb=> .inr (by simp only [ay,Option.some.injEq] at hb;omega)⟩
 · by_cases tR:n+m≤cap
   · have pa:n*size+news.length≤cur.size:=by rw [hl,dc,←Nat.add_mul];exact Nat.mul_le_mul_right _ tR
     have hr:=yD (ty:=ty) hE hg hlen gF hl h1 tR dc;refine⟨_,_,hr,⟨JN, .inr ⟨g,cap,_,rfl,hbg,setRow_heap w g cur _ e _ hg,tR,Ag,?_,?_⟩⟩,⟨rfl,rfl,rfl,by simp,fun k _ hk=>setRow_other w g k _ (fun e=>hk (by simp [Value.ownBlock,e]))⟩,fun b hb=> .inl hb⟩
     · simp only [List.size_toArray,List.length_append,List.length_take,List.length_drop,Array.length_toList];omega
     · rw [ajc,←JN];exact List.take_left
   · have holds:=fV.cells (g:=g) rfl
     have hold:∀w':World,w'.heap=w.heap→(Builtin.firstCells size n (.slice (some ⟨g,0,none⟩) n cap)).run P w'= .ok xs.toArray w':=fun w' Wn=>by
      have :=run_loadCells_list (P:=P) w' ⟨g,0,none⟩ xs (fun j v hv=>by rw [C5 Wn];exact holds j v hv);rw [fV.1] at this;simpa [Builtin.firstCells] using this
     have hr:=lM (ty:=ty) hE hold hlen gF (by omega) Ln vI;have Wm:=grown cap (Value.ownBlock (.slice (some ⟨g,0,none⟩) n cap));exact⟨_,_,hr,Wm.1,Wm.2,fun b hb=> .inr (by simp only [ay,Option.some.injEq] at hb;omega)⟩
theorem aF.newRow(hB:aF C A β st a w) {dst:Option Nat}(hd:∀t,dst=some t→t<st.n) {d e:Nat} {row:List Ty} {l:List (Row row)} {cond:List Prop} {del:List Nat} {v':Value} {w':World} {rw :Option Nat} {xs:List Value}
  (fJ:st.h d=none∧ou d=false) (hg:w.grownBy w' rw) (ko:∀b,rw=some b→∃k,aG del k=true∧(st.h k).isSome∧ay (β k)=some b) (jy:∀b,rw=some b→¬A b)
  (fV:w'.ownsRow 0 e row.length v' l.length xs) (qU:b9 (bk w A row) xs l) (hblk:∀b,ay v'=some b→rw=some b∨w.heap.size≤b):
  aF C A (bI β d v') (st.put dst {cond:=cond,res:= .own d,del:=del,new:= [(d, .row e row l false)]}) (a.put dst v') w':=by
 have hK:cP w w' A A:=fun b hb=>⟨hb,hg.block b (hB.bound b hb) (fun h=>jy b h.symm hb)⟩
 have hf:∀k b,au [(d,AB.row e row l false)] k=some b→k=d∧b= .row e row l false :=by
  intro k b h;simp only [au] at h;by_cases hk:k=d
  · subst hk;simp only [bG,cond_true,Option.some.injEq] at h;exact⟨rfl,h.symm⟩
  · simp [aR hk] at h
 refine hB.step (out:= {cond:=cond,res:= .own d,del:=del,new:= [(d, .row e row l false)]}) hd ?_ (by simp [au]) ?_ hK hg.os hg.tape hg.output hg.size ?_ (fun b hb=>Nat.lt_of_lt_of_le (hB.bound b hb) hg.size) (fun b hb=> .inl hb) (by simp [au]) ?_ ?_ ?_ ?_
 · intro k b h;obtain⟨rfl,_⟩:=hf k b h;exact fJ
 · intro k h;have :k≠d:=by rintro rfl;simp [au] at h
   simp [bI,this]
 · intro b hb ht;refine hg.block b hb (fun h=> ?_);obtain⟨k,h1,h2,h3⟩:=ko b h.symm;exact ht k ⟨h2, .inr h1⟩ h3
 · intro k ab h;obtain⟨rfl,rfl⟩:=hf k ab h;refine⟨xs,by simpa [bI] using fV,bE (fun c x hx=>bF hK row c x hx) l xs qU,fun b hb=> ?_⟩;simp only [bI,if_true] at hb;simp only [Bool.false_eq_true,if_false];rcases hblk b hb with h|h
   · exact jy b h
   · intro hA;exact absurd (hB.bound b hA) (by omega)
 · intro k b ab h hb;obtain⟨rfl,_⟩:=hf k ab h;simp only [bI,if_true] at hb;rcases hblk b hb with h|h
   · exact .inr (let⟨k,h1,h2,h3⟩:=ko b h;⟨k,h1,h2,h3⟩)
   · exact .inl h
 · intro k k' b h h' _ _;obtain⟨x,hx⟩:=Option.isSome_iff_exists.1 h;obtain⟨y,hy⟩:=Option.isSome_iff_exists.1 h';rw [(hf k x hx).1,(hf k' y hy).1]
 · simp only [aa,bI,if_true,true_and]
   obtain⟨ad,l',c,rfl⟩:∃ad l c,v'= .slice ad l c:=by
    rcases fV.2 with⟨rfl,_⟩|⟨g,cap,cur,rfl,_⟩
    · exact⟨_,_,_,rfl⟩
    · exact⟨_,_,_,rfl⟩
   rfl
end
end Go.Vg

end
section
namespace Go.Vg
open Go
section
variable {P:Program} {C:Ctx} {A:Nat→Prop} {β:Nat→Value} {st:St} {a:Act} {w:World} {T:bY}
theorem yE(hT:bx T P) {t e:TypeId} {te:TE}(h1:vG T t=some e)(h2:qa T t=some te):P.underlying t=some (.slice e)∧T.find e=some te∧∃i,P.info? e=some i∧i.size=te.size∧i.bytes=te.bytes∧i.zero=some te.zero:=by
 unfold vG at h1;unfold qa at h2;cases ht:T.find t with
 |none=>simp [ht] at h1
 |some tt=>
  simp only [ht] at h1 h2;cases hd:tt.desc with
  |slice e'=>
   simp only [hd,Option.some.injEq] at h1 h2;subst h1;exact⟨by rw [jE hT ht,hd],h2,(hT.ok _ _ h2).2⟩
  |_=>simp [hd] at h1
theorem tS(z:Value):(ofConst z).cells.length=z.cells.size:=by
 unfold ofConst;split
 · simp [AV.cells,Value.cells]
 · rename_i h
   have h1:(sb z).cells.length=1:=by
    unfold sb;split
    · split<;>rfl
    · split<;>rfl
    · rename_i s;cases Nat.ble s.data.toList.length 1000000<;>rfl
    all_goals rfl
   rw [h1];cases z<;>first|rfl|exact absurd rfl (h _)
theorem so {n k x:Nat}(h:n≤x/k):n*k≤x:=Nat.le_trans (Nat.mul_le_mul_right _ h) (Nat.div_mul_le_self x k)
theorem pb(hT:bx T P) {t:TypeId} {f:TypeDesc→Bool}(h:dq T t f=true):∃d,P.underlying t=some d∧f d=true :=by
 unfold dq at h;cases ht:T.find t with
 |none=>simp [ht] at h
 |some te=>simp only [ht] at h;exact⟨te.desc,jE hT ht,h⟩
theorem NY {d:TypeDesc}(h:Cw d=true):d= .string∨∃e,d= .slice e:=by
 cases d<;>simp_all [Cw]
theorem C9(hB:aF C A β st a w) {k e:Nat} {row:List Ty} {l:List (Row row)}(h:st.h k=some (.row e row l false)):
  ∃xs,w.ownsRow 0 e row.length (β k) l.length xs∧b9 (bk w A row) xs l∧∀b,ay (β k)=some b→¬A b:=by
 obtain⟨xs,h1,h2,h3⟩:=hB.blocks k _ h;exact⟨xs,h1,h2,fun b hb=>by simpa using h3 b hb⟩
theorem yF {v:Value}(h:(∃ad l c,v= .slice ad l c)):v.ownBlock=ay v:=by
 obtain⟨ad,l,c,rfl⟩:=h;cases ad<;>rfl
theorem pc {w:World} {e size n:Nat} {v:Value} {xs:List Value}(h:w.ownsRow 0 e size v n xs):∃ad l c,v= .slice ad l c:=by
 rcases h.2 with⟨rfl,_⟩|⟨g,cap,cur,rfl,_⟩
 · exact⟨_,_,_,rfl⟩
 · exact⟨_,_,_,rfl⟩
theorem Gy(hT:bx T P)(hB:aF C A β st a w) {dst:Option Nat}(hd:∀t,dst=some t→t<st.n) {d:Nat}(fJ:st.h d=none∧ou d=false) {t t' ty:TypeId} {s x:AV} {vs vx:Value}(hs:aa w A β vs s)(hx:aa w A β vx x) {out:Out}
  (h:mn T st.h d t t' s x=some out) (hc:∀p∈out.cond,p):∃v' w',(Builtin.append_ #[t,t'] ty #[vs,vx]).run P w= .ok v' w'∧Rel C (st.put dst out) (a.put dst v') w':=by
 unfold mn at h;split at h
 · rename_i e te he kv;split at h
   · rename_i row ko;obtain⟨hu,JO,i,hi,oi,Lo,NZ⟩:=yE hT he kv;cases hq:(Nat.beq row.length te.size&&Nat.blt 0 te.size&&Nat.beq (ofConst te.zero).cells.length te.size&&dq T t' Cw) with
     |false=>simp [hq] at h
     |true=>
      simp only [hq,cond_true] at h;simp only [Bool.and_eq_true] at hq;obtain⟨⟨⟨q1,q2⟩,q3⟩,q4⟩:=hq;have q1:=Nat.eq_of_beq_eq_true q1;have q2:=Nat.le_of_ble_eq_true q2;have q3:=Nat.eq_of_beq_eq_true q3;obtain⟨d',Af,C8⟩:=pb hT q4;have hE:Qm P t t' e row.length te.bytes te.zero:=⟨hu,⟨d',Af,NY C8⟩,⟨i,hi,by omega,Lo,NZ⟩,by rw [←tS];omega,by omega⟩;split at h
      · rename_i m hm;obtain⟨cs,fe⟩:=Cy (P:=P) hB hx hm;have hlen:=eN m cs fe.rd;have gY:=tQ m cs fe.rd
        have gF:∀w':World,w'.heap=w.heap→(Builtin.firstCells row.length m.length vx).run P w'= .ok cs.toArray w':=fun w' Wn=>by
         have :=fe.first w' Wn m.length (Nat.le_refl _);rwa [←hlen,List.take_length] at this
        split at h
        ·
         simp only [Option.some.injEq] at h;subst h;have mw:=dL hc;simp only [aa] at hs;subst hs;have fV:=World.ownsRow_nil w 0 e row.length;obtain⟨v',w',g1,g2,g3,g4⟩:=mv (ty:=ty) hE fV fe.len gF hlen gY (by have :=Nat.le_trans mw (Nat.div_le_self _ _);unfold maxLen;omega) (by simpa using so mw);refine⟨v',w',g1,Rel.ku (hB.newRow hd fJ (rw :=none) (by simpa [Value.ownBlock] using g3) (by simp) (by simp) (by simpa using g2) fe.rd (fun b hb=> ?_))⟩;rcases g4 b hb with h|h
         · simp [ay] at h
         · exact .inr h
        · rename_i k;split at h
          · rename_i e' iH l hk;cases o9:Nat.beq e' e with
            |false=>simp [o9] at h
            |true=>
             have o9:=Nat.eq_of_beq_eq_true o9;subst o9;simp only [bG,cond_true] at h;split at h
             · rename_i l' iU;simp only [Option.some.injEq] at h;subst h;have mw:=dL hc;obtain⟨er,iU⟩:=iq iU;subst er;simp only at iU;subst iU;simp only [aa] at hs;obtain⟨rfl,_⟩:=hs;obtain⟨xs,o1,o2,o3⟩:=C9 hB hk;obtain⟨v',w',g1,g2,g3,g4⟩:=mv (ty:=ty) hE o1 fe.len gF hlen gY (by have :=Nat.le_trans mw (Nat.div_le_self _ _);unfold maxLen;omega) (so mw);rw [yF (pc o1)] at g3;refine⟨v',w',g1,Rel.ku (hB.newRow hd fJ (rw :=ay (β k)) g3 (fun b hb=>⟨k,by simp [aG],by simp [hk],hb⟩) o3 (by simpa using g2) (gE l m xs cs o2 fe.rd) (fun b hb=>g4 b hb))⟩
             · cases h
          · cases h
        · rename_i k n;split at h
          · rename_i e' iH l hk;cases o9:Nat.beq e' e with
            |false=>simp [o9] at h
            |true=>
             have o9:=Nat.eq_of_beq_eq_true o9;subst o9;simp only [bG,cond_true] at h;split at h
             · rename_i l' iU;simp only [Option.some.injEq] at h;subst h;have mw:=dL hc;obtain⟨er,iU⟩:=iq iU;subst er;simp only at iU;subst iU;obtain⟨xs,o1,o2,o3⟩:=C9 hB hk;have Da:=dV l xs n o2;simp only [aa] at hs
               have fV:w.ownsRow 0 e' iH.length vs n (xs.take (n*iH.length))∧n≤l.length∧ay vs=ay (β k):=by
                rcases hs with⟨h1,h2,h3⟩|⟨b,mm,cap,h1,h2,h3⟩
                · subst h3;subst h2;rw [h1];exact⟨by simpa using World.ownsRow_nil w 0 e' iH.length,by omega,rfl⟩
                · rcases o1.2 with⟨g1,_⟩|⟨g,im,cur,g1,g2,g3,g4,g5,g6,g7⟩
                  · rw [h1] at g1;cases g1
                  · rw [h1] at g1;simp only [Value.slice.injEq,Option.some.injEq,Addr.mk.injEq,and_true] at g1;obtain⟨rfl,rfl,rfl⟩:=g1;refine⟨⟨?_, .inr ⟨b,cap,cur,h2,by omega,g3,by omega,g5,g6,?_⟩⟩,h3,by rw [h1,h2];rfl⟩
                    · rw [List.length_take,o1.1];exact Nat.min_eq_left (Nat.mul_le_mul_right _ h3)
                    · rw [←g7,List.take_take,Nat.min_eq_left (Nat.mul_le_mul_right _ h3)]
               obtain⟨fV,Wo,Wp⟩:=fV;obtain⟨v',w',g1,g2,g3,g4⟩:=mv (ty:=ty) hE fV fe.len gF hlen gY (by have :=Nat.le_trans mw (Nat.div_le_self _ _);unfold maxLen;omega) (so mw);rw [yF (pc fV),Wp] at g3;refine⟨v',w',g1,Rel.ku (hB.newRow hd fJ (rw :=ay (β k)) g3 (fun b hb=>⟨k,by simp [aG],by simp [hk],hb⟩) o3 ?_ (gE _ m _ cs Da.1 fe.rd) (fun b hb=>by rw [←Wp];exact g4 b hb))⟩;have :(l.take n++m).length=n+m.length:=by simp;omega
               rw [this];exact g2
             · cases h
          · cases h
        · rename_i r l;split at h
          · rename_i l' iU;simp only [Option.some.injEq] at h;subst h;have hc0:=dL hc;have mw:=ahO hc;obtain⟨er,iU⟩:=iq iU;subst er;simp only at iU;subst iU;simp only [aa] at hs;obtain⟨qU,ad,rfl⟩:=hs;obtain⟨N0,UA⟩:=JM (P:=P) qU;have N1:=eN l N0 UA.rd
            have hold:∀w':World,w'.heap=w.heap→(Builtin.firstCells r.length l.length (.slice ad l.length l.length)).run P w'= .ok N0.toArray w':=fun w' Wn=>by
             have :=UA.first w' Wn l.length (Nat.le_refl _);rwa [←N1,List.take_length] at this
            have Ln:l.length+m.length≤maxLen:=by have :=Nat.le_trans mw (Nat.div_le_self _ _);unfold maxLen;omega
            have hr:=lM (ty:=ty) hE hold fe.len gF (by omega) Ln (so mw);refine⟨_,_,hr,Rel.ku (hB.newRow hd fJ (rw :=none) (xs:=N0++cs) ⟨rfl,rfl,rfl,by simp,fun k hk _=>heap_alloc_old w.drew _ k hk⟩ (by simp) (by simp) ?_ (gE l m N0 cs UA.rd fe.rd) (fun b hb=> .inr (by simp only [ay,Option.some.injEq] at hb;omega)))⟩;have Cd:=grownCap_ge w (l.length+m.length) l.length e;have Ag:=grownCap_le_maxLen w (l.length+m.length) l.length e Ln;have Lp:(N0++cs).length=(l.length+m.length)*r.length:=by rw [List.length_append,N1,hlen,Nat.add_mul]
            rw [List.length_append];refine⟨Lp, .inr ⟨w.heap.size,_,_,rfl,by omega,heap_alloc_new w.drew _,Cd,Ag,?_,?_⟩⟩
            · simp only [Array.size_append,List.size_toArray,size_zeroCells,hE.Wl,N1,hlen,←Nat.add_mul];congr 1
              omega
            · simp only [Array.toList_append];rw [←List.append_assoc,←Lp];exact List.take_left
          · cases h
        · cases h
      · cases h
   · cases h
 · cases h
end
end Go.Vg

end
section
namespace Go.Vg
open Go
section
variable {P:Program} {C:Ctx} {A:Nat→Prop} {β:Nat→Value} {st:St} {a:Act} {w:World} {T:bY}
theorem one_cell {v:Value}:∀(x:AV),x.one=true→aa w A β v x→v.oneCell'=true
 | .c5,h,_=>by simp [AV.one] at h
 | .undef,h,_=>by simp [AV.one] at h
 | .agg _,h,_=>by simp [AV.one] at h
 | .cD _,h,_=>by simp [AV.one] at h
 | .int _ _,_,h=>by simp only [aa] at h;rw [h.1];rfl
 | .bool _,_,h=>by simp only [aa] at h;rw [h];rfl
 | .tt,_,h=>by simp only [aa] at h;rw [h];rfl
 | .ff,_,h=>by simp only [aa] at h;rw [h];rfl
 | .str _,_,h=>by simp only [aa] at h;rw [h.1];rfl
 | .nil,_,h=>by simp only [aa] at h;rw [h];rfl
 | .jn,_,h=>by simp only [aa] at h;rw [h];rfl
 | .og _ _,_,h=>by simp only [aa] at h;obtain⟨b,h,_⟩:=h;rw [h];rfl
 | .jA,_,h=>by simp only [aa] at h;rw [h];rfl
 | .sl _ _,_,h=>by simp only [aa] at h;exact JL _ _ _ h
 | .full _ _,_,h=>by simp only [aa] at h;exact JL _ _ _ h.1
 | .gd _ _ _,_,h=>by simp only [aa] at h;obtain⟨b,o,cs,h,_⟩:=h;rw [h];rfl
 | .oY _ _,_,h=>by simp only [aa] at h;obtain⟨b,o,cs,h,_⟩:=h;rw [h];rfl
 | .own _,_,h=>by simp only [aa] at h;exact h.2
 | .pre _ _,_,h=>by
   simp only [aa] at h;rcases h with⟨_,h,_⟩|⟨b,m,cap,_,h,_⟩<;>rw [h]<;>rfl
 | .view _ _ _ _,_,h=>by
   simp only [aa] at h;rcases h with⟨_,ad,c,h,_⟩|⟨b,m,cap,im,_,h,_⟩<;>rw [h]<;>rfl
 | .ref _ _,_,h=>by simp only [aa] at h;obtain⟨b,_,h⟩:=h;rw [h];rfl
 | .elem _ _ _ _,_,h=>by simp only [aa] at h;obtain⟨b,m,cap,_,h⟩:=h;rw [h];rfl
 | .fn _ _ _,_,h=>by simp only [aa] at h;obtain⟨_,_,h,_⟩:=h;rw [h];rfl
 | .gf _ _,_,h=>by simp only [aa] at h;obtain⟨_,_,_,h,_⟩:=h;rw [h];rfl
theorem cells_one {v:Value}(h:v.oneCell'=true):v.cells= #[v]:=by
 cases v<;>simp_all [Value.oneCell',Value.cells]
theorem Lq:∀(xs:List AV) (vs:List Value),xs.all AV.one=true→af w A β vs xs→∀v∈vs,v.oneCell'=true
 | [],vs,_,h=>by simp only [af] at h;subst h;simp
 |x::xs,vs,ho,h=>by
  simp only [af] at h;obtain⟨v,bK,rfl,h1,h2⟩:=h;simp only [List.all_cons,Bool.and_eq_true] at ho;intro u hu;rcases List.mem_cons.1 hu with rfl|hu
  · exact one_cell x ho.1 h1
  · exact Lq xs bK ho.2 h2 u hu
theorem sq {x:AV} {v:Value}(ho:x.cells.all AV.one=true)(h:aa w A β v x):af w A β v.cells.toList x.cells∧(∀u∈v.cells.toList,u.oneCell'=true)∧v.cells.size=x.cells.length:=by
 by_cases hx:∃cs,x= .agg cs
 · obtain⟨cs,rfl⟩:=hx;simp only [aa] at h;obtain⟨arr,rfl,h⟩:=h;have :=c6 cs _ h;exact⟨h,Lq cs _ ho h,by simpa [Value.cells,AV.cells] using this⟩
 · have hc:x.cells= [x]:=by cases x<;>first|rfl|exact absurd ⟨_,rfl⟩ hx
   rw [hc] at ho ⊢;have ho':x.one=true :=by simpa using ho
   have h1:=one_cell x ho' h;rw [cells_one h1];refine⟨by simp only [af];exact⟨v,[],rfl,h,rfl⟩,by simpa using h1,rfl⟩
theorem dM:∀(xs ys:List AV) (us vs:List Value),af w A β us xs→af w A β vs ys→af w A β (us++vs) (xs++ys)
 | [],ys,us,vs,h,h'=>by simp only [af] at h;subst h;simpa using h'
 |x::xs,ys,us,vs,h,h'=>by
  simp only [af] at h;obtain⟨v,xo,rfl,h1,h2⟩:=h;simp only [List.cons_append,af];exact⟨v,xo++vs,rfl,h1,dM xs ys xo vs h2 h'⟩
theorem tT {cs vs:List AV} {arr us:List Value} {off:Nat}(h:af w A β arr cs)(hv:af w A β us vs):af w A β (arr.take off++us++arr.drop (off+us.length)) (yh cs off vs):=by
 have hl:=c6 vs us hv;unfold yh;rw [hl];exact dM _ _ _ _ (dM _ _ _ _ (fU cs arr off h).1 hv) (fU cs arr _ h).2
theorem pd(hT:bx T P) {t n:Nat}(h:jX T t n=true):∃i,P.info? t=some i∧i.size=n:=by
 unfold jX at h;cases ht:T.find t with
 |none=>simp [ht] at h
 |some te=>
  simp only [ht] at h;obtain⟨_,i,hi,hs,_⟩:=hT.ok t te ht;exact⟨i,hi,hs.trans (Nat.eq_of_beq_eq_true h)⟩
theorem lN {t:TypeId} {i:TypeInfo}(hi:P.info? t=some i) {v:Value}(hs:v.cells.size=i.size)(h1:∀u∈v.cells.toList,u.oneCell'=true) {b off:Nat} {arr:Array Value} {e:TypeId}(hg:w.heap[b]? =some (.cells arr e (0,0)))
  (pa:off+v.cells.size≤arr.size):(Instr.storeAt t (.pointer (some ⟨b,off,none⟩)) v).run P w= .ok () (w.setRow b (arr.toList.take off++v.cells.toList++arr.toList.drop (off+v.cells.toList.length)).toArray):=by
 have :=run_storeCells_at P b off e v.cells.toList 0 arr w hg (by simpa using pa) h1;simp only [Nat.add_zero] at this;simp [Instr.storeAt,Instr.sureAddr,storeVar,sizeOf,typeInfo,hi,hs,this]
theorem Gz(b:Nat)(cs:Array Value):(w.setRow b cs).os=w.os∧(w.setRow b cs).tape=w.tape∧(w.setRow b cs).output=w.output∧(w.setRow b cs).heap.size=w.heap.size:=⟨rfl,rfl,rfl,by simp⟩
theorem aF.write(hB:aF C A β st a w) {dst:Option Nat}(hd:∀t,dst=some t→t<st.n) {out:Out} {k b:Nat} {ab:AB} {fz:List Nat} {new:Array Value} {e:Nat} {kE:Array Value} {v:Value}
  (fc:(st.h k).isSome) (hb:ay (β k)=some b) (jy:¬A b) (hg:w.heap[b]? =some (.cells kE e (0,0)))
  (nB:out.new= []∧out.del= []∧out.gw=(k,ab)::cm st.h fz) (xu:∀j∈fz,j≠k∧∃e row l fr,st.h j=some (.row e row l fr))
  (fE:∀A',(∀b',A b'→A' b')→(∀b',A' b'→A b'∨∃j∈fz,ay (β j)=some b')→(∀j∈fz,∀b',ay (β j)=some b'→A' b')→BR (w.setRow b new) A' β k ab)
  (rv:aa (w.setRow b new) A β v out.res) (arB:out.raw= []:=by rfl):Rel C (st.put dst out) (a.put dst v) (w.setRow b new):=by
 obtain⟨o1,o2,o3⟩:=nB;let A':Nat→Prop :=fun b'=>A b'∨∃j∈fz,ay (β j)=some b'
 have eM:∀j b',(st.h j).isSome→ay (β j)=some b'→b'<w.heap.size:=by
  intro j b' hj bA;obtain⟨ab,fE⟩:=Option.isSome_iff_exists.1 hj;have fY:=hB.blocks j ab fE;cases ab with
  |arr row l=>
   obtain⟨b'',arr,e,h1,h2,_⟩:=fY;rw [h1] at bA;simp only [ay,Option.some.injEq] at bA;subst bA;exact(Array.getElem?_eq_some_iff.1 h2).1
  |cells cs=>
   obtain⟨b'',arr,e,h1,h2,_⟩:=fY;rw [h1] at bA;simp only [ay,Option.some.injEq] at bA;subst bA;exact(Array.getElem?_eq_some_iff.1 h2).1
  |row e row l fr=>
   obtain⟨xs,h1,_⟩:=fY;rcases h1.2 with⟨hn,_⟩|⟨g,cap,cur,hv,_,hg,_⟩
   · rw [hn] at bA;simp [ay] at bA
   · rw [hv] at bA;simp only [ay,Option.some.injEq] at bA;subst bA;exact(Array.getElem?_eq_some_iff.1 hg).1
  |gD e j row l i=>
   obtain⟨xs,v0,h1,_⟩:=fY;rcases h1.2 with⟨hn,_⟩|⟨g,cap,cur,hv,_,hg,_⟩
   · rw [hn] at bA;simp [ay] at bA
   · rw [hv] at bA;simp only [ay,Option.some.injEq] at bA;subst bA;exact(Array.getElem?_eq_some_iff.1 hg).1
  |views e j n m sz=>
   obtain⟨xs,h1,_⟩:=fY;rcases h1.2 with⟨hn,_⟩|⟨g,cap,cur,hv,_,hg,_⟩
   · rw [hn] at bA;simp [ay] at bA
   · rw [hv] at bA;simp only [ay,Option.some.injEq] at bA;subst bA;exact(Array.getElem?_eq_some_iff.1 hg).1
 have mY:∀b',b'≠b→(w.setRow b new).heap[b']? =w.heap[b']? :=fun b' h=>setRow_other w b b' new (fun h'=>h h');have hK0:cP w (w.setRow b new) A A:=fun b' h=>⟨h,mY b' (fun h'=>jy (h'▸h))⟩;have hK:cP w (w.setRow b new) A A':=fun b' h=>⟨.inl h,mY b' (fun h'=>jy (h'▸h))⟩;have N2:cP (w.setRow b new) (w.setRow b new) A A':=fun b' h=>⟨.inl h,rfl⟩
 have UB:∀(fz:List Nat) j x,au (cm st.h fz) j=some x→j∈fz∧∃e row l fr,st.h j=some (.row e row l fr)∧x= .row e row l true :=by
  intro fz;induction fz with
  |nil=>intro j x h;simp [cm,au] at h
  |cons i fz ih=>
   intro j x h;simp only [cm] at h;split at h
   · rename_i e row l fr hi;simp only [au] at h;by_cases Ah:j=i
     · subst Ah;simp only [bG,cond_true,Option.some.injEq] at h;exact⟨by simp,e,row,l,fr,hi,h.symm⟩
     · simp only [aR Ah,cond_false] at h;obtain⟨h1,h2⟩:=ih j x h;exact⟨by simp [h1],h2⟩
   · obtain⟨h1,h2⟩:=ih j x h;exact⟨by simp [h1],h2⟩
 have arC:∀(fz:List Nat) j,j∈fz→(∃e row l fr,st.h j=some (.row e row l fr))→(au (cm st.h fz) j).isSome:=by
  intro fz;induction fz with
  |nil=>intro j h;simp at h
  |cons i fz ih=>
   intro j h hr;simp only [cm];by_cases Ah:j=i
   · subst Ah;obtain⟨e,row,l,fr,hr⟩:=hr;simp [hr,au]
   · have :=ih j ((List.mem_cons.1 h).resolve_left Ah) hr;split
     · simp only [au,aR Ah,cond_false];exact this
     · exact this
 have yx:∀j x,au out.gw j=some x→(j=k∧x=ab)∨(j≠k∧j∈fz∧∃e row l fr,st.h j=some (.row e row l fr)∧x= .row e row l true):=by
  intro j x h;rw [o3] at h;simp only [au] at h;by_cases yG:j=k
  · subst yG;simp only [bG,cond_true,Option.some.injEq] at h;exact .inl ⟨rfl,h.symm⟩
  · simp only [aR yG,cond_false] at h;obtain⟨h1,h2⟩:=UB fz j x h;exact .inr ⟨yG,h1,h2⟩
 have Cc:kG st out k:=⟨fc, .inl (by rw [o3];simp [au])⟩;refine⟨A',β,hB.step hd (by rw [o1];simp [au]) ?_ (fun _ _=>rfl) hK rfl rfl rfl (by simp) ?_ ?_ ?_ ?_ (by rw [o1];simp [au]) (by rw [o1];simp [au]) (by rw [o1];simp [au]) (iI N2 _ _ rv) arB⟩
 · intro j x h;rcases yx j x h with⟨rfl,_⟩|⟨_,_,e,row,l,fr,h,_⟩
   · exact fc
   · simp [h]
 · intro b' _ ht;exact mY b' (fun h=>ht k Cc (h▸hb))
 · intro b' h;rw [(Gz b new).2.2.2];rcases h with h|⟨j,hj,N3⟩
   · exact hB.bound b' h
   · obtain⟨_,e,row,l,fr,hr⟩:=xu j hj;exact eM j b' (by simp [hr]) N3
 · intro b' h;rcases h with h|⟨j,hj,N3⟩
   · exact .inl h
   · obtain⟨yG,hr⟩:=xu j hj;refine .inr (.inr ⟨j,⟨by obtain⟨e,row,l,fr,hr⟩:=hr;simp [hr], .inl ?_⟩,N3⟩);rw [o3];simp only [au,aR yG,cond_false];exact arC fz j hj hr
 · intro j x h _;rw [o1];simp only [cJ];rcases yx j x h with⟨rfl,rfl⟩|⟨yG,hj,e',row,l,fr,hr,rfl⟩
   · exact fE A' (fun _ h=> .inl h) (fun _ h=>h) (fun j hj b' h=> .inr ⟨j,hj,h⟩)
   · obtain⟨xs,h1,h2,h3⟩:=hB.blocks j _ hr;have tU:∀b',ay (β j)=some b'→b'≠b:=fun b' h h'=>yG (hB.apart j k b (by simp [hr]) fc (h'▸h) hb);refine⟨xs,fS h1 (fun b' h=>mY b' (tU b' h)),bE (fun c x hx=>bF hK row c x hx) l xs h2,fun b' h=> ?_⟩;simp only [if_true];exact .inr ⟨j,hj,h⟩
theorem Ai(hT:bx T P)(hB:aF C A β st a w) {dst:Option Nat}(hd:∀t,dst=some t→t<st.n) {t:TypeId} {k off:Nat} {x:AV} {vp vx:Value}(hp:aa w A β vp (.ref k off))(hx:aa w A β vx x) {out:Out}
  (h:ij T st.h t (.ref k off) x=some out):∃w',(Instr.storeAt t vp vx).run P w= .ok () w'∧Rel C (st.put dst out) (a.put dst undef) w':=by
 simp only [ij] at h;split at h
 · rename_i cs hk;cases hq:(x.cells.all AV.one&&jX T t x.cells.length&&Nat.ble (off+x.cells.length) cs.length) with
   |false=>simp [hq] at h
   |true=>
    simp only [hq,cond_true,Option.some.injEq] at h;subst h;simp only [Bool.and_eq_true] at hq;obtain⟨⟨q1,q2⟩,q3⟩:=hq;have q3:=Nat.le_of_ble_eq_true q3;obtain⟨i,hi,cU⟩:=pd hT q2;obtain⟨c1,c2,c3⟩:=sq q1 hx;simp only [aa] at hp;obtain⟨b,bZ,rfl⟩:=hp;obtain⟨b',arr,e,h1,h2,h3,h4,h5⟩:=hB.blocks k _ hk;rw [bZ] at h1;simp only [Value.pointer.injEq,Option.some.injEq,Addr.mk.injEq,and_true] at h1;subst h1;have hlen:=c6 cs _ h4;have hb:ay (β k)=some b:=by rw [bZ];rfl
    refine⟨_,lN hi (by omega) c2 h2 (by rw [c3];simp at hlen;omega),?_⟩;refine hB.write hd (k:=k) (fz:= []) (ab:= .cells (yh cs off x.cells)) (by simp [hk]) hb h3 h2 ⟨rfl,rfl,rfl⟩ (by simp) ?_ (by simp [aa]);intro A' hA1 Db hA3;have hK:cP w (w.setRow b (arr.toList.take off++vx.cells.toList++arr.toList.drop (off+vx.cells.toList.length)).toArray) A A':=fun b' h=>⟨hA1 b' h,setRow_other w b b' _ (fun h'=>h3 (h'▸h))⟩;refine⟨b,_,e,bZ,setRow_heap w b arr _ e _ h2,fun h=> ?_,eA hK _ _ (tT h4 c1),?_⟩
    · rcases Db b h with h|⟨j,hj,_⟩
      · exact h3 h
      · simp at hj
    · intro v hv;rcases List.mem_append.1 hv with hv|hv
      · rcases List.mem_append.1 hv with hv|hv
        · exact h5 v (List.mem_of_mem_take hv)
        · exact c2 v hv
      · exact h5 v (List.mem_of_mem_drop hv)
 · cases h
end
end Go.Vg

end
section
namespace Go.Vg
open Go
section
variable {P:Program} {C:Ctx} {A A':Nat→Prop} {β:Nat→Value} {st:St} {a:Act} {w:World} {T:bY}
theorem G9 {k:IntKind} {n:Int}(h:lo k≤n∧n≤hi k):DI.toInt k (DI.ofInt k n)=n:=by
 cases k<;>try rfl
 simp [lo,hi] at h;simp only [DI.toInt,DI.ofInt,UInt8.toNat_ofNat'];omega
theorem Dc:∀(t:Ty) (x:AV) (v:Value) (d:D t),aa w A β v x→Le t x=some d→Rd w A t v d:=by
 intro t x v d h hd;unfold Le at hd;split at hd
 · rename_i k k' n;split at hd
   · rename_i hk;subst hk;simp only [Option.some.injEq] at hd;subst hd;simp only [aa] at h;simp only [Rd,G9 h.2];exact h
   · cases hd
 · simp only [Option.some.injEq] at hd;subst hd;simpa only [Rd,aa] using h
 · simp only [Option.some.injEq] at hd;subst hd;simpa only [Rd,aa] using h
 · simp only [Option.some.injEq] at hd;subst hd;simpa only [Rd,aa] using h
 · simp only [Option.some.injEq] at hd;subst hd;simpa only [Rd,aa] using h
 · obtain⟨e,hd⟩:=iq hd;subst e;simp only at hd;subst hd;simpa only [aa] using h
 · obtain⟨e,hd⟩:=iq hd;subst e;simp only at hd;subst hd;simp only [aa] at h;exact h.1
 · simp only [Option.some.injEq] at hd;subst hd;simp only [aa] at h;simp only [Rd];exact⟨none,0,[],by simpa using h,by simp,by simp,by simp [b9],by simp⟩
 · cases hd
theorem pe {t:Ty}:∀(ts:List Ty) (x:D t) (y:Row ts),Row.hd (Row.mk x y:Row (t::ts))=x
 | [],_,_=>rfl
 |_::_,_,_=>rfl
theorem tV {t:Ty}:∀(ts:List Ty) (x:D t) (y:Row ts),Row.tl (Row.mk x y:Row (t::ts))=y
 | [],_,_=>rfl
 |_::_,_,_=>rfl
theorem pg:∀(ts:List Ty) (xs:List AV) (vs:List Value) (r:Row ts),af w A β vs xs→kp ts xs=some r→bk w A ts vs r
 | [],[],vs,r,h,_=>by simpa only [af,bk] using h
 |t::ts,x::xs,vs,r,h,hr=>by
  simp only [af] at h;obtain⟨v,bK,rfl,h1,h2⟩:=h;simp only [kp] at hr;split at hr
  · rename_i d y hd hy;simp only [Option.some.injEq] at hr;subst hr;simp only [bk];exact⟨v,bK,rfl,by rw [pe];exact Dc t x v d h1 hd,by rw [tV];exact pg ts xs bK y h2 hy⟩
  · cases hr
 | [],_::_,_,_,_,hr=>by simp [kp] at hr
 |_::_,[],_,_,_,hr=>by simp [kp] at hr
theorem Bh:∀(ts:List Ty) (r:Row ts) (j:Nat) (x:AV) (cs:List Value) (v:Value) (r':Row ts),bk w A ts cs r→aa w A β v x→setRow ts r j x=some r'→bk w A ts (cs.set j v) r'∧j<cs.length
 | [],_,_,_,_,_,_,_,_,hr=>by simp [setRow] at hr
 |t::ts,r,0,x,cs,v,r',h,hx,hr=>by
  simp only [bk] at h;obtain⟨u,eW,rfl,h1,h2⟩:=h;simp only [setRow] at hr;split at hr
  · rename_i d hd;simp only [Option.some.injEq] at hr;subst hr;simp only [bk,List.set_cons_zero];exact⟨⟨v,eW,rfl,by rw [pe];exact Dc t x v d hx hd,by rw [tV];exact h2⟩,by simp⟩
  · cases hr
 |t::ts,r,j+1,x,cs,v,r',h,hx,hr=>by
  simp only [bk] at h;obtain⟨u,eW,rfl,h1,h2⟩:=h;simp only [setRow] at hr;split at hr
  · rename_i y hy;simp only [Option.some.injEq] at hr;subst hr;obtain⟨g1,g2⟩:=Bh ts _ j x eW v y h2 hx hy;simp only [bk,List.set_cons_succ];exact⟨⟨u,_,rfl,by rw [pe];exact h1,by rw [tV];exact g1⟩,by simp [g2]⟩
  · cases hr
theorem Lr(cs:List Value)(j:Nat)(v:Value)(us:List Value)(h:j<cs.length):(cs.set j v).take (j+1)++us++(cs.set j v).drop (j+1+us.length)=cs.take j++(v::us)++cs.drop (j+(v::us).length):=by
 have e1:(cs.set j v).take (j+1)=cs.take j++ [v]:=by
  rw [List.take_succ_eq_append_getElem (by simpa using h)];simp [List.take_set_of_le]
 have e2:(cs.set j v).drop (j+1+us.length)=cs.drop (j+(us.length+1)):=by
  rw [List.drop_set_of_lt (by omega)];congr 1;omega
 rw [e1,e2];simp
theorem sr(ts:List Ty):∀(xs:List AV) (r:Row ts) (j:Nat) (cs us:List Value) (r':Row ts),bk w A ts cs r→af w A β us xs→nv ts r j xs=some r'→bk w A ts (cs.take j++us++cs.drop (j+us.length)) r'∧(us≠ []→j+us.length≤cs.length)
 | [],r,j,cs,us,r',h,hx,hr=>by
   simp only [af] at hx;subst hx;simp only [nv,Option.some.injEq] at hr;subst hr;simpa using h
 |x::xs,r,j,cs,us,r',h,hx,hr=>by
  simp only [af] at hx;obtain⟨v,xo,rfl,h1,h2⟩:=hx;simp only [nv] at hr;split at hr
  · rename_i y hy;obtain⟨g1,g2⟩:=Bh ts r j x cs v y h h1 hy;obtain⟨f1,f2⟩:=sr ts xs y (j+1) (cs.set j v) xo r' g1 h2 hr;rw [Lr cs j v xo g2] at f1;refine⟨f1,fun _=> ?_⟩;by_cases hu:xo= []
    · subst hu;simp;omega
    · have :=f2 hu;simp at this ⊢;omega
  · cases hr
theorem oQ(hB:aF C A β st a w) {x:AV} {v:Value}(h:aa w A β v x)(hA:∀b,A b→A' b)(lj:∀k∈(fD st.h x).2,∀b,ay (β k)=some b→A' b):
  aa w A' β v (fD st.h x).1∧∀k∈(fD st.h x).2,∃e row l fr,st.h k=some (.row e row l fr):=by
 have hK:cP w w A A':=fun b hb=>⟨hA b hb,rfl⟩;unfold fD at lj ⊢;split at lj
 · rename_i k;simp only [aa] at h;split at lj
   · rename_i e row l fr hk;refine⟨?_,fun j hj=>by simp at hj;subst hj;exact⟨e,row,l,fr,hk⟩⟩;simp only [aa,Rd];rcases lh hB hk with⟨g1,g2⟩|⟨b,cap,cs,g1,g2,g3,g4,g5⟩
     · subst g2;rw [h.1,g1];exact⟨none,0,[],rfl,by simp,by simp,by simp [b9],by simp⟩
     · rw [h.1,g1];exact⟨_,cap,cs,rfl,g2,g3,bE (fun c x hx=>bF hK row c x hx) l cs g4,fun _=>⟨b,0,rfl,lj k (by simp) b (by rw [g1];rfl),g5⟩⟩
   · exact⟨by simp [aa],by simp⟩
 · rename_i k n;simp only [aa] at h;split at lj
   · rename_i e row l fr hk;refine⟨?_,fun j hj=>by simp at hj;subst hj;exact⟨e,row,l,fr,hk⟩⟩;simp only [aa,Rd];rcases h with⟨h1,h2,h3⟩|⟨b',m,im,h1,h2,h3⟩
     · subst h3;rw [h2];exact⟨none,0,[],by simp,by simp,by simp,by simp [b9],by simp⟩
     · rcases lh hB hk with⟨g1,g2⟩|⟨b,cap,cs,g1,g2,g3,g4,g5⟩
       · rw [g1] at h1;cases h1
       · rw [g1] at h1;simp only [Value.slice.injEq,Option.some.injEq,Addr.mk.injEq,and_true] at h1;obtain⟨rfl,rfl,rfl⟩:=h1;have hl:(l.take n).length=n:=by simp;omega
         refine⟨_,cap,cs.take (n*row.length),by rw [h2,hl],by rw [hl];omega,g3,bE (fun c x hx=>bF hK row c x hx) _ _ (dV l cs n g4).1,fun _=>⟨b,0,rfl,lj k (by simp) b (by rw [g1];rfl),gU g5⟩⟩
   · exact⟨by simp [aa],by simp⟩
 · rename_i k sz off n;simp only [aa] at h;split at lj
   · rename_i e row l fr hk;cases cU:Nat.beq sz row.length with
     |false=>exact⟨by simp [aa],by simp⟩
     |true=>
      simp only [cU,cond_true] at lj ⊢;have cU:=Nat.eq_of_beq_eq_true cU;subst cU;refine⟨?_,fun j hj=>by simp at hj;subst hj;exact⟨e,row,l,fr,hk⟩⟩;simp only [aa,Rd];rcases h with⟨hn,ad,cap,h2,Ag⟩|⟨b',m,im,tL,h1,h2,h3,h4,h5⟩
      · subst hn;rw [h2];exact⟨ad,cap,[],by simp,by simp,Ag,by simp [b9],by simp⟩
      · rcases lh hB hk with⟨g1,g2⟩|⟨b,cap,cs,g1,g2,g3,g4,g5⟩
        · rw [g1] at h1;cases h1
        · rw [g1] at h1;simp only [Value.slice.injEq,Option.some.injEq,Addr.mk.injEq,and_true] at h1;obtain⟨rfl,rfl,rfl⟩:=h1;have hl:((l.drop off).take n).length=n:=by simp;omega
          refine⟨_,tL,(cs.drop (off*row.length)).take (n*row.length),by rw [h2,hl],by rw [hl];omega,by omega,bE (fun c x hx=>bF hK row c x hx) _ _ (dV _ _ n (dV l cs off g4).2).1,fun _=>⟨b,_,rfl,lj k (by simp) b (by rw [g1];rfl),?_⟩⟩;have :=gU (n:=n*row.length) (mW (n:=off*row.length) g5);simpa using this
   · exact⟨by simp [aa],by simp⟩
 · exact⟨iI hK _ _ h,by simp⟩
end
end Go.Vg

end
section
namespace Go.Vg
open Go
section
variable {P:Program} {C:Ctx} {A A':Nat→Prop} {β:Nat→Value} {st:St} {a:Act} {w:World} {T:bY}
theorem Ha(hB:aF C A β st a w)(hA:∀b,A b→A' b):∀(xs:List AV) (vs:List Value),af w A β vs xs→(∀k∈(lG st.h xs).2,∀b,ay (β k)=some b→A' b)→
  af w A' β vs (lG st.h xs).1∧∀k∈(lG st.h xs).2,∃e row l fr,st.h k=some (.row e row l fr)
 | [],vs,h,_=>by simp only [af] at h;subst h;simp [lG,af]
 |x::xs,vs,h,lj=>by
  simp only [af] at h;obtain⟨v,bK,rfl,h1,h2⟩:=h;simp only [lG] at lj ⊢;obtain⟨p1,p2⟩:=oQ hB h1 hA (fun k hk=>lj k (by simp [hk]));obtain⟨q1,q2⟩:=Ha hB hA xs bK h2 (fun k hk=>lj k (by simp [hk]));refine⟨by simp only [af];exact⟨v,bK,rfl,p1,q1⟩,fun k hk=> ?_⟩;rcases List.mem_append.1 hk with hk|hk
  · exact p2 k hk
  · exact q2 k hk
theorem tW(hB:aF C A β st a w)(hA:∀b,A b→A' b)(x:AV)(v:Value)(h:aa w A β v x)(lj:∀k∈(me st.h x).2,∀b,ay (β k)=some b→A' b):
  aa w A' β v (me st.h x).1∧∀k∈(me st.h x).2,∃e row l fr,st.h k=some (.row e row l fr):=by
 unfold me at lj ⊢;split at lj
 · rename_i cs;simp only [aa] at h;obtain⟨arr,rfl,h⟩:=h;obtain⟨p1,p2⟩:=Ha hB hA cs _ h lj;exact⟨by simp only [aa];exact⟨arr,rfl,p1⟩,p2⟩
 · exact oQ hB h hA lj
theorem Aj(hB:aF C A β st a w)(hA:∀b,A b→A' b):∀(xs:List AV) (vs:List Value),af w A β vs xs→(∀k∈(jC st.h xs).2,∀b,ay (β k)=some b→A' b)→
  af w A' β vs (jC st.h xs).1∧∀k∈(jC st.h xs).2,∃e row l fr,st.h k=some (.row e row l fr)
 | [],vs,h,_=>by simp only [af] at h;subst h;simp [jC,af]
 |x::xs,vs,h,lj=>by
  simp only [af] at h;obtain⟨v,bK,rfl,h1,h2⟩:=h;simp only [jC] at lj ⊢;obtain⟨p1,p2⟩:=tW hB hA x v h1 (fun k hk=>lj k (by simp [hk]));obtain⟨q1,q2⟩:=Aj hB hA xs bK h2 (fun k hk=>lj k (by simp [hk]));refine⟨by simp only [af];exact⟨v,bK,rfl,p1,q1⟩,fun k hk=> ?_⟩;rcases List.mem_append.1 hk with hk|hk
  · exact p2 k hk
  · exact q2 k hk
theorem yH {h:aS}:∀(xs:List AV),(lG h xs).1.length=xs.length
 | []=>rfl
 |x::xs=>by simp [lG,yH xs]
theorem qg {h:aS}(x:AV):(me h x).1.cells.length=x.cells.length:=by
 unfold me;split
 · simp [AV.cells,yH]
 · rename_i hna;have hz:x.cells.length=1:=by cases x<;>first|rfl|exact absurd rfl (hna _)
   rw [hz];unfold fD;split
   · split<;>rfl
   · split<;>rfl
   · split
     · rename_i sz _ _ _ _ rr _ _ _;cases Nat.beq sz rr.length<;>rfl
     · rfl
   · exact hz
theorem Dd {x:AV} {v:Value}(h:aa w A β v x) {row:List Ty} {r r':Row row} {cs:List Value} {j:Nat}(hr:bk w A row cs r)(hs:nv row r j x.cells=some r'):
  af w A β v.cells.toList x.cells∧bk w A row (cs.take j++v.cells.toList++cs.drop (j+v.cells.toList.length)) r'∧(∀u∈v.cells.toList,u.oneCell'=true)∧(v.cells.toList≠ []→j+v.cells.toList.length≤cs.length)∧v.cells.size=x.cells.length:=by
 have key:∀us,af w A β us x.cells→bk w A row (cs.take j++us++cs.drop (j+us.length)) r'∧(∀u∈us,u.oneCell'=true)∧(us≠ []→j+us.length≤cs.length):=by
  intro us nY;obtain⟨f1,f2⟩:=sr row x.cells r j cs us r' hr nY hs;exact⟨f1,fun u hu=>tP row _ r' f1 u (by simp [hu]),f2⟩
 by_cases hx:∃cs,x= .agg cs
 · obtain⟨xs,rfl⟩:=hx;simp only [aa] at h;obtain⟨arr,rfl,h⟩:=h;obtain⟨k1,k2,k3⟩:=key arr.toList h;exact⟨h,k1,k2,k3,by simpa [Value.cells,AV.cells] using c6 xs _ h⟩
 · have hc:x.cells= [x]:=by cases x<;>first|rfl|exact absurd ⟨_,rfl⟩ hx
   have nY:af w A β [v] x.cells:=by rw [hc];simp only [af];exact⟨v,[],rfl,h,rfl⟩
   obtain⟨k1,k2,k3⟩:=key [v] nY;have h1:=k2 v (by simp);rw [cells_one h1];exact⟨nY,k1,k2,k3,by rw [hc];rfl⟩
theorem De {row:List Ty} {l:List (Row row)} {i j:Nat} {cur:Array Value} {us:List Value} {y:Row row}(hi:i<l.length)(hL:b9 (bk w A row) (cur.toList.take (l.length*row.length)) l)
  (hy:∀c,bk w A row c l[i]→bk w A row (c.take j++us++c.drop (j+us.length)) y∧(us≠ []→j+us.length≤c.length)) (dc:l.length*row.length≤cur.size):
  let new:=(cur.toList.take (i*row.length+j)++us++cur.toList.drop (i*row.length+j+us.length)).toArray
  new.size=cur.size∧b9 (bk w A row) (new.toList.take (l.length*row.length)) (l.set i y)∧i*row.length+j+us.length≤cur.size∨us= []:=by
 intro new;by_cases nY:us= []
 · exact .inr nY
 left;obtain⟨c1,c,c2,e1,e2,e3,e4,e5⟩:=o8 l _ i hi hL;obtain⟨f1,f2⟩:=hy c e3;have f2:=f2 nY;have hc:=fT row c _ e3;have gG:(cur.toList.take (l.length*row.length)).length=l.length*row.length:=by rw [List.length_take];simp;omega
 have eM:i*row.length+row.length≤l.length*row.length:=by
  have :(i+1)*row.length≤l.length*row.length:=Nat.mul_le_mul_right _ hi;rwa [Nat.add_mul,Nat.one_mul] at this
 have pa:i*row.length+j+us.length≤cur.size:=by omega
 refine⟨by simp [new];omega,?_,pa⟩;have Cz:cur.toList=c1++(c++c2)++cur.toList.drop (l.length*row.length):=by rw [←e1,List.take_append_drop]
 have dj:new.toList=c1++((c.take j++us++c.drop (j+us.length))++c2)++cur.toList.drop (l.length*row.length):=by
  have t1:cur.toList.take (i*row.length+j)=c1++c.take j:=by
   rw [Cz,←e2,List.append_assoc,List.take_length_add_append,List.append_assoc,List.take_append_of_le_length (by omega)]
  have t2:cur.toList.drop (i*row.length+j+us.length)=c.drop (j+us.length)++c2++cur.toList.drop (l.length*row.length):=by
   conv=>lhs;rw [Cz]
   rw [show i*row.length+j+us.length=c1.length+(j+us.length) by omega,List.append_assoc,List.drop_length_add_append,List.append_assoc,List.drop_append_of_le_length (by omega),List.append_assoc]
  simp only [new,t1,t2];simp
 rw [dj]
 have ajg:(c1++((c.take j++us++c.drop (j+us.length))++c2)).length=l.length*row.length:=by
  have :=congrArg List.length e1;rw [gG] at this;simp at this ⊢;omega
 rw [←ajg,List.take_left]
 have tf:l.set i y=l.take i++(y::l.drop (i+1)):=by
  rw [List.set_eq_take_append_cons_drop,if_pos hi]
 rw [tf];exact gE _ _ _ _ e4 ⟨_,c2,rfl,f1,e5⟩
theorem yI(hT:bx T P)(hB:aF C A β st a w) {dst:Option Nat}(hd:∀t,dst=some t→t<st.n) {t:TypeId} {k sz i j:Nat} {x:AV} {vp vx:Value}(hp:aa w A β vp (.elem k sz i j))(hx:aa w A β vx x) {out:Out}
  (h:ij T st.h t (.elem k sz i j) x=some out) (hc:∀p∈out.cond,p):∃w',(Instr.storeAt t vp vx).run P w= .ok () w'∧Rel C (st.put dst out) (a.put dst undef) w':=by
 simp only [ij] at h;split at h
 · rename_i e row l hk;cases hq:(Nat.beq sz row.length&&jX T t x.cells.length&&Nat.blt 0 x.cells.length) with
   |false=>simp [hq] at h
   |true=>
    simp only [hq,cond_true] at h;simp only [Bool.and_eq_true] at hq;obtain⟨⟨q1,q2⟩,q3⟩:=hq;have q3:=Nat.le_of_ble_eq_true q3;have q1:=Nat.eq_of_beq_eq_true q1;subst q1;split at h
    · rename_i y hy;cases Df:(me st.h x).2.elem k with
      |true=>rw [Df] at h;simp at h
      |false=>
       rw [Df] at h;simp only [cond_false,Option.some.injEq] at h;subst h;have hi:i<l.length:=dL hc;rw [getD_eq l _ _ hi] at hy;simp only [aa] at hp;obtain⟨b,m,cap,bZ,rfl⟩:=hp;rcases eC hB hk with⟨_,hl⟩|⟨b',im,cur,hv,hg,hle,rC,dc,hL,jy⟩
       · subst hl;simp at hi
       · rw [bZ] at hv;simp only [Value.slice.injEq,Option.some.injEq,Addr.mk.injEq,and_true] at hv;obtain⟨rfl,rfl,rfl⟩:=hv;simp only [Bool.false_eq_true,if_false] at jy;have hb:ay (β k)=some b:=by rw [bZ];rfl
         obtain⟨ii,hU,oi⟩:=pd hT q2;let A1:Nat→Prop :=fun b'=>A b'∨∃j∈(me st.h x).2,ay (β j)=some b'
         obtain⟨px,pk⟩:=tW (A':=A1) hB (fun b h=> .inl h) x vx hx (fun k hk b hb=> .inr ⟨k,hk,hb⟩);have hKA:cP w w A A1:=fun b h=>⟨.inl h,rfl⟩;have hL1:b9 (bk w A1 row) (cur.toList.take (l.length*row.length)) l:=bE (fun c x hx=>bF hKA row c x hx) l _ hL;have yJ:l.length*row.length≤cur.size:=by rw [dc];exact Nat.mul_le_mul_right _ hle
         have hyy:∀c,bk w A1 row c l[i]→bk w A1 row (c.take j++vx.cells.toList++c.drop (j+vx.cells.toList.length)) y∧(vx.cells.toList≠ []→j+vx.cells.toList.length≤c.length):=
          fun c hc=>let h:=Dd px hc hy;⟨h.2.1,h.2.2.2.1⟩
         obtain⟨c1,c,c2,e1,e2,e3,e4,e5⟩:=o8 l _ i hi hL1;have yK:=Dd px e3 hy
         have nW:vx.cells.size=ii.size:=by
          have h1:=yK.2.2.2.2;have h2:=qg (h:=st.h) x;omega
         rcases De hi hL1 hyy yJ with⟨g1,g2,g3⟩|nY
         · refine⟨_,lN hU nW yK.2.2.1 hg (by simpa using g3),?_⟩;refine hB.write hd (k:=k) (fz:=(me st.h x).2) (ab:= .row e row (l.set i y) false) (by simp [hk]) hb jy hg ⟨rfl,rfl,rfl⟩ (fun q hq=>⟨?_,pk q hq⟩) ?_ (by simp [aa])
           · rintro rfl;rw [List.elem_eq_mem] at Df;simp [hq] at Df
           · intro A2 h1 h2 h3
             have hK:cP w (w.setRow b (cur.toList.take (i*row.length+j)++vx.cells.toList++cur.toList.drop (i*row.length+j+vx.cells.toList.length)).toArray) A1 A2:=by
              intro b' bA;rcases bA with bA|⟨q,hq,wo⟩
              · exact⟨h1 b' bA,setRow_other w b b' _ (fun h'=>jy (h'▸bA))⟩
              · refine⟨h3 q hq b' wo,setRow_other w b b' _ (fun h'=> ?_)⟩;subst h';obtain⟨e',iH,l',zY,lE⟩:=pk q hq;have :q=k:=hB.apart q k b' (by simp [lE]) (by simp [hk]) wo hb;subst this;rw [List.elem_eq_mem] at Df;simp [hq] at Df
             refine⟨_,⟨?_, .inr ⟨b,cap,_,by rw [bZ];simp,by omega,setRow_heap w b cur _ e _ hg,by simpa using hle,rC,g1.trans dc,rfl⟩⟩,?_,fun b' bA=> ?_⟩
             · rw [List.length_take];refine Nat.min_eq_left ?_;rw [List.length_set];exact Nat.le_trans yJ (Nat.le_of_eq g1.symm)
             · simp only [List.length_set];exact bE (fun c x hx=>bF hK row c x hx) _ _ g2
             · rw [hb] at bA;simp only [Option.some.injEq] at bA;subst bA;simp only [Bool.false_eq_true,if_false];intro Db;rcases h2 _ Db with h|⟨q,hq,wo⟩
               · exact jy h
               · obtain⟨e',iH,l',zY,lE⟩:=pk q hq;have :q=k:=hB.apart q k _ (by simp [lE]) (by simp [hk]) wo hb;subst this;rw [List.elem_eq_mem] at Df;simp [hq] at Df
         · exfalso;have h1:=yK.2.2.2.2;have h2:=qg (h:=st.h) x;have h3:vx.cells.size=0:=by simpa using congrArg List.length nY
           omega
    · cases h
 · cases h
end
end Go.Vg

end
section
namespace Go.Vg
open Go
section
variable {P:Program} {C:Ctx} {A A':Nat→Prop} {β:Nat→Value} {st:St} {a:Act} {w:World} {T:bY}
theorem dz {d k:Nat} {ab b:AB}(h:au [(d,ab)] k=some b):k=d∧b=ab:=by
 simp only [au] at h;by_cases hk:k=d
 · subst hk;simp only [bG,cond_true,Option.some.injEq] at h;exact⟨rfl,h.symm⟩
 · simp [aR hk] at h
theorem my(o:Obj)(k:Nat)(hk:k<w.heap.size):(w.alloc o).heap[k]? =w.heap[k]? :=heap_alloc_old w o k hk
theorem aF.Hb(hB:aF C A β st a w) {dst:Option Nat}(hd:∀t,dst=some t→t<st.n) {d e:Nat} {cs:List AV} {arr:Array Value} {cond:List Prop}
  (fJ:st.h d=none∧ou d=false) (hrel:af w A β arr.toList cs) (gY:∀v∈arr.toList,v.oneCell'=true):
  aF C A (bI β d (.pointer (some ⟨w.heap.size,0,none⟩))) (st.put dst {cond:=cond,res:= .ref d 0,new:= [(d, .cells (e9 d cs))]}) (a.put dst (.pointer (some ⟨w.heap.size,0,none⟩))) (w.alloc (.cells arr e)):=by
 have hK:cP w (w.alloc (.cells arr e)) A A:=fun b hb=>⟨hb,my _ b (hB.bound b hb)⟩
 have bZ:∀k,au [(d,AB.cells (e9 d cs))] k=none→bI β d (.pointer (some ⟨w.heap.size,0,none⟩)) k=β k:=by
  intro k h;have :k≠d:=by rintro rfl;simp [au] at h
  simp [bI,this]
 refine hB.step (out:= {cond:=cond,res:= .ref d 0,new:= [(d, .cells (e9 d cs))]}) hd ?_ (by simp [au]) bZ hK rfl rfl rfl (by simp) (fun b hb _=>my _ b hb) (fun b hb=>by have :=hB.bound b hb;simp;omega) (fun b hb=> .inl hb) (by simp [au]) ?_ ?_ ?_ ?_
 · intro k b h;obtain⟨rfl,_⟩:=dz h;exact fJ
 · intro k ab h;obtain⟨rfl,rfl⟩:=dz h;refine⟨w.heap.size,arr,e,by simp [bI],heap_alloc_new w _,fun h=>absurd (hB.bound _ h) (by omega),fR k _ _ _ (eA hK _ _ hrel),gY⟩
 · intro k b ab h hb;obtain⟨rfl,_⟩:=dz h;simp only [bI,if_true,ay,Option.some.injEq] at hb;exact .inl (by omega)
 · intro k k' b h h' _ _;obtain⟨x,hx⟩:=Option.isSome_iff_exists.1 h;obtain⟨y,hy⟩:=Option.isSome_iff_exists.1 h';rw [(dz hx).1,(dz hy).1]
 · simp only [aa];exact⟨w.heap.size,by simp [bI],rfl⟩
theorem gV {h:aS}:∀(fz:List Nat) j x,au (cm h fz) j=some x→j∈fz∧∃e row l fr,h j=some (.row e row l fr)∧x= .row e row l true :=by
 intro fz;induction fz with
 |nil=>intro j x h;simp [cm,au] at h
 |cons i fz ih=>
  intro j x h;simp only [cm] at h;split at h
  · rename_i e row l fr hi;simp only [au] at h;by_cases Ah:j=i
    · subst Ah;simp only [bG,cond_true,Option.some.injEq] at h;exact⟨by simp,e,row,l,fr,hi,h.symm⟩
    · simp only [aR Ah,cond_false] at h;obtain⟨h1,h2⟩:=ih j x h;exact⟨by simp [h1],h2⟩
  · obtain⟨h1,h2⟩:=ih j x h;exact⟨by simp [h1],h2⟩
theorem mZ {h:aS}:∀(fz:List Nat) j,j∈fz→(∃e row l fr,h j=some (.row e row l fr))→(au (cm h fz) j).isSome:=by
 intro fz;induction fz with
 |nil=>intro j h;simp at h
 |cons i fz ih=>
  intro j h hr;simp only [cm];by_cases Ah:j=i
  · subst Ah;obtain⟨e,row,l,fr,hr⟩:=hr;simp [hr,au]
  · have :=ih j ((List.mem_cons.1 h).resolve_left Ah) hr;split
    · simp only [au,aR Ah,cond_false];exact this
    · exact this
def bM(A:Nat→Prop)(β:Nat→Value)(fz:List Nat):Nat→Prop :=fun b=>A b∨∃j∈fz,ay (β j)=some b
theorem kJ(hB:aF C A β st a w) {j b':Nat}(hj:(st.h j).isSome)(bA:ay (β j)=some b'):b'<w.heap.size:=by
 obtain⟨ab,fE⟩:=Option.isSome_iff_exists.1 hj;have fY:=hB.blocks j ab fE;cases ab with
 |arr row l=>
  obtain⟨b'',arr,e,h1,h2,_⟩:=fY;rw [h1] at bA;simp only [ay,Option.some.injEq] at bA;subst bA;exact(Array.getElem?_eq_some_iff.1 h2).1
 |cells cs=>
  obtain⟨b'',arr,e,h1,h2,_⟩:=fY;rw [h1] at bA;simp only [ay,Option.some.injEq] at bA;subst bA;exact(Array.getElem?_eq_some_iff.1 h2).1
 |row e row l fr=>
  obtain⟨xs,h1,_⟩:=fY;rcases h1.2 with⟨hn,_⟩|⟨g,cap,cur,hv,_,hg,_⟩
  · rw [hn] at bA;simp [ay] at bA
  · rw [hv] at bA;simp only [ay,Option.some.injEq] at bA;subst bA;exact(Array.getElem?_eq_some_iff.1 hg).1
 |gD e j row l i=>
  obtain⟨xs,v0,h1,_⟩:=fY;rcases h1.2 with⟨hn,_⟩|⟨g,cap,cur,hv,_,hg,_⟩
  · rw [hn] at bA;simp [ay] at bA
  · rw [hv] at bA;simp only [ay,Option.some.injEq] at bA;subst bA;exact(Array.getElem?_eq_some_iff.1 hg).1
 |views e j n m sz=>
  obtain⟨xs,h1,_⟩:=fY;rcases h1.2 with⟨hn,_⟩|⟨g,cap,cur,hv,_,hg,_⟩
  · rw [hn] at bA;simp [ay] at bA
  · rw [hv] at bA;simp only [ay,Option.some.injEq] at bA;subst bA;exact(Array.getElem?_eq_some_iff.1 hg).1
theorem aF.Ls(hB:aF C A β st a w) {dst:Option Nat}(hd:∀t,dst=some t→t<st.n) {d e:Nat} {row:List Ty} {l:List (Row row)} {cond:List Prop} {fz:List Nat} {v':Value} {w':World} {xs:List Value}
  (fJ:st.h d=none∧ou d=false) (hg:w.grownBy w' none) (xu:∀j∈fz,∃e row l fr,st.h j=some (.row e row l fr))
  (fV:w'.ownsRow 0 e row.length v' l.length xs) (qU:b9 (bk w (bM A β fz) row) xs l) (hblk:∀b,ay v'=some b→w.heap.size≤b):
  aF C (bM A β fz) (bI β d v') (st.put dst {cond:=cond,res:= .own d,gw:=cm st.h fz,new:= [(d, .row e row l false)]}) (a.put dst v') w':=by
 have N4:∀b,bM A β fz b→b<w.heap.size:=by
  intro b h;rcases h with h|⟨j,hj,hb⟩
  · exact hB.bound b h
  · obtain⟨e',r',l',f',hr⟩:=xu j hj;exact kJ hB (by simp [hr]) hb
 have hK:cP w w' A (bM A β fz):=fun b hb=>⟨.inl hb,hg.block b (hB.bound b hb) (by simp)⟩;have hK2:cP w w' (bM A β fz) (bM A β fz):=fun b hb=>⟨hb,hg.block b (N4 b hb) (by simp)⟩
 have bZ:∀k,au [(d,AB.row e row l false)] k=none→bI β d v' k=β k:=by
  intro k h;have :k≠d:=by rintro rfl;simp [au] at h
  simp [bI,this]
 refine hB.step (out:= {cond:=cond,res:= .own d,gw:=cm st.h fz,new:= [(d, .row e row l false)]}) hd ?_ ?_ bZ hK hg.os hg.tape hg.output hg.size (fun b hb _=>hg.block b hb (by simp)) (fun b hb=>Nat.lt_of_lt_of_le (N4 b hb) hg.size) ?_ ?_ ?_ ?_ ?_ ?_
 · intro k b h;obtain⟨rfl,_⟩:=dz h;exact fJ
 · intro k b h;obtain⟨_,_,_,_,_,h,_⟩:=gV fz k b h;simp [h]
 · intro b h;rcases h with h|⟨j,hj,hb⟩
   · exact .inl h
   · have hr:=xu j hj;exact .inr (.inr ⟨j,⟨by obtain⟨_,_,_,_,hr⟩:=hr;simp [hr], .inl (mZ fz j hj hr)⟩,hb⟩)
 · intro k ab h _;obtain⟨hk,e',iH,l',zY,hr,rfl⟩:=gV fz k ab h;rw [jY];have JF:k≠d:=by rintro rfl;rw [fJ.1] at hr;cases hr
   have xn:bI β d v' k=β k:=by simp [bI,JF]
   obtain⟨xs',h1,h2,h3⟩:=hB.blocks k _ hr;simp only [BR,xn];refine⟨xs',fS h1 (fun b hb=>hg.block b (kJ hB (by simp [hr]) hb) (by simp)),bE (fun c x hx=>bF hK iH c x hx) l' xs' h2,fun b hb=> ?_⟩;simp only [if_true];exact .inr ⟨k,hk,hb⟩
 · intro k ab h;obtain⟨rfl,rfl⟩:=dz h;refine⟨xs,by simpa [bI] using fV,bE (fun c x hx=>bF hK2 row c x hx) l xs qU,fun b hb=> ?_⟩;simp only [bI,if_true] at hb;simp only [Bool.false_eq_true,if_false];intro hA;exact absurd (N4 b hA) (by have :=hblk b hb;omega)
 · intro k b ab h hb;obtain⟨rfl,_⟩:=dz h;simp only [bI,if_true] at hb;exact .inl (hblk b hb)
 · intro k k' b h h' _ _;obtain⟨x,hx⟩:=Option.isSome_iff_exists.1 h;obtain⟨y,hy⟩:=Option.isSome_iff_exists.1 h';rw [(dz hx).1,(dz hy).1]
 · simp only [aa,bI,if_true,true_and];obtain⟨ad,l',c,rfl⟩:=pc fV;rfl
theorem JP(hT:bx T P)(hB:aF C A β st a w) {dst:Option Nat}(hd:∀t,dst=some t→t<st.n) {d:Nat}(fJ:st.h d=none∧ou d=false) {t:TypeId} {te:TE}(ht:T.find t=some te)(gY:(ofConst te.zero).cells.all AV.one=true):
  ∃v' w',(Instr.alloc t true (.tuple #[])).run P w= .ok v' w'∧Rel C (st.put dst {cond:= [],res:= .ref d 0,new:= [(d, .cells (e9 d (ofConst te.zero).cells))]}) (a.put dst v') w':=by
 obtain⟨hu,i,hi,hs,hb,hz⟩:=hT.ok t te ht;obtain⟨c1,c2,c3⟩:=sq gY (sh (w:=w) (A:=A) (β:=β) te.zero);refine⟨.pointer (some ⟨w.heap.size,0,none⟩),w.alloc (.cells te.zero.cells t),?_,Rel.ku (hB.Hb hd fJ c1 c2)⟩;simp [Instr.alloc,zeroValue,typeInfo,hi,hz,newVar,newRow]
theorem N5(hB:aF C A β st a w) {dst:Option Nat}(hd:∀t,dst=some t→t<st.n) {d:Nat}(fJ:st.h d=none∧ou d=false) {t:TypeId} {x:AV} {v:Value}(hx:aa w A β v x)(gY:x.cells.all AV.one=true):
  ∃v' w',(Instr.box t v).run P w= .ok v' w'∧Rel C (st.put dst {cond:= [],res:= .ref d 0,new:= [(d, .cells (e9 d x.cells))]}) (a.put dst v') w':=by
 obtain⟨c1,c2,c3⟩:=sq gY hx;refine⟨.pointer (some ⟨w.heap.size,0,none⟩),w.alloc (.cells v.cells t),?_,Rel.ku (hB.Hb hd fJ c1 c2)⟩;simp [Instr.box,newVar,newRow]
theorem Bi(off:Nat):∀(l:List Value) (k:Nat) (arr:Array Value),off+k+l.length≤arr.size→
  ((l.zipIdx k).foldl (fun cs (x:Value×Nat)=>cs.setIfInBounds (off+x.2) x.1) arr).toList=arr.toList.take (off+k)++l++arr.toList.drop (off+k+l.length)
 | [],k,arr,_=>by simp
 |v::l,k,arr,h=>by
  simp only [List.zipIdx_cons,List.foldl_cons];rw [Bi off l (k+1) _ (by simp at h ⊢;omega)];have e:=list_seg_step arr.toList (off+k) v l (by simp at h ⊢;omega);simpa [Array.toList_setIfInBounds,Nat.add_assoc] using e
theorem vJ(place:Nat→Option (Nat×Nat)):∀(parts:List (Nat×AV)) (gH:List (Nat×Value)) (cs:List AV) (arr:Array Value) (r:List AV),af w A β arr.toList cs→
  gH.map (·.1)=parts.map (·.1)→af w A β (gH.map (·.2)) (parts.map (·.2))→xi place cs parts=some r→
  ∃qh,Instr.fill place arr gH=some qh∧af w A β qh.toList r
 | [],[],cs,arr,r,h,_,_,hr=>by
   simp only [xi,Option.some.injEq] at hr;subst hr;exact⟨arr,rfl,h⟩
 |(i,x)::parts,(i',v)::gH,cs,arr,r,h,hk,hv,hr=>by
  simp only [List.map_cons,List.cons.injEq] at hk;obtain⟨hi,hk⟩:=hk;subst hi;simp only [List.map_cons,af] at hv;obtain⟨v0,Dg,h0,h1,h2⟩:=hv;simp only [List.cons.injEq] at h0;obtain⟨rfl,rfl⟩:=h0;simp only [xi] at hr;split at hr
  · cases hr
  · rename_i off size hp;cases hq:(Nat.beq x.cells.length size&&Nat.ble (off+size) cs.length&&x.cells.all AV.one) with
    |false=>simp [hq] at hr
    |true=>
     simp only [hq,cond_true] at hr;simp only [Bool.and_eq_true] at hq;obtain⟨⟨q1,q2⟩,q3⟩:=hq;have q1:=Nat.eq_of_beq_eq_true q1;have q2:=Nat.le_of_ble_eq_true q2;obtain⟨c1,c2,c3⟩:=sq q3 h1;have hlen:=c6 cs _ h;have Da:=tT (off:=off) h c1
     have aji:(v.cells.zipIdx.foldl (fun cs (x:Value×Nat)=>cs.setIfInBounds (off+x.2) x.1) arr).toList=arr.toList.take off++v.cells.toList++arr.toList.drop (off+v.cells.toList.length):=by
      have :=Bi off v.cells.toList 0 arr (by simp;simp at hlen;omega);simp only [Nat.add_zero] at this;rw [←this,←Array.foldl_toList,Array.toList_zipIdx]
     obtain⟨qh,g1,g2⟩:=vJ place parts gH _ (v.cells.zipIdx.foldl (fun cs (x:Value×Nat)=>cs.setIfInBounds (off+x.2) x.1) arr) r (by rw [aji];exact Da) hk h2 hr;refine⟨qh,?_,g2⟩;simp only [Instr.fill,hp];rw [if_neg (by simp;simp at hlen;omega)];exact g1
 | [],_::_,_,_,_,_,hk,_,_=>by simp at hk
 |_::_,[],_,_,_,_,hk,_,_=>by simp at hk
end
end Go.Vg

end
section
namespace Go.Vg
open Go
section
variable {P:Program} {C:Ctx} {A A':Nat→Prop} {β:Nat→Value} {st:St} {a:Act} {w:World} {T:bY}
theorem run_places(hT:bx T P):∀(fs:List Field) (ps:List (Nat×Nat)),placesOf T fs=some ps→
  (List.mapM (m:=Sem) (fun(f:Field)=>do pure (f.offset,←sizeOf f.type)) fs).run P w= .ok ps w
 | [],ps,h=>by simp only [placesOf,Option.some.injEq] at h;subst h;simp
 |f::fs,ps,h=>by
  simp only [placesOf] at h;split at h
  · rename_i te ps' ht hp;simp only [Option.some.injEq] at h;subst h;obtain⟨_,i,hi,hs,_⟩:=hT.ok _ _ ht;have ih:=run_places hT fs ps' hp;have h1:(sizeOf f.type).run P w= .ok te.size w:=by simp [sizeOf,typeInfo,hi,hs]
    simp only [List.mapM_cons,Sem.run_bind,h1,Result.andThen_ok,Sem.run_pure];rw [ih];rfl
  · cases h
theorem j2(z:Value):af w A β z.cells.toList (ofConst z).cells:=by
 have h:=sh (w:=w) (A:=A) (β:=β) z;by_cases hx:∃cs,ofConst z= .agg cs
 · obtain⟨cs,hc⟩:=hx;rw [hc] at h ⊢;simp only [aa] at h;obtain⟨arr,rfl,h⟩:=h;exact h
 · have hc:(ofConst z).cells= [ofConst z]:=by
    cases hz:ofConst z<;>first|rfl|exact absurd ⟨_,hz⟩ hx
   have hz:z.cells= #[z]:=by
    cases z<;>first|rfl|exact absurd ⟨_,rfl⟩ hx
   rw [hc,hz];simp only [af];exact⟨z,[],rfl,h,rfl⟩
theorem JQ(hT:bx T P) {t:TypeId} {parts:List (Nat×AV)} {gH:Array (Nat×Value)}(hk:gH.toList.map (·.1)=parts.map (·.1))(hv:af w A β (gH.toList.map (·.2)) (parts.map (·.2))) {out:Out}
  (h:zX T t parts=some out):Reads P A β w (Instr.build t gH) out:=by
 unfold zX at h;split at h
 · rename_i te ht;obtain⟨hu,i,hi,hs,hb,hz⟩:=hT.ok t te ht;split at h
   · rename_i fs hd;split at h
     · rename_i ps hp;split at h
       · rename_i cs hf;simp only [Option.some.injEq] at h;subst h;obtain⟨qh,g1,g2⟩:=vJ (fun i=>ps[i]?) parts gH.toList _ te.zero.cells cs (j2 te.zero) hk hv hf;refine⟨⟨rfl,rfl,rfl⟩, .agg qh,?_,by simp only [aa];exact⟨qh,rfl,g2⟩⟩;have hm:=run_places (w:=w) hT fs.toList ps hp;rw [hd] at hu;simp only [Instr.build,zeroValue,typeInfo,Sem.run_bind,run_program,Result.andThen_ok,hi,hz,Sem.run_pure,run_underlying hu,Array.mapM_eq_mapM_toList,Sem.run_map,hm];have e:(fun(x:Nat)=>ps.toArray[x]?)=(fun(x:Nat)=>ps[x]?):=by funext x;simp
         simp [g1]
       · cases h
     · cases h
   · rename_i n e hd;split at h
     · rename_i ee he;split at h
       · rename_i cs hf;simp only [Option.some.injEq] at h;subst h;obtain⟨_,i2,Ce,JH,_⟩:=hT.ok e ee he;obtain⟨qh,g1,g2⟩:=vJ (fun i=>some (i*ee.size,ee.size)) parts gH.toList _ te.zero.cells cs (j2 te.zero) hk hv hf;refine⟨⟨rfl,rfl,rfl⟩, .agg qh,?_,by simp only [aa];exact⟨qh,rfl,g2⟩⟩;rw [hd] at hu;simp [Instr.build,zeroValue,typeInfo,hi,hz,run_underlying hu,sizeOf,Ce,JH,g1]
       · cases h
     · cases h
   · cases h
 · cases h
theorem ow(z:Array Value)(hz:0<z.size):∀n,(List.range (n*z.size)).map (fun i=>z[i%z.size]!)=(List.replicate n z.toList).flatten
 |0=>by simp
 |n+1=>by
  rw [Nat.add_mul,Nat.one_mul,List.range_add,List.map_append,ow z hz n,List.replicate_succ',List.flatten_append];congr 1
  simp only [List.map_map,List.flatten_cons,List.flatten_nil,List.append_nil];apply List.ext_getElem
  · simp
  · intro i h1 h2;simp at h1;simp [Nat.add_mod,Nat.mod_eq_of_lt h1,h1]
theorem qi {vs:List Value} {xs:List AV}(h:af w A β vs xs):∀n,af w A β (List.replicate n vs).flatten (List.replicate n xs).flatten
 |0=>by simp [af]
 |n+1=>by
  simp only [List.replicate_succ,List.flatten_cons];exact dM _ _ _ _ h (qi h n)
theorem tX(ts:List Ty):∀(n:Nat) (xs:List AV) (vs:List Value) (l:List (Row ts)),af w A β vs xs→sa ts n xs=some l→b9 (bk w A ts) vs l∧l.length=n
 |0,[],vs,l,h,hl=>by
  simp only [sa,Option.some.injEq] at hl;subst hl;simp only [af] at h;subst h;simp [b9]
 |0,_::_,_,_,_,hl=>by simp [sa] at hl
 |n+1,xs,vs,l,h,hl=>by
  simp only [sa] at hl;split at hl
  · rename_i x l' hx iU;simp only [Option.some.injEq] at hl;subst hl;obtain⟨s1,s2⟩:=fU xs vs ts.length h;obtain⟨g1,g2⟩:=tX ts n _ _ l' s2 iU;exact⟨⟨_,_,(List.take_append_drop _ _).symm,pg ts _ _ x s1 hx,g1⟩,by simp [g2]⟩
  · cases hl
theorem Hc(hB:aF C A β st a w)(hA:∀b,A b→A' b):∀(ps:List (Nat×AV)) (vs:List Value),af w A β vs (ps.map (·.2))→(∀k∈(lH st.h ps).2,∀b,ay (β k)=some b→A' b)→
  af w A' β vs ((lH st.h ps).1.map (·.2))∧(lH st.h ps).1.map (·.1)=ps.map (·.1)∧∀k∈(lH st.h ps).2,∃e row l fr,st.h k=some (.row e row l fr)
 | [],vs,h,_=>by simp only [List.map_nil,af] at h;subst h;simp [lH,af]
 |(i,x)::ps,vs,h,lj=>by
  simp only [List.map_cons,af] at h;obtain⟨v,bK,rfl,h1,h2⟩:=h;simp only [lH] at lj ⊢;obtain⟨p1,p2⟩:=tW hB hA x v h1 (fun k hk=>lj k (by simp [hk]));obtain⟨q1,q2,q3⟩:=Hc hB hA ps bK h2 (fun k hk=>lj k (by simp [hk]));refine⟨by simp only [List.map_cons,af];exact⟨v,bK,rfl,p1,q1⟩,by simp [q2],fun k hk=> ?_⟩;rcases List.mem_append.1 hk with hk|hk
  · exact p2 k hk
  · exact q3 k hk
theorem yL(hT:bx T P)(hB:aF C A β st a w) {dst:Option Nat}(hd:∀t,dst=some t→t<st.n) {d:Nat}(fJ:st.h d=none∧ou d=false) {t:TypeId} {len:Nat} {parts:List (Nat×AV)} {gH:Array (Nat×Value)}
  (hk:gH.toList.map (·.1)=parts.map (·.1)) (hv:af w A β (gH.toList.map (·.2)) (parts.map (·.2))) {out:Out}
  (h:ik T st.h d t len parts=some out):∃v' w',(Instr.buildSlice t len gH).run P w= .ok v' w'∧Rel C (st.put dst out) (a.put dst v') w':=by
 unfold ik at h;split at h
 · rename_i e te he kv;split at h
   · rename_i row ko;obtain⟨hu,JO,i,hi,oi,Lo,NZ⟩:=yE hT he kv;cases hq:(Nat.beq row.length te.size&&Nat.blt 0 te.size&&Nat.beq (ofConst te.zero).cells.length te.size&&Nat.ble (len*te.size) 16777216) with
     |false=>simp [hq] at h
     |true=>
      simp only [hq,cond_true] at h;simp only [Bool.and_eq_true] at hq;obtain⟨⟨⟨q1,q2⟩,q3⟩,q4⟩:=hq;have q1:=Nat.eq_of_beq_eq_true q1;have q2:=Nat.le_of_ble_eq_true q2;have q3:=Nat.eq_of_beq_eq_true q3;have q4:=Nat.le_of_ble_eq_true q4;split at h
      · rename_i cs hf;split at h
        · rename_i l hl;simp only [Option.some.injEq] at h;subst h;have Gx:te.zero.cells.size=te.size:=by rw [←tS];exact q3
          obtain⟨p1,p2,p3⟩:=Hc (A':=bM A β (lH st.h parts).2) hB (fun b h=> .inl h) parts _ hv (fun k hk b hb=> .inr ⟨k,hk,hb⟩)
          have gI:(((Array.range (len*i.size)).map (te.zero.cells[· %te.zero.cells.size]!)).toList)=(List.replicate len te.zero.cells.toList).flatten:=by
           have :=ow te.zero.cells (by omega) len;rw [Gx] at this;simp [oi,Gx,this]
          obtain⟨qh,g1,g2⟩:=vJ (w:=w) (A:=bM A β (lH st.h parts).2) (β:=β) (fun i=>some (i*te.size,te.size)) _ gH.toList _ ((Array.range (len*i.size)).map (te.zero.cells[· %te.zero.cells.size]!)) cs
           (by rw [gI];exact qi (j2 te.zero) len) (hk.trans p2.symm) p1 hf
          obtain⟨f1,f2⟩:=tX row len cs _ l g2 hl;have hlen:=eN l _ f1
          have gi:(Instr.buildSlice t len gH).run P w= .ok (.slice (some ⟨w.heap.size,0,none⟩) len len) (w.alloc (.cells qh e)):=by
           have Wq:¬(16777216<len*i.size):=by rw [oi];omega
           by_cases hz:len*i.size=0
           · have hln:len=0:=by
              rcases Nat.mul_eq_zero.1 hz with h|h
              · exact h
              · omega
             subst hln;rw [oi] at g1;simp only [Nat.zero_mul] at g1;simp [Instr.buildSlice,run_underlying hu,sizeOf,typeInfo,hi,oi,newRow];have e0:∀f:Nat→Value,(Array.range 0).map f= #[]:=fun f=>by apply Array.eq_empty_of_size_eq_zero;simp
             rw [e0] at g1;rw [e0,g1];simp
           · rw [←oi] at g1;simp [Instr.buildSlice,run_underlying hu,sizeOf,typeInfo,zeroValue,hi,NZ,Wq,hz,g1,newRow]
          refine⟨_,_,gi,Rel.ku (hB.Ls hd fJ (xs:=qh.toList) ⟨rfl,rfl,rfl,by simp,fun k hk _=>heap_alloc_old w _ k hk⟩ p3 ?_ f1 (fun b hb=>by simp only [ay,Option.some.injEq] at hb;omega))⟩;refine⟨hlen, .inr ⟨w.heap.size,len,qh,by rw [f2],by omega,heap_alloc_new w _,by omega,?_,?_,?_⟩⟩
          · have :len≤len*te.size:=Nat.le_mul_of_pos_right _ (by omega);unfold maxLen;omega
          · simp at hlen;rw [hlen,f2]
          · rw [←hlen];exact List.take_length
        · cases h
      · cases h
   · cases h
 · cases h
end
end Go.Vg

end
section
namespace Go.Vg
open Go
section
variable {P:Program} {C:Ctx} {A A':Nat→Prop} {β:Nat→Value} {st:St} {a:Act} {w:World} {T:bY}
theorem ir:∀(row:List Ty) (vs:List Value),cB.bS row vs=true→bk w A row vs (Row.zero row)
 | [],[],_=>by simp [bk]
 | .int k::ts, .int k' n::vs,h=>by
   simp only [cB.bS,Bool.and_eq_true,decide_eq_true_eq] at h;obtain⟨⟨h1,h2⟩,h3⟩:=h;subst h1;subst h2;simp only [bk,Row.zero,pe,tV];refine⟨_,vs,rfl,?_,ir ts vs h3⟩;simp only [Rd,D.zero];cases k<;>simp [DI.zero,DI.toInt,lo,hi]
 | .bool::ts, .bool b::vs,h=>by
   cases b with
   |true=>simp [cB.bS] at h
   |false=>
    simp only [cB.bS] at h;simp only [bk,Row.zero,pe,tV];exact⟨_,vs,rfl,by simp [Rd,D.zero],ir ts vs h⟩
 | .str::ts, .string s::vs,h=>by
   simp only [cB.bS,Bool.and_eq_true] at h;simp only [bk,Row.zero,pe,tV];refine⟨_,vs,rfl,?_,ir ts vs h.2⟩;simp only [Rd,D.zero];refine⟨?_,by simp⟩;have :s.data.toList= []:=by simpa using h.1
   have hs:s=⟨#[]⟩:=by
    apply ByteArray.ext;apply Array.ext';exact this
   rw [hs]
 | .slice r::ts, .slice ad l c::vs,h=>by
   cases ad with
   |some p=>simp [cB.bS] at h
   |none=>
    cases l with
    |succ l=>simp [cB.bS] at h
    |zero=>
     cases c with
     |succ c=>simp [cB.bS] at h
     |zero=>
      simp only [cB.bS] at h;simp only [bk,Row.zero,pe,tV];refine⟨_,vs,rfl,?_,ir ts vs h⟩;simp only [Rd,D.zero];exact⟨none,0,[],by simp,by simp,by simp,by simp [b9],by simp⟩
 | [],_::_,h=>by simp [cB.bS] at h
 | .int _::_,[],h=>by simp [cB.bS] at h
 | .bool::_,[],h=>by simp [cB.bS] at h
 | .str::_,[],h=>by simp [cB.bS] at h
 | .slice _::_,[],h=>by simp [cB.bS] at h
 | .int _::_, .bool _::_,h| .int _::_, .string _::_,h| .int _::_, .slice .. ::_,h| .int _::_, .float .. ::_,h| .int _::_, .complex .. ::_,h| .int _::_, .pointer _::_,h
 | .int _::_, .map _::_,h| .int _::_, .chan _::_,h| .int _::_, .func .. ::_,h| .int _::_, .nilFunc::_,h| .int _::_, .iface .. ::_,h| .int _::_, .nilIface::_,h| .int _::_, .agg _::_,h| .int _::_, .tuple _::_,h=>by simp [cB.bS] at h
 | .bool::_, .int .. ::_,h| .bool::_, .string _::_,h| .bool::_, .slice .. ::_,h| .bool::_, .float .. ::_,h| .bool::_, .complex .. ::_,h| .bool::_, .pointer _::_,h
 | .bool::_, .map _::_,h| .bool::_, .chan _::_,h| .bool::_, .func .. ::_,h| .bool::_, .nilFunc::_,h| .bool::_, .iface .. ::_,h| .bool::_, .nilIface::_,h| .bool::_, .agg _::_,h| .bool::_, .tuple _::_,h=>by simp [cB.bS] at h
 | .str::_, .int .. ::_,h| .str::_, .bool _::_,h| .str::_, .slice .. ::_,h| .str::_, .float .. ::_,h| .str::_, .complex .. ::_,h| .str::_, .pointer _::_,h
 | .str::_, .map _::_,h| .str::_, .chan _::_,h| .str::_, .func .. ::_,h| .str::_, .nilFunc::_,h| .str::_, .iface .. ::_,h| .str::_, .nilIface::_,h| .str::_, .agg _::_,h| .str::_, .tuple _::_,h=>by simp [cB.bS] at h
 | .slice _::_, .int .. ::_,h| .slice _::_, .bool _::_,h| .slice _::_, .string .. ::_,h| .slice _::_, .float .. ::_,h| .slice _::_, .complex .. ::_,h| .slice _::_, .pointer _::_,h
 | .slice _::_, .map _::_,h| .slice _::_, .chan _::_,h| .slice _::_, .func .. ::_,h| .slice _::_, .nilFunc::_,h| .slice _::_, .iface .. ::_,h| .slice _::_, .nilIface::_,h| .slice _::_, .agg _::_,h| .slice _::_, .tuple _::_,h=>by simp [cB.bS] at h
theorem qV {row:List Ty} {z:Value}(h:cB row z=true):bk w A row z.cells.toList (Row.zero row):=by
 unfold cB at h;split at h
 · exact ir row _ h
 · rename_i hna;have hz:z.cells= #[z]:=by cases z<;>first|rfl|exact absurd rfl (hna _)
   rw [hz];exact ir row _ h
theorem ph {row:List Ty} {vs:List Value} {x:Row row}(h:bk w A row vs x):∀n,b9 (bk w A row) (List.replicate n vs).flatten (List.replicate n x)
 |0=>by simp [b9]
 |n+1=>by
  simp only [List.replicate_succ,List.flatten_cons];exact⟨vs,_,rfl,h,ph h n⟩
theorem Ak(hT:bx T P)(hB:aF C A β st a w) {dst:Option Nat}(hd:∀t,dst=some t→t<st.n) {d:Nat}(fJ:st.h d=none∧ou d=false) {t:TypeId} {x y:AV} {vx vy:Value}(hx:aa w A β vx x)(hy:aa w A β vy y) {out:Out}
  (h:qN T d t x y=some out) (hc:∀p∈out.cond,p):∃v' w',(Instr.makeSlice t vx vy).run P w= .ok v' w'∧Rel C (st.put dst out) (a.put dst v') w':=by
 unfold qN at h;split at h
 · rename_i k n k' c;split at h
   · rename_i e te he kv;split at h
     · rename_i row ko;obtain⟨hu,JO,i,hi,oi,Lo,NZ⟩:=yE hT he kv;cases hq:(Nat.beq row.length te.size&&Nat.blt 0 te.size&&cB row te.zero) with
       |false=>simp [hq] at h
       |true=>
        simp only [hq,cond_true,Option.some.injEq] at h;subst h;simp only [Bool.and_eq_true] at hq;obtain⟨⟨q1,q2⟩,q3⟩:=hq;have q1:=Nat.eq_of_beq_eq_true q1;have q2:=Nat.le_of_ble_eq_true q2;obtain⟨c0,c1,c2⟩:=dL hc;simp only [aa] at hx hy;obtain⟨rfl,_⟩:=hx;obtain⟨rfl,yK⟩:=hy;have hz:=qV (w:=w) (A:=A) q3;have N6:=fT row _ _ hz;have Gx:te.zero.cells.size=te.size:=by simp at N6;omega
        have arE:(te.bytes:Int)*c≤281474976710656:=by
         rcases Nat.eq_zero_or_pos te.bytes with B9|B9
         · rw [B9];simp
         · have :=(Int.le_ediv_iff_mul_le (show(0:Int)<te.bytes by omega)).1 c2;rw [Int.mul_comm];omega
        have Ag:c≤9223372036854775807:=by
         have :=Int.ediv_le_self (te.bytes:Int) (show(0:Int)≤140737488355328 by omega);omega
        have hr:=run_make (P:=P) w t e i te.zero hu hi NZ k k' n c c0 c1 (by rw [Lo];exact arE) Ag;refine⟨_,_,hr,Rel.ku (hB.Ls hd fJ (fz:= []) (xs:=(List.replicate n.toNat te.zero.cells.toList).flatten) ⟨rfl,rfl,rfl,by simp,fun k hk _=>heap_alloc_old w _ k hk⟩ (by simp) ?_ ?_ (fun b hb=>by simp only [ay,Option.some.injEq] at hb;omega))⟩
        · have gI:(madeCells te.zero.cells (c.toNat*i.size)).toList=(List.replicate c.toNat te.zero.cells.toList).flatten:=by
           have :=ow te.zero.cells (by omega) c.toNat;rw [Gx] at this;simp [madeCells,oi,Gx,this]
          have Al:∀m,(List.replicate m te.zero.cells.toList).flatten.length=m*te.size:=by
           intro m;simp [Gx]
          simp only [List.length_replicate];refine⟨by rw [Al,q1], .inr ⟨w.heap.size,c.toNat,_,rfl,by omega,heap_alloc_new w _,by omega,by unfold maxLen;omega,?_,?_⟩⟩
          · have :=congrArg List.length gI;rw [Al,Array.length_toList] at this;rw [this,q1]
          · rw [gI];have Da:c.toNat=n.toNat+(c.toNat-n.toNat):=by omega
            rw [Da,←List.replicate_append_replicate,List.flatten_append,q1,←Al n.toNat,List.take_left]
        · exact ph (qV q3) _
     · cases h
   · cases h
 · cases h
theorem Dh {t t' ty e:TypeId} {i:TypeInfo}(hu:P.underlying t=some (.slice e))(hi:P.info? e=some i) {b off dLen dCap:Nat} {cur:Array Value} {be:TypeId}(hg:w.heap[b]? =some (.cells cur be (0,0))) {x:Value} {m:Nat} {cs:List Value}
  (hlen:(Builtin.lenOf x).run P w= .ok m w) (gF:(Builtin.firstCells i.size (min m dLen) x).run P w= .ok cs.toArray w) (h1:∀u∈cs,u.oneCell'=true) (pa:off+cs.length≤cur.size):
  (Builtin.copy_ #[t,t'] ty #[.slice (some ⟨b,off,none⟩) dLen dCap,x]).run P w= .ok (.int .i64 ((min m dLen:Nat):Int)) (w.setRow b (cur.toList.take off++cs++cur.toList.drop (off+cs.length)).toArray):=by
 have kI:=run_storeCells_at P b off be cs 0 cur w hg (by simpa using pa) h1;simp only [Nat.add_zero] at kI;have hm:Nat.min m dLen=min m dLen:=rfl;simp [Builtin.copy_,run_underlying hu,sizeOf,typeInfo,hi,hlen,hm,gF,kI,goInt]
theorem tY {t t' ty e:TypeId} {i:TypeInfo}(hu:P.underlying t=some (.slice e))(hi:P.info? e=some i) {ad:Option Addr} {dCap:Nat} {x:Value} {m:Nat}
  (hlen:(Builtin.lenOf x).run P w= .ok m w) (gF:(Builtin.firstCells i.size 0 x).run P w= .ok #[] w):
  (Builtin.copy_ #[t,t'] ty #[.slice ad 0 dCap,x]).run P w= .ok (.int .i64 0) w:=by
 have hm:Nat.min m 0=0:=Nat.min_eq_right (Nat.zero_le _);cases ad<;>simp [Builtin.copy_,run_underlying hu,sizeOf,typeInfo,hi,hlen,gF,goInt,storeCells]
theorem aF.same(hB:aF C A β st a w) {dst:Option Nat}(hd:∀t,dst=some t→t<st.n) {c:List Prop} {r:AV} {k:Nat} {ab:AB}(hk:st.h k=some ab) {v:Value}(h:aa w A β v r):
  aF C A β (st.put dst {cond:=c,res:=r,gw:= [(k,ab)]}) (a.put dst v) w:=by
 refine hB.step (out:= {cond:=c,res:=r,gw:= [(k,ab)]}) hd (by simp [au]) ?_ (fun _ _=>rfl) (cP.refl w A) rfl rfl rfl (Nat.le_refl _) (fun _ _ _=>rfl) hB.bound (fun b h=> .inl h) ?_ (by simp [au]) (by simp [au]) (by simp [au]) h
 · intro j b h;obtain⟨rfl,_⟩:=dz h;simp [hk]
 · intro j b h _;obtain⟨rfl,rfl⟩:=dz h;simp only [cJ];exact hB.blocks _ _ hk
theorem tZ(n:Nat)(h:n≤maxLen):aa w A β (.int .i64 (n:Int)) (.int .i64 (n:Int)):=by
 simp only [aa,lo,hi,true_and];unfold maxLen at h;omega
theorem Am(hB:aF C A β st a w) {dst:Option Nat}(hd:∀t,dst=some t→t<st.n) {k e:Nat} {row:List Ty} {l m':List (Row row)}(hk:st.h k=some (.row e row l false)) {b cap off:Nat}(bZ:β k= .slice (some ⟨b,0,none⟩) l.length cap)
  {cs:List Value} (dc:b9 (bk w A row) cs m') (pa:off+m'.length≤l.length) {c:List Prop} {r:AV} {v:Value} (rv:∀w',aa w' A β v r) {cur:Array Value} (hg:w.heap[b]? =some (.cells cur e (0,0)))
  (cU:cur.size=cap*row.length) (hle:l.length≤cap) (rC:cap≤maxLen) (hL:b9 (bk w A row) (cur.toList.take (l.length*row.length)) l) (jy:¬A b):
  Rel C (st.put dst {cond:=c,res:=r,gw:= [(k, .row e row (l.take off++m'++l.drop (off+m'.length)) false)]}) (a.put dst v)
   (w.setRow b (cur.toList.take (off*row.length)++cs++cur.toList.drop (off*row.length+cs.length)).toArray):=by
 have hb:ay (β k)=some b:=by rw [bZ];rfl
 have hlen:=eN m' cs dc;have Wr:l.length*row.length≤cur.size:=by rw [cU];exact Nat.mul_le_mul_right _ hle
 have UB:off*row.length+cs.length≤l.length*row.length:=by rw [hlen,←Nat.add_mul];exact Nat.mul_le_mul_right _ pa
 refine hB.write hd (k:=k) (fz:= []) (ab:= .row e row _ false) (by simp [hk]) hb jy hg ⟨rfl,rfl,rfl⟩ (by simp) ?_ (rv _);intro A2 h1 h2 h3;have hK:cP w (w.setRow b (cur.toList.take (off*row.length)++cs++cur.toList.drop (off*row.length+cs.length)).toArray) A A2:=fun b' bA=>⟨h1 b' bA,setRow_other w b b' _ (fun h'=>jy (h'▸bA))⟩;have Lp:(l.take off++m'++l.drop (off+m'.length)).length=l.length:=by simp;omega
 have UC:(cur.toList.take (off*row.length)++cs++cur.toList.drop (off*row.length+cs.length)).toArray.size=cur.size:=by simp;omega
 refine⟨_,⟨?_, .inr ⟨b,cap,_,by rw [bZ,Lp],by omega,setRow_heap w b cur _ e _ hg,by omega,rC,UC.trans cU,rfl⟩⟩,?_,fun b' bA=> ?_⟩
 · rw [List.length_take,Lp];refine Nat.min_eq_left (Nat.le_trans Wr (Nat.le_of_eq UC.symm))
 · rw [Lp]
   have Cz:(cur.toList.take (off*row.length)++cs++cur.toList.drop (off*row.length+cs.length)).take (l.length*row.length)=
     (cur.toList.take (l.length*row.length)).take (off*row.length)++cs++(cur.toList.take (l.length*row.length)).drop ((off+m'.length)*row.length):=by
    rw [List.take_take,Nat.min_eq_left (by omega),List.take_append,List.take_of_length_le (by simp;omega),Nat.add_mul,←hlen,List.drop_take];congr 1
    congr 1
    simp;omega
   have e1:(cur.toList.take (off*row.length)++cs++cur.toList.drop (off*row.length+cs.length)).toArray.toList=cur.toList.take (off*row.length)++cs++cur.toList.drop (off*row.length+cs.length):=by simp
   rw [e1,Cz];have s1:=dV l _ off hL;have s2:=dV l _ (off+m'.length) hL;exact bE (fun c x hx=>bF hK row c x hx) _ _ (gE _ _ _ _ (gE _ _ _ _ s1.1 dc) s2.2)
 · rw [hb] at bA;simp only [Option.some.injEq] at bA;subst bA;simp only [Bool.false_eq_true,if_false];intro Db;rcases h2 _ Db with h|⟨q,hq,_⟩
   · exact jy h
   · simp at hq
theorem Lt(hT:bx T P)(hB:aF C A β st a w) {dst:Option Nat}(hd:∀t,dst=some t→t<st.n) {t t' ty:TypeId} {s x:AV} {vs vx:Value}(hs:aa w A β vs s)(hx:aa w A β vx x) {out:Out}
  (h:nz T st.h t t' s x=some out) (hc:∀p∈out.cond,p):∃v' w',(Builtin.copy_ #[t,t'] ty #[vs,vx]).run P w= .ok v' w'∧Rel C (st.put dst out) (a.put dst v') w':=by
 unfold nz at h;split at h
 · rename_i k;split at h
   · rename_i e row l hk;cases hq:br T t row.length with
     |false=>simp [hq] at h
     |true=>
      simp only [hq,cond_true] at h;obtain⟨el,i,hu,hi,cU,iJ⟩:=eB hT hq;split at h
      · rename_i m hm;simp only [Option.some.injEq] at h;subst h;obtain⟨cs,fe⟩:=Cy (P:=P) hB hx hm;simp only [aa] at hs;obtain⟨rfl,_⟩:=hs;rcases eC hB hk with⟨g1,g2⟩|⟨b,cap,cur,g1,g2,g3,g4,g5,g6,g7⟩
        · subst g2;have hf:=fe.first w rfl 0 (Nat.zero_le _);simp only [Nat.zero_mul,List.take_zero] at hf;rw [g1];refine⟨_,_,tY (ty:=ty) hu hi fe.len (by rw [cU];exact hf),?_⟩;have :=hB.same (dst:=dst) hd (c:= []) (r:= .int .i64 0) (v:= .int .i64 0) hk (by simp [aa,lo,Vg.hi]);simpa using Rel.ku this
        · simp only [Bool.false_eq_true,if_false] at g7;have hn:min m.length l.length≤m.length:=Nat.min_le_left _ _;have hf:=fe.first w rfl _ hn;have ua:=(dV m cs (min m.length l.length) fe.rd).1;have hlen:=eN _ _ ua;have yC:(m.take (min m.length l.length)).length=min m.length l.length:=by simp
          have hr:=Dh (P:=P) (ty:=ty) (t':=t') (dLen:=l.length) (dCap:=cap) (off:=0) hu hi g2 fe.len (by rw [cU];exact hf) (tQ _ _ ua) (by
           rw [hlen,yC,g5];have :min m.length l.length*row.length≤cap*row.length:=Nat.mul_le_mul_right _ (by omega);omega)
          rw [g1];refine⟨_,_,hr,?_⟩;have yM:=Am hB hd hk g1 (off:=0) (c:= []) ua (by rw [yC];omega) (fun w'=>tZ (w:=w') (min m.length l.length) (by unfold maxLen;unfold maxLen at g4;omega)) g2 g5 g3 g4 g6 g7
          have e1:m.take l.length++l.drop m.length=l.take 0++m.take (min m.length l.length)++l.drop (0+(m.take (min m.length l.length)).length):=by
           rw [yC];simp only [List.take_zero,List.nil_append,Nat.zero_add];rcases Nat.le_total m.length l.length with hh|hh
           · rw [Nat.min_eq_left hh,List.take_of_length_le hh,List.take_length]
           · rw [Nat.min_eq_right hh,List.drop_length,List.drop_of_length_le hh]
          rw [e1];simpa using yM
      · cases h
   · cases h
 · rename_i k sz off n;split at h
   · rename_i e row l hk;cases hq:(br T t row.length&&Nat.beq sz row.length) with
     |false=>simp [hq] at h
     |true=>
      simp only [hq,cond_true] at h;simp only [Bool.and_eq_true] at hq;obtain⟨q1,q2⟩:=hq;have q2:=Nat.eq_of_beq_eq_true q2;subst q2;obtain⟨el,i,hu,hi,cU,iJ⟩:=eB hT q1;split at h
      · rename_i m hm;simp only [Option.some.injEq] at h;subst h;obtain⟨cs,fe⟩:=Cy (P:=P) hB hx hm;have hon:=dL hc;simp only [aa] at hs;rcases hs with⟨hn0,ad,cap,hv,Ag⟩|⟨b',mm,im,tL,hv,xp,arG,arH,arI⟩
        · subst hn0;have hf:=fe.first w rfl 0 (Nat.zero_le _);simp only [Nat.zero_mul,List.take_zero] at hf;rw [hv];refine⟨_,_,tY (ty:=ty) hu hi fe.len (by rw [cU];exact hf),?_⟩;have :=hB.same (dst:=dst) hd (c:= [off+0≤l.length]) (r:= .int .i64 0) (v:= .int .i64 0) hk (by simp [aa,lo,Vg.hi]);simpa using Rel.ku this
        · rcases eC hB hk with⟨g1,g2⟩|⟨b,cap,cur,g1,g2,g3,g4,g5,g6,g7⟩
          · rw [g1] at hv;cases hv
          · rw [g1] at hv;simp only [Value.slice.injEq,Option.some.injEq,Addr.mk.injEq,and_true] at hv;obtain⟨rfl,rfl,rfl⟩:=hv;simp only [Bool.false_eq_true,if_false] at g7;have hn:min m.length n≤m.length:=Nat.min_le_left _ _;have hf:=fe.first w rfl _ hn;have ua:=(dV m cs (min m.length n) fe.rd).1;have hlen:=eN _ _ ua;have yC:(m.take (min m.length n)).length=min m.length n:=by simp
            have hr:=Dh (P:=P) (ty:=ty) (t':=t') (dLen:=n) (dCap:=tL) (off:=off*row.length) hu hi g2 fe.len (by rw [cU];exact hf) (tQ _ _ ua) (by
             rw [hlen,yC,g5,←Nat.add_mul];exact Nat.mul_le_mul_right _ (by omega))
            rw [xp];refine⟨_,_,hr,?_⟩;have yM:=Am hB hd hk g1 (off:=off) (c:= [off+n≤l.length]) ua (by rw [yC];omega) (fun w'=>tZ (w:=w') (min m.length n) (by unfold maxLen;unfold maxLen at g4;omega)) g2 g5 g3 g4 g6 g7
            have e1:m.take n=m.take (min m.length n):=by
             rcases Nat.le_total m.length n with hh|hh
             · rw [Nat.min_eq_left hh,List.take_of_length_le hh,List.take_length]
             · rw [Nat.min_eq_right hh]
            rw [e1];rw [yC] at yM;exact yM
      · cases h
   · cases h
 · cases h
end
end Go.Vg

end
section
namespace Go.Vg
open Go
section
variable {P:Program} {C:Ctx} {A A':Nat→Prop} {β:Nat→Value} {st:St} {a:Act} {w:World} {T:bY}
theorem Lu {t ty e:TypeId} {i:TypeInfo}(hu:P.underlying t=some (.slice e))(hi:P.info? e=some i) {z:Value}(hz:i.zero=some z) {b off n cap:Nat} {cur:Array Value} {be:TypeId}(hg:w.heap[b]? =some (.cells cur be (0,0)))
  {cs:List Value} (dc:(Builtin.zeroCells z.cells n).toList=cs) (h1:∀u∈cs,u.oneCell'=true) (pa:off+cs.length≤cur.size) (hn:0<n):
  (Builtin.clear_ #[t] ty #[.slice (some ⟨b,off,none⟩) n cap]).run P w= .ok (.tuple #[]) (w.setRow b (cur.toList.take off++cs++cur.toList.drop (off+cs.length)).toArray):=by
 have kI:=run_storeCells_at P b off be cs 0 cur w hg (by simpa using pa) h1;simp only [Nat.add_zero] at kI;obtain⟨m,rfl⟩:∃m,n=m+1:=⟨n-1,by omega⟩;simp [Builtin.clear_,run_underlying hu,zeroValue,typeInfo,hi,hz,dc,kI]
theorem JR(hT:bx T P)(hB:aF C A β st a w) {dst:Option Nat}(hd:∀t,dst=some t→t<st.n) {t ty:TypeId} {x:AV} {vx:Value}(hx:aa w A β vx x) {out:Out}
  (h:mo T st.h t x=some out) (hc:∀p∈out.cond,p):∃v' w',(Builtin.clear_ #[t] ty #[vx]).run P w= .ok v' w'∧Rel C (st.put dst out) (a.put dst v') w':=by
 have Wt:∀w',aa w' A β (.tuple #[]) (.cD []):=fun w'=>by simp only [aa];exact⟨#[],rfl,by simp [af]⟩
 unfold mo at h;split at h
 · rename_i k sz off n;split at h
   · rename_i e row l hk;split at h
     · rename_i el te he kv;obtain⟨hu,JO,i,hi,oi,Lo,NZ⟩:=yE hT he kv;cases hq:(br T t row.length&&Nat.beq sz row.length&&Nat.beq row.length te.size&&cB row te.zero) with
       |false=>simp [hq] at h
       |true=>
        simp only [hq,cond_true,Option.some.injEq] at h;subst h;simp only [Bool.and_eq_true] at hq;obtain⟨⟨⟨q0,q1⟩,q2⟩,q3⟩:=hq;have q1:=Nat.eq_of_beq_eq_true q1;have q2:=Nat.eq_of_beq_eq_true q2;subst q1;obtain⟨el',i',Af,hX,awx,iJ⟩:=eB hT q0;have hon:=dL hc;have hz:=qV (w:=w) (A:=A) q3;have N6:=fT row _ _ hz;have Gx:te.zero.cells.size=te.size:=by simp at N6;omega
        simp only [aa] at hx;rcases hx with⟨hn0,ad,cap,hv,Ag⟩|⟨b',mm,im,tL,hv,xp,arG,arH,arI⟩
        · subst hn0;rw [hv];refine⟨.tuple #[],w,by cases ad<;>simp [Builtin.clear_,run_underlying hu],?_⟩;have :=hB.same (dst:=dst) hd (c:= [off+0≤l.length]) (r:= .cD []) (v:= .tuple #[]) hk (Wt w);simpa using Rel.ku this
        · rcases eC hB hk with⟨g1,g2⟩|⟨b,cap,cur,g1,g2,g3,g4,g5,g6,g7⟩
          · rw [g1] at hv;cases hv
          · rw [g1] at hv;simp only [Value.slice.injEq,Option.some.injEq,Addr.mk.injEq,and_true] at hv;obtain⟨rfl,rfl,rfl⟩:=hv;simp only [Bool.false_eq_true,if_false] at g7
            have gI:(Builtin.zeroCells te.zero.cells n).toList=(List.replicate n te.zero.cells.toList).flatten:=by
             have :=ow te.zero.cells (by omega) n;simp [Builtin.zeroCells,this]
            have ua:=ph hz n;have hlen:=eN _ _ ua;rw [List.length_replicate] at hlen;rw [xp];by_cases hn:n=0
            · subst hn;refine⟨.tuple #[],w,by simp [Builtin.clear_,run_underlying hu],?_⟩;have :=hB.same (dst:=dst) hd (c:= [off+0≤l.length]) (r:= .cD []) (v:= .tuple #[]) hk (Wt w);simpa using Rel.ku this
            · have hr:=Lu (P:=P) (ty:=ty) (n:=n) (cap:=tL) (off:=off*row.length) hu hi NZ g2 gI (tQ _ _ ua) (by
               rw [hlen,g5,←Nat.add_mul];exact Nat.mul_le_mul_right _ (by omega)) (by omega)
              refine⟨_,_,hr,?_⟩;have yM:=Am hB hd hk g1 (off:=off) (c:= [off+n≤l.length]) (r:= .cD []) (v:= .tuple #[]) ua (by rw [List.length_replicate];omega) Wt g2 g5 g3 g4 g6 g7;rw [List.length_replicate] at yM;exact yM
     · cases h
   · cases h
 · cases h
end
end Go.Vg

end
section
namespace Go.Vg
open Go
section
variable {P:Program} {C:Ctx} {A A':Nat→Prop} {β:Nat→Value} {st:St} {a:Act} {w:World} {T:bY}
theorem yN:∀(u:List UInt8) (cs:List Value),b9 (bk w A [.int .u8]) cs u→cs=u.map fun b=>Value.int .u8 (b.toNat:Int)
 | [],cs,h=>by simp only [b9] at h;simp [h]
 |b::u,cs,⟨c1,c2,hc,h1,h2⟩=>by
  subst hc;simp only [bk] at h1;obtain⟨v,vs,rfl,h3,rfl⟩:=h1;simp only [Rd] at h3;rw [yN u c2 h2];simp only [List.map_cons,List.cons_append,List.nil_append,List.cons.injEq,and_true];exact h3.1
theorem foldl_push:∀(u:List UInt8) (r:ByteArray),(u.map fun b=>(b.toNat:Int)).foldl (fun r n=>r.push (UInt8.ofNat n.toNat)) r=⟨(r.data.toList++u).toArray⟩
 | [],r=>by simp
 |b::u,r=>by
  simp only [List.map_cons,List.foldl_cons];rw [foldl_push u];simp
theorem ub(hB:aF C A β st a w) {x:AV} {v:Value}(hx:aa w A β v x) {u:List UInt8}(h:kq st.h [.int .u8] x=some u)(Lv:∀n c,v= .slice none n c→n=0)(nD:∃ad n c,v= .slice ad n c):
  (Conv.bytesToString v).run P w= .ok (.string ⟨u.toArray⟩) w∧u.length≤maxLen:=by
 obtain⟨cs,fe⟩:=Cy (P:=P) hB hx h;have dc:=yN u cs fe.rd;obtain⟨ad,n,c,rfl⟩:=nD
 have hn:n=u.length:=by
  have :=fe.len;simpa [Builtin.lenOf] using this
 refine⟨?_,fe.max⟩;cases ad with
 |none=>
  have :=Lv n c rfl;have hu:u= []:=List.eq_nil_of_length_eq_zero (by omega);subst hu;simp [Conv.bytesToString];rfl
 |some p=>
  have hf:=fe.first w rfl u.length (Nat.le_refl _);have hl:=eN (row:= [.int .u8]) u cs fe.rd;simp only [List.length_singleton,Nat.mul_one] at hf hl;rw [←hl,List.take_length] at hf
  have ajl:(loadCells p n).run P w= .ok ((u.map fun b=>(b.toNat:Int)).map (Value.int .u8)).toArray w:=by
   simp only [Builtin.firstCells,Nat.mul_one] at hf;rw [hn,←hl,hf,dc];simp
  rw [run_bytesToString w p n c _ ajl,foldl_push];simp
theorem uc(hB:aF C A β st a w) {dst:Option Nat}(hd:∀t,dst=some t→t<st.n) {e:TypeId} {u:List UInt8}(hu:u.length≤maxLen) {c:List Prop}:
  ∃v' w',(Conv.stringToBytes e ⟨u.toArray⟩).run P w= .ok v' w'∧Rel C (st.put dst {cond:=c,res:= .sl [.int .u8] u}) (a.put dst v') w':=by
 let cap:=grownCap w u.length 0 e
 have He:u.length≤cap:=grownCap_ge w u.length 0 e;have Ag:cap≤maxLen:=grownCap_le_maxLen w u.length 0 e hu;let arr:Array Value:=(u.map fun b=>Value.int .u8 (b.toNat:Int)).toArray++Array.replicate (cap-u.length) (.int .u8 0)
 let w':World:=(w.drew.alloc (.cells arr e)).freeze ⟨w.heap.size,arr.size,none⟩ 1
 have gi:(Conv.stringToBytes e ⟨u.toArray⟩).run P w= .ok (.slice (some ⟨w.heap.size,0,none⟩) u.length cap) w':=by
  have GA:(w.drew.alloc (.cells arr e)).shape? w.heap.size=some (e,arr.size):=by
   have :=heap_alloc_new w.drew (.cells arr e);unfold World.shape?;rw [show(w.drew.alloc (.cells arr e)).heap[w.heap.size]? =some (.cells arr e) from this]
  have h1:(⟨u.toArray⟩:ByteArray).size=u.length:=rA u;simp only [Conv.stringToBytes,Sem.run_bind,run_choose,Question.forced,Bool.false_eq_true,if_false,Result.andThen_ok,h1,newRow,run_newObj,Sem.run_pure,markStringish,run_shape];have hg:(Question.appendCap u.length 0 e).cut (w.tape w.drawn (Question.appendCap u.length 0 e))=cap:=rfl;rw [hg]
  have Wu:Array.map (fun b:UInt8=>Value.int IntKind.u8 (b.toNat:Int)) u.toArray++Array.replicate (cap-u.length) (Value.int IntKind.u8 0)=arr:=by
   simp [arr]
  rw [Wu];have hw2:({heap:=w.heap.push (Obj.cells arr e),tape:=w.tape,drawn:=w.drawn+1,os:=w.os,output:=w.output}:World)=w.drew.alloc (.cells arr e):=rfl;simp only [hw2,GA,run_freeze,Result.andThen_ok];rfl
 have mY:∀b,b<w.heap.size→w'.heap[b]? =w.heap[b]? :=by
  intro b hb;have h2:(w.drew.alloc (.cells arr e)).heap[b]? =w.heap[b]? :=my (w:=w.drew) _ b hb;simp only [w',World.freeze,Nat.one_ne_zero,if_false,Array.getElem?_modify];rw [if_neg (by omega)];exact h2
 have dj:∃fz,w'.heap[w.heap.size]? =some (.cells arr e fz):=by
  have h2:(w.drew.alloc (.cells arr e)).heap[w.heap.size]? =some (.cells arr e):=heap_alloc_new w.drew _;simp only [w',World.freeze,Nat.one_ne_zero,if_false,Array.getElem?_modify,if_true,h2,Option.map_some];exact⟨_,rfl⟩
 obtain⟨fz,dj⟩:=dj
 have nW:w'.heap.size=w.heap.size+1:=by
  have :(w.drew.alloc (.cells arr e)).heap.size=w.heap.size+1:=by simp
  simp only [w',World.freeze,Nat.one_ne_zero,if_false,Array.size_modify];exact this
 let A':Nat→Prop :=fun b=>A b∨b=w.heap.size
 have hK:cP w w' A A':=fun b hb=>⟨.inl hb,mY b (hB.bound b hb)⟩;refine⟨_,w',gi,A',β,?_⟩;refine hB.step (out:= {cond:=c,res:= .sl [.int .u8] u}) hd (by simp [au]) (by simp [au]) (fun _ _=>rfl) hK rfl rfl rfl (by omega) (fun b hb _=>mY b hb) ?_ ?_ (by simp [au]) (by simp [au]) (by simp [au]) (by simp [au]) ?_
 · intro b hb;rcases hb with hb|rfl
   · have :=hB.bound b hb;omega
   · omega
 · intro b hb;rcases hb with hb|rfl
   · exact .inl hb
   · exact .inr (.inl (Nat.le_refl _))
 · simp only [aa,Rd];refine⟨_,cap,_,rfl,He,Ag,C7 u,fun _=>⟨w.heap.size,0,rfl, .inr rfl,fun j v hj=> ?_⟩⟩;simp only [World.cell?,dj,Nat.zero_add]
   have eM:j<(u.map fun b=>Value.int .u8 (b.toNat:Int)).length:=by
    rcases Nat.lt_or_ge j (u.map fun b=>Value.int .u8 (b.toNat:Int)).length with h|h
    · exact h
    · rw [List.getElem?_eq_none h] at hj;cases hj
   simp only [arr,Option.isSome_none,Bool.false_eq_true,if_false];rw [Array.getElem?_append_left (by simpa using eM)];simpa using hj
theorem Wv {row:List Ty} {n c:Nat} {l:List (Row row)}(h:Rd w A (.slice row) (.slice none n c) l)(hp:0<row.length):n=0:=by
 simp only [Rd] at h;obtain⟨ad,cap,cs,h1,h2,h3,h4,h5⟩:=h;simp only [Value.slice.injEq] at h1;obtain⟨rfl,rfl,rfl⟩:=h1;have hl:=eN l cs h4;by_cases hc:cs= []
 · subst hc;simp only [List.length_nil] at hl;rcases Nat.mul_eq_zero.1 hl.symm with h|h
   · exact h
   · omega
 · obtain⟨b,o,h,_⟩:=h5 hc;cases h
theorem N7(hB:aF C A β st a w) {x:AV} {v:Value}(hx:aa w A β v x)(hn:sc x=true) {u:List UInt8}(h:kq st.h [.int .u8] x=some u):
  (∃ad n c,v= .slice ad n c)∧∀n c,v= .slice none n c→n=0:=by
 have nD:∀ {row:List Ty} {l:List (Row row)},row= [.int .u8]→Rd w A (.slice row) v l→(∃ad n c,v= .slice ad n c)∧∀n c,v= .slice none n c→n=0:=by
  intro row l hr h;obtain⟨ad,cap,rfl,_⟩:=sn h;refine⟨⟨_,_,_,rfl⟩,fun n c he=> ?_⟩;simp only [Value.slice.injEq] at he;obtain⟨rfl,rfl,rfl⟩:=he;exact Wv h (by subst hr;simp)
 unfold kq at h;split at h
 · simp [sc] at hn
 · simp only [aa] at hx;subst hx;exact⟨⟨_,_,_,rfl⟩,fun n c h=>by simp only [Value.slice.injEq] at h;omega⟩
 · rename_i h1 h2;cases x with
   |sl r l=>
    simp only [fD] at h;obtain⟨e,_⟩:=iq h;exact nD e hx
   |full r l=>
    simp only [fD] at h;obtain⟨e,_⟩:=iq h;simp only [aa] at hx;exact nD e hx.1
   |own k=>
    simp only [fD] at h;simp only [aa] at hx;cases hk:st.h k with
    |none=>simp [hk] at h
    |some ab=>
     cases ab with
     |cells cs=>simp [hk] at h
     |arr _ _=>simp [hk] at h
     |views e j n m sz=>simp [hk] at h
     |gD _ _ _ _ _=>simp [hk] at h
     |row e row l fr=>
      rcases lh hB hk with⟨g1,g2⟩|⟨b,cap,cs,g1,_⟩
      · rw [hx.1,g1];exact⟨⟨_,_,_,rfl⟩,fun n c h=>by simp only [Value.slice.injEq] at h;omega⟩
      · rw [hx.1,g1];exact⟨⟨_,_,_,rfl⟩,fun n c h=>by simp only [Value.slice.injEq] at h;cases h.1⟩
   |pre k n=>
    simp only [aa] at hx;rcases hx with⟨_,h,_⟩|⟨b,m,cap,_,h,_⟩
    · rw [h];exact⟨⟨_,_,_,rfl⟩,fun n c h=>by simp only [Value.slice.injEq] at h;omega⟩
    · rw [h];exact⟨⟨_,_,_,rfl⟩,fun n c h=>by simp only [Value.slice.injEq] at h;cases h.1⟩
   |view k sz off n=>
    simp only [aa] at hx;rcases hx with⟨_,ad,c,h,_⟩|⟨b,m,cap,im,_,h,_⟩
    · rw [h];exact⟨⟨_,_,_,rfl⟩,fun n c h=>by simp only [Value.slice.injEq] at h;omega⟩
    · rw [h];exact⟨⟨_,_,_,rfl⟩,fun n c h=>by simp only [Value.slice.injEq] at h;cases h.1⟩
   |_=>simp [fD] at h
def Ww(P:Program)(C:Ctx)(st:St)(a:Act)(w:World)(d:Option Nat)(out:Out)(s:Sem Value):Prop :=∃v w',s.run P w= .ok v w'∧Rel C (st.put d out) (a.put d v) w'
theorem Reads.pj(hB:aF C A β st a w) {dst:Option Nat}(hd:∀t,dst=some t→t<st.n) {s:Sem Value} {out:Out}(h:Reads P A β w s out):Ww P C st a w dst out s:=
 let⟨hq,v,h1,h2⟩:=h
 ⟨v,w,h1,Rel.ku (hB.quiet hd hq h2)⟩
theorem N8(hT:bx T P)(hB:aF C A β st a w) {dst:Option Nat}(hd:∀t,dst=some t→t<st.n) {s d:TypeId} {k:Nat} {v:Value}(hx:aa w A β v (.own k)) {out:Out}
  (h:vH T st.h s d k=some out) (hc:∀p∈out.cond,p):Ww P C st a w dst out (convert s d v):=by
 unfold vH at h;cases hsd:Nat.beq s d with
 |false=>simp [hsd] at h
 |true=>
  have hsd:=Nat.eq_of_beq_eq_true hsd;subst hsd;simp only [Nat.beq_refl,cond_true] at h;split at h
  · rename_i ts xv;have nY:=jE hT xv;split at h
    · rename_i e Cf;rw [Cf] at nY;split at h
      · rename_i te e0 row l kv hk;have Lw:=jE hT kv;split at h
        · rename_i l' Wx gG;rw [Wx] at Lw;obtain⟨he,hl⟩:=iq gG;subst he;simp only at hl;subst hl;simp only [Option.some.injEq] at h;subst h;have iJ:0<l.length:=dL hc;obtain⟨xs,ho,qU,jy⟩:=hB.blocks k _ hk;simp only [aa] at hx;rcases ho.2 with⟨_,h0⟩|⟨g,cap,cur,hv,_,hg,hn,He,cU,Cc⟩
          · omega
          · have xn:ay (β k)=some g:=by rw [hv];rfl
            have arJ:¬A g:=by have :=jy g xn;simpa using this
            have awy:g<w.heap.size:=(Array.getElem?_eq_some_iff.1 hg).1;rw [hx.1,hv];let w':World:=w.freeze ⟨g,cur.size,none⟩ 1
            have GA:w.shape? g=some (e0,cur.size):=by simp [World.shape?,hg]
            have gi:(convert s s (.slice (some ⟨g,0,none⟩) l.length cap)).run P w= .ok (.slice (some ⟨g,0,none⟩) l.length cap) w':=by
             simp only [convert,Sem.run_bind,run_underlying nY,run_underlying Lw,Result.andThen_ok,beq_self_eq_true,markStringish,run_shape,GA,run_freeze,Sem.run_pure];rfl
            have mY:∀b,b≠g→w'.heap[b]? =w.heap[b]? :=by
             intro b hb;simp only [w',World.freeze,Nat.one_ne_zero,if_false,Array.getElem?_modify];rw [if_neg (Ne.symm hb)]
            have dj:∃fz,w'.heap[g]? =some (.cells cur e0 fz):=by
             simp only [w',World.freeze,Nat.one_ne_zero,if_false,Array.getElem?_modify,if_true,hg,Option.map_some];exact⟨_,rfl⟩
            obtain⟨fz,dj⟩:=dj;have nW:w'.heap.size=w.heap.size:=by simp only [w',World.freeze,Nat.one_ne_zero,if_false,Array.size_modify]
            have hK:cP w w' A (fun b=>A b∨b=g):=fun b hb=>⟨.inl hb,mY b (fun h=>arJ (h▸hb))⟩;have ahS:kG st {cond:= [0<l.length],res:= .sl [.int .u8] l,del:= [k]} k:=⟨by simp [hk], .inr (by simp [aG])⟩;refine⟨_,w',gi,fun b=>A b∨b=g,β,?_⟩;refine hB.step (out:= {cond:= [0<l.length],res:= .sl [.int .u8] l,del:= [k]}) hd (by simp [au]) (by simp [au]) (fun _ _=>rfl) hK rfl rfl rfl (by omega) (fun b hb hnt=>mY b (fun h=>hnt k ahS (by rw [h];exact xn))) ?_ ?_ (by simp [au]) (by simp [au]) (by simp [au]) (by simp [au]) ?_
            · intro b hb;rcases hb with hb|rfl
              · have :=hB.bound b hb;omega
              · omega
            · intro b hb;rcases hb with hb|rfl
              · exact .inl hb
              · exact .inr (.inr ⟨k,ahS,xn⟩)
            · simp only [aa,Rd];refine⟨_,cap,xs,rfl,hn,He,bE (fun c x hx=>bF hK _ c x hx) _ _ qU,fun _=>⟨g,0,rfl, .inr rfl,fun j u hj=> ?_⟩⟩;rw [←Cc,List.getElem?_take] at hj;split at hj
              · simp only [World.cell?,dj,Nat.zero_add,Option.isSome_none,Bool.false_eq_true,if_false];simpa using hj
              · cases hj
        · cases h
      · cases h
    · cases h
  · cases h
theorem Di(hT:bx T P)(hB:aF C A β st a w) {dst:Option Nat}(hd:∀t,dst=some t→t<st.n) {s d:TypeId} {x:AV} {v:Value}(hx:aa w A β v x) {out:Out}
  (h:lx T st.h s d x=some out) (hc:∀p∈out.cond,p):Ww P C st a w dst out (convert s d v):=by
 unfold lx at h;split at h
 · rename_i ts td xv htd;have nY:=jE hT xv;have Lx:=jE hT htd;split at h
   · rename_i k0 k k' n Cf qS;rw [Cf] at nY;rw [qS] at Lx;simp only [aa] at hx;obtain⟨rfl,hn⟩:=hx
     have gi:(convert s d (.int k' n)).run P w= .ok (.int k (k.wrap n)) w:=by
      simp [convert,run_underlying nY,run_underlying Lx,Conv.intToInt]
     split at h
     · rename_i hr;simp only [Option.some.injEq] at h;subst h;have Wy:lo k≤n∧n≤hi k:=by omega
       rw [tM Wy] at gi;exact Reads.pj hB hd ⟨⟨rfl,rfl,rfl⟩,_,gi,by simp only [aa];exact⟨trivial,Wy⟩⟩
     · obtain⟨hq,hr,_⟩:=mr (w:=w) (A:=A) (β:=β) h hc;exact Reads.pj hB hd ⟨hq,_,gi,hr⟩
   · rename_i u Cf qS;rw [Cf] at nY;rw [qS] at Lx;simp only [Option.some.injEq] at h;subst h;have j1:=hx;simp only [aa] at hx;obtain⟨rfl,hn⟩:=hx;exact Reads.pj hB hd ⟨⟨rfl,rfl,rfl⟩,_,by simp [convert,run_underlying nY,run_underlying Lx],j1⟩
   · rename_i e u Cf qS;rw [Cf] at nY;rw [qS] at Lx;simp only [aa] at hx;obtain⟨rfl,hn⟩:=hx;split at h
     · rename_i te kv;have Lw:=jE hT kv;split at h
       · rename_i Wx;rw [Wx] at Lw;simp only [Option.some.injEq] at h;subst h;obtain⟨v',w',h1,h2⟩:=uc (P:=P) hB hd (e:=e) hn (c:= []);exact⟨v',w',by simp [convert,run_underlying nY,run_underlying Lx,run_underlying Lw,h1],h2⟩
       · cases h
     · cases h
   · rename_i e Cf qS;rw [Cf] at nY;rw [qS] at Lx;split at h
     · rename_i te kv;have Lw:=jE hT kv;split at h
       · rename_i Wx;rw [Wx] at Lw;split at h
         · rename_i u UC hu;simp only [Option.some.injEq] at h;subst h;have hvs:=N7 hB hx UC hu;obtain⟨h1,h2⟩:=ub (P:=P) hB hx hu hvs.2 hvs.1;obtain⟨ad,n,c,rfl⟩:=hvs.1;refine Reads.pj hB hd ⟨⟨rfl,rfl,rfl⟩, .string ⟨u.toArray⟩,?_,by simp only [aa];exact⟨trivial,h2⟩⟩;simp [convert,run_underlying nY,run_underlying Lx,run_underlying Lw,h1]
         · cases h
       · cases h
     · cases h
   · exact N8 hT hB hd hx h hc
   · cases h
 · cases h
end
end Go.Vg

end
section
namespace Go.Vg
open Go
structure j3 (w:World) (A:Nat→Prop) (w':World) (v:Value) (res:AV) (bs:List AB) (A':Nat→Prop) (aJ:Nat→Value):Prop where
 os:w'.os=w.os
 tape:w'.tape=w.tape
 output:w'.output=w.output
 size:w.heap.size≤w'.heap.size
 same:∀b,b<w.heap.size→w'.heap[b]? =w.heap[b]?
 mono:∀b,A b→A' b
 kE:∀b,b<w.heap.size→A' b→A b
 bound:∀b,A' b→b<w'.heap.size
 res:aa w' A' aJ v res
 rows:∀i ab,bs[i]? =some ab→BR w' A' aJ i ab∧∀b,ay (aJ i)=some b→w.heap.size≤b
 apart:∀i j b,i<bs.length→j<bs.length→ay (aJ i)=some b→ay (aJ j)=some b→i=j
def Valid(P:Program)(G:Nat→Option GD)(f:FuncId)(s:bf):Prop :=
 ∀(w:World) (A:Nat→Prop) (β:Nat→Value) (args:List Value) (cz:List AV) (pre:Prop) (res:AV) (bs:List AB),
  (∀b,A b→b<w.heap.size)→(∀i d,G i=some d→o0 w A i d)→af w A β args cz→s cz=some (pre,res,bs)→pre→
  Calls P f args.toArray w fun e w'=>∃v,e= .returned v∧∃A' aJ,j3 w A w' v res bs A' aJ
def HM(β:Nat→Value)(n:Nat)(b:Nat):Prop :=∃i,i<n∧ay (β (50000+i))=some b
def N9(r:gg)(k:Nat):Prop :=(∃i ab,k=50000+i∧i<10000∧r.heap[i]? =some (some ab))∨∃j,k=60000+j∧j<r.new.length
structure JS (w:World) (A:Nat→Prop) (β:Nat→Value) (n:Nat) (w':World) (v:Value) (r:gg) (A':Nat→Prop) (aJ:Nat→Value):Prop where
 os:w'.os=w.os
 tape:w'.tape=w.tape
 output:w'.output=w.output
 size:w.heap.size≤w'.heap.size
 same:∀b,b<w.heap.size→¬HM β n b→w'.heap[b]? =w.heap[b]?
 mono:∀b,A b→A' b∧w'.heap[b]? =w.heap[b]?
 kE:∀b,b<w.heap.size→A' b→A b∨HM β n b
 bound:∀b,A' b→b<w'.heap.size
 res:aa w' A' aJ v r.res
 kept:∀i ab,r.heap[i]? =some (some ab)→BR w' A' aJ (50000+i) ab∧aJ (50000+i)=β (50000+i)
 rows:∀j ab,r.new[j]? =some ab→BR w' A' aJ (60000+j) ab∧∀b,ay (aJ (60000+j))=some b→w.heap.size≤b∨HM β n b
 apart:∀k k' b,N9 r k→N9 r k'→ay (aJ k)=some b→ay (aJ k')=some b→k=k'
def cH(P:Program)(G:Nat→Option GD)(f:FuncId)(s:gh):Prop :=
 ∀(w:World) (A:Nat→Prop) (β:Nat→Value) (args:List Value) (cz:List AV) (hs:List AB) (r:gg),
  (∀b,A b→b<w.heap.size)→(∀i d,G i=some d→o0 w A i d)→af w A β args cz→
  (∀i ab,hs[i]? =some ab→BR w A β (50000+i) ab)→(∀i j b,i<hs.length→j<hs.length→ay (β (50000+i))=some b→ay (β (50000+j))=some b→i=j)→
  s cz hs=some r→r.pre→r.heap.length=hs.length→hs.length≤100→
  Calls P f args.toArray w fun e w'=>∃v,e= .returned v∧∃A' aJ,JS w A β hs.length w' v r A' aJ
section
variable {P:Program} {C:Ctx} {A A':Nat→Prop} {β aJ:Nat→Value} {st:St} {a:Act} {w:World} {T:bY}
theorem Dj {β aJ:Nat→Value}:∀(cs:List AV) (vs:List Value),cs.all CV=true→af w A β vs cs→af w A aJ vs cs
 | [],vs,_,h=>by simpa only [af] using h
 |c::cs,vs,ho,h=>by
  simp only [List.all_cons,Bool.and_eq_true] at ho;simp only [af] at h ⊢;obtain⟨v,bK,rfl,h1,h2⟩:=h;refine⟨v,bK,rfl,?_,Dj cs bK ho.2 h2⟩;have ho1:=ho.1;unfold CV at ho1;split at ho1
  · simpa only [aa,af] using h1
  · cases ho1
mutual
theorem su(base n:Nat)(bZ:∀i,i<n→aJ (base+i)=β i):∀(x:AV) (v:Value),iR n x=true→aa w A β v x→aa w A aJ v (di base x)
 | .own k,v,ho,h=>by
   simp only [iR] at ho;have :=Nat.le_of_ble_eq_true ho;simp only [di,aa] at h ⊢;rw [bZ k (by omega)];exact h
 | .agg cs,v,ho,h=>by
   simp only [iR] at ho;simp only [di,aa] at h ⊢;obtain⟨arr,h1,h2⟩:=h;exact⟨arr,h1,ud base n bZ cs _ ho h2⟩
 | .cD cs,v,ho,h=>by
   simp only [iR] at ho;simp only [di,aa] at h ⊢;obtain⟨arr,h1,h2⟩:=h;exact⟨arr,h1,ud base n bZ cs _ ho h2⟩
 | .c5,v,ho,h=>by simp [iR] at ho
 | .pre _ _,v,ho,h=>by simp [iR] at ho
 | .view _ _ _ _,v,ho,h=>by simp [iR] at ho
 | .ref _ _,v,ho,h=>by simp [iR] at ho
 | .elem _ _ _ _,v,ho,h=>by simp [iR] at ho
 | .fn _ _ _,v,ho,h=>by simp [iR] at ho
 | .gd _ _ _,v,ho,h=>by simp [iR] at ho
 | .undef,v,_,h=>by simpa only [di,aa] using h
 | .int _ _,v,_,h=>by simpa only [di,aa] using h
 | .bool _,v,_,h=>by simpa only [di,aa] using h
 | .tt,v,_,h=>by simpa only [di,aa] using h
 | .ff,v,_,h=>by simpa only [di,aa] using h
 | .str _,v,_,h=>by simpa only [di,aa] using h
 | .nil,v,_,h=>by simpa only [di,aa] using h
 | .jn,v,_,h=>by simpa only [di,aa] using h
 | .og _ _,v,_,h=>by simpa only [di,aa] using h
 | .jA,v,_,h=>by simpa only [di,aa] using h
 | .gf ks cs,v,ho,h=>by
   simp only [iR] at ho;simp only [di,aa] at h ⊢;obtain⟨b,es,ck,h1,h2,h3,h4,h5⟩:=h;exact⟨b,es,ck,h1,h2,h3,h4,Dj cs _ ho h5⟩
 | .sl _ _,v,_,h=>by simpa only [di,aa] using h
 | .full _ _,v,_,h=>by simpa only [di,aa] using h
theorem ud(base n:Nat)(bZ:∀i,i<n→aJ (base+i)=β i):∀(xs:List AV) (vs:List Value),yl n xs=true→af w A β vs xs→af w A aJ vs (oP base xs)
 | [],vs,_,h=>by simpa only [oP,af] using h
 |x::xs,vs,ho,h=>by
  simp only [yl,Bool.and_eq_true] at ho;simp only [af] at h;obtain⟨v,bK,rfl,h1,h2⟩:=h;simp only [oP,af];exact⟨v,bK,rfl,su base n bZ x v ho.1 h1,ud base n bZ xs bK ho.2 h2⟩
end
mutual
theorem Dk:∀(x:AV) (v:Value),x.eu=true→aa w A β v x→aa w A' β v x
 | .own _,v,_,h=>by simpa only [aa] using h
 | .agg cs,v,ho,h=>by
   simp only [AV.eu] at ho;simp only [aa] at h ⊢;obtain⟨arr,h1,h2⟩:=h;exact⟨arr,h1,ue cs _ ho h2⟩
 | .cD cs,v,ho,h=>by
   simp only [AV.eu] at ho;simp only [aa] at h ⊢;obtain⟨arr,h1,h2⟩:=h;exact⟨arr,h1,ue cs _ ho h2⟩
 | .c5,v,ho,h=>by simp [AV.eu] at ho
 | .pre _ _,v,ho,h=>by simp [AV.eu] at ho
 | .view _ _ _ _,v,ho,h=>by simp [AV.eu] at ho
 | .ref _ _,v,ho,h=>by simp [AV.eu] at ho
 | .elem _ _ _ _,v,ho,h=>by simp [AV.eu] at ho
 | .fn _ _ _,v,ho,h=>by simp [AV.eu] at ho
 | .gd _ _ _,v,ho,h=>by simp [AV.eu] at ho
 | .jn,v,ho,h=>by simp [AV.eu] at ho
 | .og _ _,v,ho,h=>by simp [AV.eu] at ho
 | .jA,v,ho,h=>by simp [AV.eu] at ho
 | .gf _ _,v,ho,h=>by simp [AV.eu] at ho
 | .sl _ _,v,ho,h=>by simp [AV.eu] at ho
 | .full _ _,v,ho,h=>by simp [AV.eu] at ho
 | .undef,v,_,h=>by simpa only [aa] using h
 | .int _ _,v,_,h=>by simpa only [aa] using h
 | .bool _,v,_,h=>by simpa only [aa] using h
 | .tt,v,_,h=>by simpa only [aa] using h
 | .ff,v,_,h=>by simpa only [aa] using h
 | .str _,v,_,h=>by simpa only [aa] using h
 | .nil,v,_,h=>by simpa only [aa] using h
theorem ue:∀(xs:List AV) (vs:List Value),yk xs=true→af w A β vs xs→af w A' β vs xs
 | [],vs,_,h=>by simpa only [af] using h
 |x::xs,vs,ho,h=>by
  simp only [yk,Bool.and_eq_true] at ho;simp only [af] at h ⊢;obtain⟨v,bK,rfl,h1,h2⟩:=h;exact⟨v,bK,rfl,Dk x v ho.1 h1,ue xs bK ho.2 h2⟩
end
theorem Ly:∀(row:List Ty) (vs:List Value) (x:Row row),row.all Cx=true→bk w A row vs x→bk w A' row vs x
 | [],vs,_,_,h=>by simpa only [bk] using h
 |t::ts,vs,x,hf,h=>by
  simp only [List.all_cons,Bool.and_eq_true] at hf;simp only [bk] at h ⊢;obtain⟨v,bK,rfl,h1,h2⟩:=h;refine⟨v,bK,rfl,?_,Ly ts bK _ hf.2 h2⟩;cases t with
  |slice r=>simp [Cx] at hf
  |int k=>simpa only [Rd] using h1
  |bool=>simpa only [Rd] using h1
  |str=>simpa only [Rd] using h1
theorem qj(base:Nat):∀(bs:List AB) (n k:Nat),au (eV (base+n) bs) k=(if base+n≤k then bs[k-(base+n)]? else none)
 | [],n,k=>by simp [eV,au]
 |b::bs,n,k=>by
  simp only [eV,au];by_cases hk:k=base+n
  · subst hk;simp
  · simp only [aR hk,cond_false];have :=qj base bs (n+1) k;rw [show base+(n+1)=base+n+1 by omega] at this;rw [this];by_cases h1:base+n≤k
    · rw [if_pos h1,if_pos (by omega)];have :k-(base+n)=(k-(base+n+1))+1:=by omega
      rw [this,List.getElem?_cons_succ]
    · rw [if_neg h1,if_neg (by omega)]
theorem wL:∀(bs:List AB) (i:Nat) (ab:AB),il bs=true→bs[i]? =some ab→∃e row l,ab= .row e row l false
 | [],i,ab,_,h=>by simp at h
 | .cells _::bs,_,_,h,_=>by simp [il] at h
 | .arr _ _::bs,_,_,h,_=>by simp [il] at h
 | .gD _ _ _ _ _::bs,_,_,h,_=>by simp [il] at h
 | .views _ _ _ _ _::bs,_,_,h,_=>by simp [il] at h
 | .row e row l true ::bs,_,_,h,_=>by simp [il] at h
 | .row e row l false ::bs,0,ab,_,h=>by simp at h;exact⟨e,row,l,h.symm⟩
 | .row e row l false ::bs,i+1,ab,ho,h=>wL bs i ab (by simpa [il] using ho) (by simpa using h)
theorem wM:∀(bs:List AB) (i:Nat) (e:Nat) (row:List Ty) (l:List (Row row)) (fr:Bool),db bs=true→bs[i]? =some (.row e row l fr)→row.all Cx=true
 | [],i,_,_,_,_,_,h=>by simp at h
 | .cells _::bs,_,_,_,_,_,h,_=>by simp [db] at h
 | .arr _ _::bs,_,_,_,_,_,h,_=>by simp [db] at h
 | .gD _ _ _ _ _::bs,_,_,_,_,_,h,_=>by simp [db] at h
 | .views _ _ _ _ _::bs,_,_,_,_,_,h,_=>by simp [db] at h
 | .row e row l fr::bs,0,e',iH,l',zY,ho,h=>by
   simp only [db,Bool.and_eq_true] at ho;simp only [List.getElem?_cons_zero,Option.some.injEq,AB.row.injEq] at h;obtain⟨_,rfl,_⟩:=h;exact ho.1
 | .row e row l fr::bs,i+1,e',iH,l',zY,ho,h=>by
   simp only [db,Bool.and_eq_true] at ho;exact wM bs i e' iH l' zY ho.2 (by simpa using h)
theorem iK {h:aS}:∀(new:List (Nat×AB)) (k:Nat) (b:AB),iT h new=true→au new k=some b→h k=none∧ou k=false
 | [],k,b,_,hf=>by simp [au] at hf
 |(j,x)::r,k,b,ho,hf=>by
  simp only [iT,Bool.and_eq_true] at ho;simp only [au] at hf;by_cases hk:k=j
  · subst hk;cases hh:h k with
    |none=>rw [hh] at ho;exact⟨rfl,by simpa using ho.1⟩
    |some y=>simp [hh] at ho
  · simp only [aR hk,cond_false] at hf;exact iK r k b ho.2 hf
theorem aF.call(hB:aF C A β st a w) {dst:Option Nat}(hd:∀t,dst=some t→t<st.n) {base:Nat} {res:AV} {bs:List AB} {fz:List Nat} {cond:List Prop} {v:Value} {w':World} {A1:Nat→Prop} {lk:Nat→Value}
  (xu:∀j∈fz,∃e row l fr,st.h j=some (.row e row l fr)) (dj:iT st.h (eV base bs)=true) (hro:iR bs.length res=true) (hor:il bs=true)
  (hp:j3 w (bM A β fz) w' v res bs A1 lk):
  Rel C (st.put dst {cond:=cond,res:=di base res,gw:=bif res.eu&&db bs then [] else cm st.h fz,new:=eV base bs}) (a.put dst v) w':=by
 let aJ:Nat→Value:=fun k=>if base≤k∧k<base+bs.length then lk (k-base) else β k
 have Dl:∀i,i<bs.length→aJ (base+i)=lk i:=by
  intro i hi;simp only [aJ];rw [if_pos (by omega)];congr 1;omega
 have qk:∀k,au (eV base bs) k=(if base≤k then bs[k-base]? else none):=fun k=>by simpa using qj base bs 0 k
 have bZ:∀k,au (eV base bs) k=none→aJ k=β k:=by
  intro k h;rw [qk k] at h;simp only [aJ];rw [if_neg];rintro⟨h1,h2⟩;rw [if_pos h1,List.getElem?_eq_none_iff] at h;omega
 have mg:∀k ab,au (eV base bs) k=some ab→base≤k∧bs[k-base]? =some ab∧k-base<bs.length:=by
  intro k ab h;rw [qk k] at h;split at h
  · rename_i hb;exact⟨hb,h,(List.getElem?_eq_some_iff.1 h).1⟩
  · cases h
 have wN:∀k ab,au (eV base bs) k=some ab→aJ k=lk (k-base):=by
  intro k ab h;obtain⟨h1,h2,h3⟩:=mg k ab h;have :=Dl (k-base) h3;rwa [show base+(k-base)=k by omega] at this
 let A2:Nat→Prop :=bif res.eu&&db bs then A else A1
 have arK:∀b,A b→A2 b:=by
  intro b hb;simp only [A2];cases res.eu&&db bs with
  |true=>exact hb
  |false=>exact hp.mono b (.inl hb)
 have hK:cP w w' A A2:=fun b hb=>⟨arK b hb,hp.same b (hB.bound b hb)⟩
 have yx:∀k ab,au (bif res.eu&&db bs then [] else cm st.h fz) k=some ab→(res.eu&&db bs)=false∧k∈fz∧∃e row l fr,st.h k=some (.row e row l fr)∧ab= .row e row l true :=by
  intro k ab h;cases hl:res.eu&&db bs with
  |true=>simp [hl,au] at h
  |false=>
   rw [hl] at h;obtain⟨h1,h2⟩:=gV fz k ab h;exact⟨rfl,h1,h2⟩
 refine⟨A2,aJ,?_⟩;refine hB.step (out:= {cond:=cond,res:=di base res,gw:=bif res.eu&&db bs then [] else cm st.h fz,new:=eV base bs}) hd (fun k b h=>iK _ k b dj h) ?_ bZ hK hp.os hp.tape hp.output hp.size (fun b hb _=>hp.same b hb) ?_ ?_ ?_ ?_ ?_ ?_ ?_
 · intro k b h;obtain⟨_,_,e,row,l,fr,h,_⟩:=yx k b h;simp [h]
 · intro b hb;simp only [A2] at hb;cases hl:res.eu&&db bs with
   |true=>rw [hl] at hb;exact Nat.lt_of_lt_of_le (hB.bound b hb) hp.size
   |false=>rw [hl] at hb;exact hp.bound b hb
 · intro b hb;simp only [A2] at hb;cases hl:res.eu&&db bs with
   |true=>rw [hl] at hb;exact .inl hb
   |false=>
    rw [hl] at hb;rcases Nat.lt_or_ge b w.heap.size with eM|Cd
    · rcases hp.kE b eM hb with h|⟨j,hj,N3⟩
      · exact .inl h
      · have hr:=xu j hj;refine .inr (.inr ⟨j,⟨by obtain⟨_,_,_,_,hr⟩:=hr;simp [hr], .inl ?_⟩,N3⟩);simp only [cond_false];exact mZ fz j hj hr
    · exact .inr (.inl Cd)
 · intro k ab h _;obtain⟨hl,hk,e,row,l,fr,hr,rfl⟩:=yx k ab h;rw [jY]
   have hkn:au (eV base bs) k=none:=by
    cases hh:au (eV base bs) k with
    |none=>rfl
    |some y=>have :=(iK _ k y dj hh).1;rw [hr] at this;cases this
   obtain⟨xs,h1,h2,h3⟩:=hB.blocks k _ hr;simp only [BR,bZ k hkn];refine⟨xs,fS h1 (fun b hb=>hp.same b (kJ hB (by simp [hr]) hb)),bE (fun c x hx=>bF hK row c x hx) l xs h2,fun b hb=> ?_⟩;simp only [if_true,A2,hl,cond_false];exact hp.mono b (.inr ⟨k,hk,hb⟩)
 · intro k ab h;obtain⟨h1,h2,h3⟩:=mg k ab h;obtain⟨e,row,l,rfl⟩:=wL bs _ ab hor h2;obtain⟨⟨xs,g1,g2,g3⟩,g4⟩:=hp.rows _ _ h2;simp only [BR,wN k _ h]
   have qU:b9 (bk w' A2 row) xs l:=by
    simp only [A2];cases hl:res.eu&&db bs with
    |true=>
     simp only [Bool.and_eq_true] at hl;exact bE (fun c x hx=>Ly row c x (wM bs _ e row l false hl.2 h2) hx) l xs g2
    |false=>exact g2
   refine⟨xs,g1,qU,fun b hb=> ?_⟩;have g3':=g3 b hb;simp only [Bool.false_eq_true,if_false] at g3' ⊢;simp only [A2];cases hl:res.eu&&db bs with
   |true=>intro hA;exact absurd (hB.bound b hA) (by have :=g4 b hb;omega)
   |false=>exact g3'
 · intro k b ab h hb;obtain⟨h1,h2,h3⟩:=mg k ab h;rw [wN k _ h] at hb;exact .inl ((hp.rows _ _ h2).2 b hb)
 · intro k k' b h h' hb bA;obtain⟨x,hx⟩:=Option.isSome_iff_exists.1 h;obtain⟨y,hy⟩:=Option.isSome_iff_exists.1 h';obtain⟨h1,h2,h3⟩:=mg k x hx;obtain⟨g1,g2,g3⟩:=mg k' y hy;rw [wN k _ hx] at hb;rw [wN k' _ hy] at bA;have :=hp.apart _ _ b h3 g3 hb bA;omega
 · have rv:=su (aJ:=aJ) base bs.length Dl res v hro hp.res;simp only [A2];cases hl:res.eu&&db bs with
   |false=>exact rv
   |true=>
    simp only [Bool.and_eq_true] at hl;exact su (aJ:=aJ) base bs.length Dl res v hro (Dk res v hl.1 hp.res)
end
end Go.Vg

end
section
namespace Go.Vg
open Go
def aD(P:Program)(f:FuncId):Prop :=∀(args:Array Value) (w:World),(callFunc f args).run P w= .ok (.enter f args) w
structure ai (P:Program) (E:Env):Prop where
 fK:bx E.T P
 sig:∀f s,E.sig f=some s→Valid P E.lI f s∧aD P f
 oh:∀f m s,E.oh f=some (m,s)→cH P E.lI f s∧aD P f
structure fq (P:Program) (C:Ctx) (E:Env):Prop where
 ok:ai P E
 g:C.G=E.lI
theorem fq.fK {P:Program} {C:Ctx} {E:Env}(h:fq P C E):bx E.T P:=h.ok.fK
theorem fq.oh {P:Program} {C:Ctx} {E:Env}(h:fq P C E):∀f m s,E.oh f=some (m,s)→cH P E.lI f s∧aD P f:=h.ok.oh
theorem fq.sig {P:Program} {C:Ctx} {E:Env}(h:fq P C E):∀f s,E.sig f=some s→Valid P E.lI f s∧aD P f:=h.ok.sig
def iu(st:St)(o:Oper):Bool:=match o.dst with
 |some d=>Nat.blt d st.n
 |none=>true
section
variable {P:Program} {C:Ctx} {A A':Nat→Prop} {β aJ:Nat→Value} {st:St} {a:Act} {w:World} {E:Env}
theorem nE(hB:aF C A β st a w):∀(xs:List Operand),af w A β (xs.map a.eval) (xs.map (ev st))
 | []=>by simp [af]
 |x::xs=>by
  simp only [List.map_cons,af];exact⟨_,_,rfl,aV hB x,nE hB xs⟩
theorem cw {dst:Option Tmp} {op:Op} {type:TypeId} {pos:String} {after:Array Edge} {guard:Option (Nat×Bool)} {s:Sem Value} {out:Out}
  (hs:∀w,(execOp a.eval ⟨dst,op,type,pos,after,guard⟩).run P w=(s.run P w).andThen fun v w'=> .ok (.value v) w') (h:∃v w',s.run P w= .ok v w'∧Rel C (st.put dst out) (a.put dst v) w')
  {K:Act→World→Prop} {Q:Exit→Act→World→Prop} (hK:∀a' w',Rel C (st.put dst out) a' w'→K a' w'):Oper.wp P ⟨dst,op,type,pos,after,guard⟩ a w K Q:=by
 obtain⟨v,w',h1,h2⟩:=h;refine cS (v:=v) (w':=w') ?_ (hK _ _ h2);rw [hs,h1];rfl
theorem Dm(hB:aF C A β st a w):∀(x:Option Operand),mX w A β (x.map (ev st)) (x.map a.eval)
 |none=>by simp [mX]
 |some x=>by simp only [Option.map_some,mX];exact aV hB x
theorem Dn {d:Nat} {b:AB}(h:iT st.h [(d,b)]=true):st.h d=none∧ou d=false :=iK _ d b h (by simp [au])
theorem Ao {h:aS} {k:Nat}(hf:fresh h k=true):h k=none∧ou k=false :=by
 unfold fresh at hf;cases hk:h k with
 |none=>rw [hk] at hf;exact⟨rfl,by simpa using hf⟩
 |some b=>simp [hk] at hf
theorem Lz(hE:fq P C E)(hB:aF C A β st a w) {o:Oper} {out:Out}(h:cQ E st o=some out)(jo:iu st o=true)(dj:iT st.h out.new=true)(hc:∀p∈out.cond,p)
  {K:Act→World→Prop} {Q:Exit→Act→World→Prop} (hK:∀a' w',Rel C (st.put o.dst out) a' w'→K a' w'):o.wp P a w K Q:=by
 have hd:∀t,o.dst=some t→t<st.n:=by
  intro t ht;unfold iu at jo;rw [ht] at jo;exact Nat.le_of_ble_eq_true jo
 obtain⟨dst,op,type,pos,after,guard⟩:=o;simp only at hd hK;cases op with
 |move x=>
  simp only [cQ,Option.some.injEq] at h;subst h;exact cS (by simp [execOp]) (hK _ _ (Rel.ku (hB.quiet hd ⟨rfl,rfl,rfl⟩ (aV hB x))))
 |assign x=>
  simp only [cQ,Option.some.injEq] at h;subst h;exact cS (by simp [execOp]) (hK _ _ (Rel.ku (hB.quiet hd ⟨rfl,rfl,rfl⟩ (aV hB x))))
 |pick c x y=>
  simp only [cQ] at h;have yK:=aV hB c;have hx:=aV hB x;have hy:=aV hB y;split at h
  · rename_i GB;simp only [Option.some.injEq] at h;subst h;rw [GB] at yK;simp only [aa] at yK;exact cS (v:=a.eval x) (by simp [execOp,yK,asBool]) (hK _ _ (Rel.ku (hB.quiet hd ⟨rfl,rfl,rfl⟩ hx)))
  · rename_i GB;simp only [Option.some.injEq] at h;subst h;rw [GB] at yK;simp only [aa] at yK;exact cS (v:=a.eval y) (by simp [execOp,yK,asBool]) (hK _ _ (Rel.ku (hB.quiet hd ⟨rfl,rfl,rfl⟩ hy)))
  · rename_i p GB;simp only [Option.some.injEq] at h;subst h;rw [GB] at yK;simp only [aa] at yK;refine cS (v:=if p then a.eval x else a.eval y) (by simp [execOp,yK,asBool]) (hK _ _ (Rel.ku (hB.quiet hd ⟨rfl,rfl,rfl⟩ ?_)));refine wI p _ _ ?_;cases p
    · simpa using hy
    · simpa using hx
  · cases h
 |alloc t=>
  simp only [cQ] at h;split at h
  · rename_i te d ht;cases Wz:Nat.ble te.size 40 with
    |false=>rw [Wz] at h;cases h
    |true=>
    rw [Wz] at h;simp only [cond_true] at h;cases gY:(ofConst te.zero).cells.all AV.one with
    |false=>simp [gY] at h
    |true=>
     simp only [gY,cond_true,Option.some.injEq] at h;subst h;exact cw (fun w=>by simp [execOp]) (JP hE.fK hB hd (Dn dj) ht gY) hK
  · cases h
 |box t x=>
  simp only [cQ] at h;split at h
  · rename_i d;cases gY:(ev st x).cells.all AV.one with
    |false=>simp [gY] at h
    |true=>
     simp only [gY,cond_true,Option.some.injEq] at h;subst h;exact cw (fun w=>by simp [execOp]) (N5 (t:=t) hB hd (Dn dj) (aV hB x) gY) hK
  · cases h
 |build t parts=>
  simp only [cQ] at h;refine cw (s:=Instr.build t (parts.map fun(i,x)=>(i,a.eval x))) (fun w=>by simp [execOp]) (Reads.pj hB hd (JQ hE.fK ?_ ?_ h)) hK
  · simp [Function.comp_def]
  · have :=nE hB (parts.toList.map (·.2));simpa [Function.comp_def] using this
 |buildSlice t len parts=>
  simp only [cQ] at h;split at h
  · rename_i d;cases hf:fresh st.h (st.kb+d) with
    |false=>simp [hf] at h
    |true=>
    simp only [hf,cond_true] at h;have hn:=Ao hf;refine cw (s:=Instr.buildSlice t len (parts.map fun(i,x)=>(i,a.eval x))) (fun w=>by simp [execOp]) (yL hE.fK hB hd hn ?_ ?_ h) hK
    · simp [Function.comp_def]
    · have :=nE hB (parts.toList.map (·.2));simpa [Function.comp_def] using this
  · cases h
 |load t x=>
  simp only [cQ] at h;exact cw (fun w=>by simp [execOp]) (Reads.pj hB hd (Be hE.fK hB (aV hB x) h hc)) hK
 |store t x y=>
  simp only [cQ] at h;have hx:=aV hB x;have hy:=aV hB y
  have key:∃w',(Instr.storeAt t (a.eval x) (a.eval y)).run P w= .ok () w'∧Rel C (st.put dst out) (a.put dst undef) w':=by
   cases xw:ev st x with
   |ref k off=>rw [xw] at h hx;exact Ai hE.fK hB hd hx hy h
   |elem k sz i j=>rw [xw] at h hx;exact yI hE.fK hB hd hx hy h hc
   |_=>rw [xw] at h;simp [ij] at h
  obtain⟨w',h1,h2⟩:=key;exact ry (w':=w') (by simp [execOp,h1]) (hK _ _ h2)
 |nilCheck x=>
  simp only [cQ] at h;have hx:=aV hB x
  have fin:∀r,ev st x=r→out= {cond:= [],res:=r}→(execOp a.eval {dst,op:= .nilCheck x,type,pos,after,guard}).run P w= .ok (.value (a.eval x)) w→Oper.wp P {dst,op:= .nilCheck x,type,pos,after,guard} a w K Q:=by
   intro r hr ho gi;subst ho;exact cS gi (hK _ _ (Rel.ku (hB.quiet hd ⟨rfl,rfl,rfl⟩ (by rw [←hr];exact hx))))
  split at h
  · rename_i k off hv;simp only [Option.some.injEq] at h;refine fin _ hv h.symm ?_;rw [hv] at hx;simp only [aa] at hx;obtain⟨b,_,hx⟩:=hx;simp [execOp,hx]
  · rename_i r y j hv;simp only [Option.some.injEq] at h;refine fin _ hv h.symm ?_;rw [hv] at hx;simp only [aa] at hx;obtain⟨b,o,cs,hx,_⟩:=hx;simp [execOp,hx]
  · rename_i k sz i j hv;simp only [Option.some.injEq] at h;refine fin _ hv h.symm ?_;rw [hv] at hx;simp only [aa] at hx;obtain⟨b,m,cap,_,hx⟩:=hx;simp [execOp,hx]
  · rename_i f first bn hv
    simp only [Option.some.injEq] at h;refine fin _ hv h.symm ?_;rw [hv] at hx;simp only [aa] at hx;obtain⟨a1,a2,hx,_⟩:=hx;simp [execOp,hx]
  · cases h
 |binOp op t x y yt=>
  simp only [cQ] at h
  exact cw (s:=do eqGuard op t x y (a.eval x) (a.eval y);binOp op t (a.eval x) (a.eval y)) (fun w=>by
   simp only [execOp,Sem.run_bind];cases (eqGuard op t x y (a.eval x) (a.eval y)).run P w<;>simp) (Reads.pj hB hd (NU hE.fK (aV hB x) (aV hB y) h hc)) hK
 |unOp op t x=>
  simp only [cQ] at h;exact cw (fun w=>by simp [execOp]) (Reads.pj hB hd (Uy (aV hB x) h hc)) hK
 |convert s d x=>
  simp only [cQ] at h;exact cw (fun w=>by simp [execOp]) (Di hE.fK hB hd (aV hB x) h hc) hK
 |makeFunc f first bn=>
  simp only [cQ,Option.some.injEq] at h;subst h;refine cS (v:= .func f (first.map a.eval) (bn.map a.eval)) (by simp [execOp,Instr.makeFunc]) (hK _ _ (Rel.ku (hB.quiet hd ⟨rfl,rfl,rfl⟩ ?_)));simp only [aa];exact⟨_,_,rfl,by simpa using nE hB first.toList,by simpa using nE hB bn.toList⟩
 |makeSlice t l c=>
  simp only [cQ] at h;split at h
  · rename_i d;cases hf:fresh st.h (st.kb+d) with
    |false=>simp [hf] at h
    |true=>
    simp only [hf,cond_true] at h;exact cw (fun w=>by simp [execOp]) (Ak hE.fK hB hd (Ao hf) (aV hB l) (aV hB c) h hc) hK
  · cases h
 |slice t x l hi mx=>
  simp only [cQ] at h;exact cw (fun w=>by simp [execOp]) (Reads.pj hB hd (JK hE.fK hB (aV hB x) (Dm hB l) (Dm hB hi) (Dm hB mx) h hc)) hK
 |fieldAddr s x f=>
  simp only [cQ] at h;exact cw (fun w=>by simp [execOp]) (Reads.pj hB hd (z8 hE.fK (aV hB x) h)) hK
 |field s x f=>
  simp only [cQ] at h;have hx:=aV hB x;split at h
  · rename_i ft off cs hf hv;split at h
    · rename_i te ht;split at h
      · rename_i r hp;simp only [Option.some.injEq] at h;subst h;rw [hv] at hx;simp only [aa] at hx;obtain⟨arr,hx,hr⟩:=hx;obtain⟨fs,fd,hu,Wg,e1,e2⟩:=Bf hE.fK hf;obtain⟨v,g1,g2⟩:=rz hE.fK ht hr hp;refine cS (v:=v) (w':=w) ?_ (hK _ _ (Rel.ku (hB.quiet hd ⟨rfl,rfl,rfl⟩ g2)));rw [←e1,←e2] at g1;simp [execOp,Instr.field,run_underlying hu,Wg,hx,asAgg,g1]
      · cases h
    · cases h
  · cases h
 |indexAddr t x i=>
  simp only [cQ,qf] at h;exact cw (fun w=>by simp [execOp]) (Reads.pj hB hd (z7 hE.fK hB (aV hB x) (aV hB i) h hc)) hK
 |lookup t x i ok=>
  simp only [cQ] at h;have hx:=aV hB x;have hi:=aV hB i;split at h
  · rename_i ks cs n xw WA;rw [xw] at hx;rw [WA] at hi;simp only [aa] at hi;refine cw (s:=Instr.lookup t (a.eval x) (a.eval i) ok) (fun w=>by simp [execOp]) (Reads.pj hB hd ?_) hK;rw [hi.1];exact Gv hE.fK hx h hc
  · cases h
 |extract x i=>
  simp only [cQ] at h;have hx:=aV hB x;split at h
  · rename_i vs hv;split at h
    · rename_i r hr;simp only [Option.some.injEq] at h;subst h;rw [hv] at hx;simp only [aa] at hx;obtain⟨arr,hx,hrel⟩:=hx;obtain⟨v,g1,g2⟩:=qe vs _ i r hrel hr;have g1':arr[i]? =some v:=by simpa using g1
      exact cS (v:=v) (w':=w) (by simp [execOp,Instr.extract,hx,g1']) (hK _ _ (Rel.ku (hB.quiet hd ⟨rfl,rfl,rfl⟩ g2)))
    · cases h
  · cases h
 |index t x i=>
  simp only [cQ] at h;have hx:=aV hB x;have hi:=aV hB i;split at h
  · rename_i s k n xw WA;cases qS:dq E.T t ot with
    |false=>simp [qS] at h
    |true=>
    simp only [qS,cond_true,Option.some.injEq] at h;subst h;obtain⟨h0,h1⟩:=dL hc;obtain⟨dd,hu,awz⟩:=pb hE.fK qS;have hu:P.underlying t=some .string:=by rw [hu];cases dd<;>simp_all [ot]
    rw [xw] at hx;rw [WA] at hi;simp only [aa] at hx hi;have eM:n.toNat<s.length:=by omega
    refine cS (v:= .int .u8 ((s.getD n.toNat 0).toNat:Int)) (w':=w) ?_ (hK _ _ (Rel.ku (hB.quiet hd ⟨rfl,rfl,rfl⟩ ?_)))
    · have hg:(⟨s.toArray⟩:ByteArray)[n.toNat]? =some (s.getD n.toNat 0):=by
       rw [getElem?_pos _ _ (by rw [rA];exact eM)];simp [List.getD,List.getElem?_eq_getElem eM];rfl
      simp [execOp,Instr.index,hx.1,hi.1,asIntOf,run_underlying hu,h0,hg]
    · simp only [aa,true_and];have :=(s.getD n.toNat 0).toNat_lt;simp only [lo,Vg.hi];omega
  · rename_i cs k n xw WA;rw [xw] at hx;rw [WA] at hi;simp only [aa] at hx hi;obtain⟨arr,hxe,wu⟩:=hx;exact cw (s:=Instr.index t (.agg arr) (a.eval i)) (fun w=>by simp [execOp,hxe]) (Reads.pj hB hd (Cb hE.fK wu hi.1 h hc)) hK
  · cases h
 |call c=>
  obtain⟨callee,args,argTypes⟩:=c;simp only [cQ] at h;split at h
  · rename_i b;split at h
    · rename_i x t bw xv;have hx:=aV hB x;split at h
      · rename_i n hn;cases hq:(bif sc (ev st x) then dq E.T t gA else dq E.T t ot) with
        |false=>simp [hq] at h
        |true=>
         simp only [hq,cond_true,Option.some.injEq] at h;subst h;have ea:args= #[x]:=by apply Array.ext';simpa using bw
         have et:argTypes= #[t]:=by apply Array.ext';simpa using xv
         subst ea;subst et;rcases NR hB hx hn with⟨ad,l,c,hv,hl,hm⟩|⟨s,hs,hl⟩
         · have UC:sc (ev st x)=true :=by
            cases xw:ev st x<;>first|rfl|skip
            rw [xw] at hx;simp only [aa] at hx;rw [hv] at hx;cases hx.1
           rw [UC] at hq;simp only [cond_true] at hq;obtain⟨d,hu,qS⟩:=pb hE.fK hq;obtain⟨e,rfl⟩:∃e,d= .slice e:=by cases d<;>simp_all [gA]
           refine cS (v:= .int .i64 (l:Int)) (w':=w) ?_ (hK _ _ (Rel.ku (hB.quiet hd ⟨rfl,rfl,rfl⟩ (by rw [hl];exact tZ l hm))));simp [execOp,resolve,invoke,builtin,hv,Builtin.len_,run_underlying hu,goInt]
         · rw [hs] at hx hq;simp only [sc,cond_false] at hq;obtain⟨d,hu,qS⟩:=pb hE.fK hq;have hu:P.underlying t=some .string:=by rw [hu];cases d<;>simp_all [ot]
           simp only [aa] at hx;refine cS (v:= .int .i64 (s.length:Int)) (w':=w) ?_ (hK _ _ (Rel.ku (hB.quiet hd ⟨rfl,rfl,rfl⟩ (by rw [hl];exact tZ _ hx.2))));simp [execOp,resolve,invoke,builtin,hx.1,Builtin.len_,run_underlying hu,goInt,rA]
      · cases h
    · rename_i x y t t' bw xv;split at h
      · rename_i d;cases hf:fresh st.h (st.kb+d) with
        |false=>simp [hf] at h
        |true=>
         simp only [hf,cond_true] at h;have ea:args= #[x,y]:=by apply Array.ext';simpa using bw
         have et:argTypes= #[t,t']:=by apply Array.ext';simpa using xv
         subst ea;subst et;exact cw (s:=Builtin.append_ #[t,t'] type #[a.eval x,a.eval y]) (fun w=>by simp [execOp,resolve,invoke,builtin]) (Gy hE.fK hB hd (Ao hf) (aV hB x) (aV hB y) h hc) hK
      · cases h
    · rename_i x y t t' bw xv;have ea:args= #[x,y]:=by apply Array.ext';simpa using bw
      have et:argTypes= #[t,t']:=by apply Array.ext';simpa using xv
      subst ea;subst et;exact cw (s:=Builtin.copy_ #[t,t'] type #[a.eval x,a.eval y]) (fun w=>by simp [execOp,resolve,invoke,builtin]) (Lt hE.fK hB hd (aV hB x) (aV hB y) h hc) hK
    · rename_i x t bw xv;have ea:args= #[x]:=by apply Array.ext';simpa using bw
      have et:argTypes= #[t]:=by apply Array.ext';simpa using xv
      subst ea;subst et;exact cw (s:=Builtin.clear_ #[t] type #[a.eval x]) (fun w=>by simp [execOp,resolve,invoke,builtin]) (JR hE.fK hB hd (aV hB x) h hc) hK
    · rename_i x y bw;have ea:args= #[x,y]:=by apply Array.ext';simpa using bw
      subst ea;have hx:=aV hB x;have hy:=aV hB y;split at h
      · rename_i k n k' m xw hyv;split at h
        · rename_i hk;subst hk;simp only [Option.some.injEq] at h;subst h;rw [xw] at hx;rw [hyv] at hy;simp only [aa] at hx hy;refine cS (v:= .int k (min n m)) (w':=w) ?_ (hK _ _ (Rel.ku (hB.quiet hd ⟨rfl,rfl,rfl⟩ (by simp only [aa,true_and];omega))));have e:(if m<n then m else n)=min n m:=by split<;>omega
          simp [execOp,resolve,invoke,builtin,hx.1,hy.1,run_min_int2,e]
        · cases h
      · cases h
    · rename_i x y bw;have ea:args= #[x,y]:=by apply Array.ext';simpa using bw
      subst ea;have hx:=aV hB x;have hy:=aV hB y;split at h
      · rename_i k n k' m xw hyv;split at h
        · rename_i hk;subst hk;simp only [Option.some.injEq] at h;subst h;rw [xw] at hx;rw [hyv] at hy;simp only [aa] at hx hy;refine cS (v:= .int k (max n m)) (w':=w) ?_ (hK _ _ (Rel.ku (hB.quiet hd ⟨rfl,rfl,rfl⟩ (by simp only [aa,true_and];omega))));have e:(if m>n then m else n)=max n m:=by split<;>omega
          simp [execOp,resolve,invoke,builtin,hx.1,hy.1,run_max_int2,e]
        · cases h
      · cases h
    · cases h
  · rename_i f;have hf:=aV hB f
    have key:∀(jF:FuncId) (first bn:List AV) (base:Nat),ev st f= .fn (.func jF) first bn→lJ E st.h base jF (first++(args.toList.map (ev st))++bn)=some out→
      Oper.wp P {dst,op:= .call {callee:= .value f,args,argTypes},type,pos,after,guard} a w K Q:=by
     intro jF first bn base pn je
     rw [pn] at hf;simp only [aa] at hf;obtain⟨a1,a2,JO,r1,r2⟩:=hf;unfold lJ at je;split at je
     · rename_i s hs;split at je
       · rename_i pre res bs UD;cases hq:(Nat.ble bs.length 100&&iR bs.length res&&il bs) with
         |false=>simp [hq] at je
         |true=>
          simp only [hq,cond_true,Option.some.injEq] at je;subst je;simp only [Bool.and_eq_true] at hq;obtain⟨hv,Oa⟩:=hE.sig jF s hs;have bw:=dM _ _ _ _ (dM _ _ _ _ r1 (nE hB args.toList)) r2;obtain⟨p1,p2⟩:=Aj (A':=bM A β (jC st.h (first++(args.toList.map (ev st))++bn)).2) hB (fun b h=> .inl h) _ _ bw (fun k hk b hb=> .inr ⟨k,hk,hb⟩)
          have N4:∀b,bM A β (jC st.h (first++(args.toList.map (ev st))++bn)).2 b→b<w.heap.size:=by
           intro b h;rcases h with h|⟨j,hj,hb⟩
           · exact hB.bound b h
           · obtain⟨e',r',l',f',hr⟩:=p2 j hj;exact kJ hB (by simp [hr]) hb
          have qW:=hv w _ β _ _ pre res bs N4 (fun i d hi=>(hB.laid i d (by rw [hE.g];exact hi)).mono (fun b h=>⟨.inl h,rfl⟩)) p1 UD (dL hc)
          have gi:(execOp a.eval {dst,op:= .call {callee:= .value f,args,argTypes},type,pos,after,guard}).run P w= .ok (.enter jF (a1.toList++args.toList.map a.eval++a2.toList).toArray) w:=by
           have e:(a1++args.map a.eval)++a2=(a1.toList++args.toList.map a.eval++a2.toList).toArray:=by
            apply Array.ext';simp
           have :=Oa (a1++args.map a.eval++a2) w;rw [e] at this;simp only [execOp,resolve,JO,Deferred.ofValue,Sem.run_bind,Sem.run_pure,Result.andThen_ok,invoke,e,this]
          unfold Oper.wp;rw [gi];simp only [Oper.upon_enter];refine qW.mono fun e w' ⟨v,he,A1,lk,po⟩=> ?_;subst he;exact hK _ _ (hB.call hd p2 dj hq.1.2 hq.2 po)
       · cases je
     · cases je
    split at h
    · rename_i jF first bn d pn
      exact key jF first bn _ pn h
    · rename_i jF first bn pn
      exact key jF first bn _ pn h
    · cases h
  · cases h
 |_=>simp [cQ] at h
end
end Go.Vg

end
