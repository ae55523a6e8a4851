import Derived.Deep.MidRow
import Derived.Laws.AppendOwn
import Derived.Laws.OwnMore
import Derived.KernelRfl
import Derived.Laws.Sem
import Derived.Laws.BytesString
import Derived.Laws.StructEq
import Derived.Laws.Strings
import Derived.Laws.Small
import Derived.Laws.MakeOwn
set_option linter.unusedVariables false
set_option linter.unusedSimpArgs false
section
namespace Go.Vg
open Go
inductive Ty where
 |int (k:IntKind)
 |bool
 |str
 |slice (row:List Ty)
mutual
def Ty.beq:Ty→Ty→Bool
 | .int k, .int k'=>decide (k=k')
 | .bool, .bool=>true
 | .str, .str=>true
 | .slice r, .slice r'=>Ty.rY r r'
 |_,_=>false
def Ty.rY:List Ty→List Ty→Bool
 | [],[]=>true
 |t::ts,u::us=>Ty.beq t u&&Ty.rY ts us
 |_,_=>false
end
@[reducible] def DI:IntKind→Type
  | .u8=>UInt8
  | .i8=>Int| .i16=>Int| .i32=>Int| .i64=>Int| .u16=>Int| .u32=>Int| .u64=>Int
@[reducible] def amT (ts:List Ty) (a b:Type):Type :=match ts with
  | []=>a
  |_::_=>a×b
mutual
@[reducible] def D:Ty→Type
  | .int k=>DI k
  | .bool=>Bool
  | .str=>List UInt8
  | .slice row=>List (Row row)
@[reducible] def Row:List Ty→Type
  | []=>Unit
  |t::ts=>amT ts (D t) (Row ts)
end
def DI.toInt:(k:IntKind)→DI k→Int
 | .u8,x=>(UInt8.toNat x:Int)
 | .i8,n=>n| .i16,n=>n| .i32,n=>n| .i64,n=>n| .u16,n=>n| .u32,n=>n| .u64,n=>n
def DI.ofInt:(k:IntKind)→Int→DI k
 | .u8,n=>UInt8.ofNat n.toNat
 | .i8,n=>n| .i16,n=>n| .i32,n=>n| .i64,n=>n| .u16,n=>n| .u32,n=>n| .u64,n=>n
def Row.hd {t:Ty}: {ts:List Ty}→Row (t::ts)→D t
 | [],x=>x
 |_::_,x=>x.1
def Row.tl {t:Ty}: {ts:List Ty}→Row (t::ts)→Row ts
 | [],_=>()
 |_::_,x=>x.2
def Row.mk {t:Ty}: {ts:List Ty}→D t→Row ts→Row (t::ts)
 | [],x,_=>x
 |_::_,x,y=>(x,y)
def DI.zero:(k:IntKind)→DI k
 | .u8=>(0:UInt8)
 | .i8=>(0:Int)| .i16=>(0:Int)| .i32=>(0:Int)| .i64=>(0:Int)| .u16=>(0:Int)| .u32=>(0:Int)| .u64=>(0:Int)
def D.zero:(t:Ty)→D t
 | .int k=>DI.zero k
 | .bool=>false
 | .str=> []
 | .slice _=> []
def Row.zero:(ts:List Ty)→Row ts
 | []=>()
 |t::ts=>Row.mk (D.zero t) (Row.zero ts)
def lo:IntKind→Int
 | .i8=> -128| .i16=> -32768| .i32=> -2147483648| .i64=> -9223372036854775808
 | .u8=>0| .u16=>0| .u32=>0| .u64=>0
def hi:IntKind→Int
 | .i8=>127| .i16=>32767| .i32=>2147483647| .i64=>9223372036854775807
 | .u8=>255| .u16=>65535| .u32=>4294967295| .u64=>18446744073709551615
def lj:IntKind→Option Int
 | .u8=>some 256| .u16=>some 65536| .u32=>some 4294967296| .u64=>some 18446744073709551616
 | .i8=>none| .i16=>none| .i32=>none| .i64=>none
inductive AV where
 |cF
 |undef
 |int (k:IntKind) (n:Int)
 |bool (b:Bool)
 |tt
 |ff
 |str (s:List UInt8)
 |nil
 |ir
 |jG
 |sl (row:List Ty) (l:List (Row row))
 |full (row:List Ty) (l:List (Row row))
 |fu (row:List Ty) (x:Row row) (j:Nat)
 |nI (row:List Ty) (l:List (Row row))
 |own (k:Nat)
 |pre (k:Nat) (n:Nat)
 |view (k sz off len:Nat)
 |ref (k off:Nat)
 |elem (k sz i j:Nat)
 |agg (cs:List AV)
 |dc (vs:List AV)
 |fn (f:Fn) (first bf:List AV)
 |mP (row:List Ty) (l:List (Row row))
inductive AB where
 |cells (cs:List AV)
 |row (e:Nat) (row:List Ty) (l:List (Row row)) (fr:Bool)
 |views (e:Nat) (j:Option Nat) (n m sz:Nat)
 |arr (row:List Ty) (l:List (Row row))
 |fZ (e:Nat) (j:Option Nat) (row:List Ty) (l:List (Row row)) (i:Nat)
def wD:(t:Ty)→D t→AV
 | .int k,x=> .int k (DI.toInt k x)
 | .bool,b=> .bool b
 | .str,s=> .str s
 | .slice row,l=> .sl row l
def eG:(ts:List Ty)→Row ts→List AV
 | [],_=> []
 |t::ts,x=>wD t (Row.hd x)::eG ts (Row.tl x)
mutual
theorem Ty.eq_of_beq:∀(a b:Ty),Ty.beq a b=true→a=b
 | .int k, .int k',h=>by simp [Ty.beq] at h;rw [h]
 | .bool, .bool,_=>rfl
 | .str, .str,_=>rfl
 | .slice r, .slice r',h=>by simp only [Ty.beq] at h;rw [Ty.iG r r' h]
 | .int _, .bool,h=>by simp [Ty.beq] at h
 | .int _, .str,h=>by simp [Ty.beq] at h
 | .int _, .slice _,h=>by simp [Ty.beq] at h
 | .bool, .int _,h=>by simp [Ty.beq] at h
 | .bool, .str,h=>by simp [Ty.beq] at h
 | .bool, .slice _,h=>by simp [Ty.beq] at h
 | .str, .int _,h=>by simp [Ty.beq] at h
 | .str, .bool,h=>by simp [Ty.beq] at h
 | .str, .slice _,h=>by simp [Ty.beq] at h
 | .slice _, .int _,h=>by simp [Ty.beq] at h
 | .slice _, .bool,h=>by simp [Ty.beq] at h
 | .slice _, .str,h=>by simp [Ty.beq] at h
theorem Ty.iG:∀(a b:List Ty),Ty.rY a b=true→a=b
 | [],[],_=>rfl
 |t::ts,u::us,h=>by
  simp only [Ty.rY,Bool.and_eq_true] at h
  rw [Ty.eq_of_beq t u h.1,Ty.iG ts us h.2]
 | [],_::_,h=>by simp [Ty.rY] at h
 |_::_,[],h=>by simp [Ty.rY] at h
end
def dR(r r':List Ty)(l:List (Row r)):Option (List (Row r')):=
 if h:Ty.rY r r'=true then some ((Ty.iG r r' h)▸l) else none
def IG:(t:Ty)→AV→Option (D t)
 | .int k, .int k' n=>if k=k' then some (DI.ofInt k n) else none
 | .bool, .bool b=>some b
 | .bool, .tt=>some true
 | .bool, .ff=>some false
 | .str, .str s=>some s
 | .slice r, .sl r' l=>dR r' r l
 | .slice r, .full r' l=>dR r' r l
 | .slice _, .nil=>some ([]:List _)
 |_,_=>none
def jz:(ts:List Ty)→List AV→Option (Row ts)
 | [],[]=>some ()
 |t::ts,a::aH=>match IG t a,jz ts aH with
  |some x,some y=>some (Row.mk x y)
  |_,_=>none
 |_,_=>none
def setRow:(ts:List Ty)→Row ts→Nat→AV→Option (Row ts)
 | [],_,_,_=>none
 |t::ts,x,0,a=>match IG t a with
  |some d=>some (Row.mk d (Row.tl x))
  |none=>none
 |t::ts,x,j+1,a=>match setRow ts (Row.tl x) j a with
  |some y=>some (Row.mk (Row.hd x:D t) y)
  |none=>none
def me:(ts:List Ty)→Row ts→Nat→List AV→Option (Row ts)
 |_,x,_,[]=>some x
 |ts,x,j,a::aH=>match setRow ts x j a with
  |some y=>me ts y (j+1) aH
  |none=>none
def qy(ts:List Ty):Nat→List AV→Option (List (Row ts))
 |0,aH=>match aH with| []=>some []|_::_=>none
 |n+1,aH=>match jz ts (aH.take ts.length),qy ts n (aH.drop ts.length) with
  |some x,some l=>some (x::l)
  |_,_=>none
structure TE where
 desc:TypeDesc
 size:Nat
 bytes:Nat
 zero:Value
inductive b9 where
 |leaf
 |node (l:b9) (k:Nat) (v:TE) (r:b9)
def b9.find:b9→Nat→Option TE
 | .leaf,_=>none
 | .node l k v r,n=>bif Nat.beq n k then some v else bif Nat.blt n k then l.find n else r.find n
def _root_.Go.TypeDesc.ja:TypeDesc→Bool
 | .struct _| .array _ _=>true
 |_=>false
def uO {α:Type}:Option (List α)→Option (List α)→Option (List α)
 |some a,some b=>some (a++b)
 |_,_=>none
def rowOf(T:b9):Nat→TypeId→Option (List Ty)
 |0,_=>none
 |n+1,t=>match T.find t with
  |none=>none
  |some te=>match te.desc with
   | .int k=>some [.int k]
   | .bool=>some [.bool]
   | .string=>some [.str]
   | .slice e=>match rowOf T n e with|some r=>some [.slice r]|none=>none
   | .struct fs=>fs.toList.foldr (fun f acc=>uO (rowOf T n f.type) acc) (some [])
   | .array k e=>match rowOf T n e with|some r=>some ((List.replicate k r).flatten)|none=>none
   |_=>none
def qz:Value→AV
 | .int k n=>if lo k≤n∧n≤hi k then .int k n else .cF
 | .bool b=>if b then .tt else .ff
 | .string s=>bif Nat.ble s.data.toList.length 1000000 then .str s.data.toList else .cF
 | .slice none 0 0=> .nil
 | .pointer none=> .ir
 | .nilFunc=> .jG
 |_=> .cF
def ofConst:Value→AV
 | .agg cs=> .agg (cs.toList.map qz)
 |v=>qz v
inductive KS where
 |one (k:Nat)
 |dst (d:Nat)
structure GD where
 row:List Ty
 l:List (Row row)
structure St where
 t:Nat→AV
 h:Nat→Option AB
 bF:List Nat
 news:List KS
 zf:List Nat
 n:Nat
 kb:Nat
 g:Nat→Option GD
abbrev aQ:=Nat→Option AB
def ev(st:St):Operand→AV
 | .tmp i=>st.t i
 | .const v=>ofConst v
 | .global i=>match st.g i with
   |some d=> .nI d.row d.l
   |none=> .cF
 | .func f=> .fn (.func f) [] []
def eT(h:aQ):AV→AV×List Nat
 | .own k=>match h k with
   |some (.row _ row l _)=>(.sl row l,[k])
   |_=>(.cF,[])
 | .pre k n=>match h k with
   |some (.row _ row l _)=>(.sl row (l.take n),[k])
   |_=>(.cF,[])
 | .view k sz off len=>match h k with
   |some (.row _ row l _)=>bif Nat.beq sz row.length then(.sl row ((l.drop off).take len),[k]) else(.cF,[])
   |_=>(.cF,[])
 |a=>(a,[])
def kB(h:aQ):List AV→List AV×List Nat
 | []=>([],[])
 |a::aH=>((eT h a).1::(kB h aH).1,(eT h a).2++(kB h aH).2)
def lb(h:aQ):AV→AV×List Nat
 | .agg cs=>(.agg (kB h cs).1,(kB h cs).2)
 |a=>eT h a
def iH(h:aQ):List AV→List AV×List Nat
 | []=>([],[])
 |a::aH=>((lb h a).1::(iH h aH).1,(lb h a).2++(iH h aH).2)
def AV.cells:AV→List AV
 | .agg cs=>cs
 |a=> [a]
def AV.one:AV→Bool
 | .cF| .undef| .agg _| .dc _=>false
 |_=>true
structure Out where
 cond:List Prop
 res:AV
 fH:List (Nat×AB):= []
 del:List Nat:= []
 new:List (Nat×AB):= []
 raw:List Nat:= []
def b4(h:aQ):List Nat→List (Nat×AB)
 | []=> []
 |k::ks=>match h k with
  |some (.row e row l _)=>(k, .row e row l true)::b4 h ks
  |_=>b4 h ks
mutual
def de(d:Nat):AV→AV
 | .own k=>bif Nat.beq k d then .cF else .own k
 | .pre k n=>bif Nat.beq k d then .cF else .pre k n
 | .view k sz off n=>bif Nat.beq k d then .cF else .view k sz off n
 | .ref k off=>bif Nat.beq k d then .cF else .ref k off
 | .elem k sz i j=>bif Nat.beq k d then .cF else .elem k sz i j
 | .agg cs=> .agg (eH d cs)
 | .dc vs=> .dc (eH d vs)
 | .fn f first bf=> .fn f (eH d first) (eH d bf)
 |a=>a
def eH(d:Nat):List AV→List AV
 | []=> []
 |a::aH=>de d a::eH d aH
end
def oM(d:Nat):Option Nat→Option Nat
 |some k=>bif Nat.beq k d then none else some k
 |none=>none
def lP(d:Nat):AB→AB
 | .cells cs=> .cells (eH d cs)
 | .views e j n m sz=> .views e (oM d j) n m sz
 | .fZ e j row l i=> .fZ e (oM d j) row l i
 |b=>b
def wE(cs:List AV)(off:Nat)(vs:List AV):List AV:=cs.take off++vs++cs.drop (off+vs.length)
def yh(h:aQ):AV→Option Int
 | .str s=>some (s.length:Int)
 | .sl _ l=>some (l.length:Int)
 | .full _ l=>some (l.length:Int)
 | .nil=>some 0
 | .own k=>match h k with
   |some (.row _ _ l _)=>some (l.length:Int)
   |_=>none
 | .pre k n=>match h k with
   |some (.row _ _ _ _)=>some (n:Int)
   |_=>none
 | .view k _ _ n=>match h k with
   |some (.row _ _ _ _)=>some (n:Int)
   |_=>none
 |_=>none
def oN(T:b9)(t:TypeId):Option TE:=match T.find t with
 |some te=>match te.desc with
  | .slice e=>T.find e
  |_=>none
 |none=>none
def tW(T:b9)(t:TypeId):Option TypeId:=match T.find t with
 |some te=>match te.desc with
  | .slice e=>some e
  |_=>none
 |none=>none
def jb(T:b9)(t:TypeId)(n:Nat):Bool:=match T.find t with
 |some te=>Nat.beq te.size n
 |none=>false
def bk(T:b9)(t:TypeId)(n:Nat):Bool:=match oN T t with
 |some te=>Nat.beq te.size n&&Nat.blt 0 n
 |none=>false
def AM(T:b9)(t:TypeId):Option (Nat×Nat):=match T.find t with
 |some te=>match te.desc with
  | .array k e=>match T.find e with
    |some ee=>bif Nat.blt 0 ee.size then some (k,ee.size) else none
    |none=>none
  |_=>none
 |none=>none
def dD(T:b9)(h:aQ)(t:TypeId):AV→AV→Option Out
 | .sl row l, .int _ i=>
   bif bk T t row.length then some {cond:= [0≤i∧i<(l.length:Int)],res:= .fu row (l.getD i.toNat (Row.zero row)) 0} else none
 | .full row l, .int _ i=>
   bif bk T t row.length then some {cond:= [0≤i∧i<(l.length:Int)],res:= .fu row (l.getD i.toNat (Row.zero row)) 0} else none
 | .own k, .int _ i=>match h k with
   |some (.row _ row l _)=>bif bk T t row.length then some {cond:= [0≤i∧i<(l.length:Int)],res:= .elem k row.length i.toNat 0} else none
   |_=>none
 | .pre k n, .int _ i=>match h k with
   |some (.row _ row l _)=>bif bk T t row.length then some {cond:= [0≤i∧i<(n:Int)],res:= .elem k row.length i.toNat 0} else none
   |_=>none
 | .view k sz off n, .int _ i=>bif bk T t sz then some {cond:= [0≤i∧i<(n:Int)],res:= .elem k sz (off+i.toNat) 0} else none
 | .nI row l, .int _ i=>match AM T t with
   |some (n,sz)=>bif Nat.beq sz row.length then some {cond:= [n=l.length,0≤i∧i<(l.length:Int)],res:= .fu row (l.getD i.toNat (Row.zero row)) 0} else none
   |none=>none
 | .ref k off, .int _ i=>match AM T t with
   |some (n,sz)=>some {cond:= [0≤i∧i<(n:Int)],res:= .ref k (off+i.toNat*sz)}
   |none=>none
 |_,_=>none
def EE(off:Nat)(n:Int)(sz:Nat):Nat:=off+n.toNat*sz
def ď:Operand→Option Int
 | .const (.int _ n)=>some n
 |_=>none
def nJ(T:b9)(h:aQ)(t:TypeId)(n:Option Int)(x y:AV):Option Out:=match n,x,y with
 |some n, .ref k off, .int kd i=>match AM T t with
  |some (m,sz)=>if n=i then some {cond:= [0≤i∧i<(m:Int)],res:= .ref k (EE off n sz)} else dD T h t (.ref k off) (.int kd i)
  |none=>none
 |_,x,y=>dD T h t x y
def pick(te:TE)(cs:List AV)(off:Nat):Option AV:=
 bif te.desc.ja then(bif Nat.ble (off+te.size) cs.length then some (.agg ((cs.drop off).take te.size)) else none)
 else cs[off]?
def mf(T:b9)(h:aQ)(t:TypeId):AV→Option Out
 | .fu row x j=>match T.find t with
   |some te=>match pick te (eG row x) j with
    |some a=>some {cond:= [],res:=a}
    |none=>none
   |none=>none
 | .nI row l=>match T.find t with
   |some te=>match pick te (l.flatMap (eG row)) 0 with
    |some a=>some {cond:= [],res:=a}
    |none=>none
   |none=>none
 | .ref k off=>match T.find t,h k with
   |some te,some (.cells cs)=>match pick te cs off with
    |some a=>some {cond:= [],res:=a}
    |none=>none
   |_,_=>none
 | .elem k sz i j=>match T.find t,h k with
   |some te,some (.row _ row l _)=>
    bif Nat.beq sz row.length then match pick te (eG row (l.getD i (Row.zero row))) j with
     |some a=>some {cond:= [i<l.length],res:=a}
     |none=>none
    else none
   |_,_=>none
 |_=>none
def gu(T:b9)(h:aQ)(t:TypeId):AV→AV→Option Out
 | .ref k off,v=>match h k with
   |some (.cells cs)=>
    bif v.cells.all AV.one&&jb T t v.cells.length&&Nat.ble (off+v.cells.length) cs.length then
     some {cond:= [],res:= .undef,fH:= [(k, .cells (wE cs off v.cells))]} else none
   |_=>none
 | .elem k sz i j,v=>match h k with
   |some (.row e row l false)=>
    bif Nat.beq sz row.length&&jb T t v.cells.length&&Nat.blt 0 v.cells.length then match me row (l.getD i (Row.zero row)) j (lb h v).1.cells with
     |some x=>bif (lb h v).2.elem k then none else some {cond:= [i<l.length],res:= .undef,fH:=(k, .row e row (l.set i x) false)::b4 h (lb h v).2}
     |none=>none
    else none
   |_=>none
 |_,_=>none
def wF(T:b9)(s:TypeId)(f:Nat):Option (TypeId×Nat):=match T.find s with
 |some te=>match te.desc with
  | .struct fs=>match fs[f]? with
    |some fd=>some (fd.type,fd.offset)
    |none=>none
  |_=>none
 |none=>none
def wG(T:b9)(t:TypeId):Bool:=match T.find t with
 |some te=>Nat.blt 0 te.size
 |none=>false
def py(T:b9)(s:TypeId)(f:Nat)(x:AV):Option Out:=match wF T s f with
 |some (ft,o)=>bif wG T ft then match x with
  | .ref k off=>some {cond:= [],res:= .ref k (off+o)}
  | .fu row x j=>some {cond:= [],res:= .fu row x (j+o)}
  | .elem k sz i j=>some {cond:= [],res:= .elem k sz i (j+o)}
  |_=>none
  else none
 |none=>none
def fit(k:IntKind)(n:Int):List Prop×AV:=match lj k with
 |some c=>([], .int k (n%c))
 |none=>([lo k≤n∧n≤hi k], .int k n)
def oO(k:IntKind)(cond:List Prop)(n:Int):Option Out:=some {cond:=cond++(fit k n).1,res:=(fit k n).2}
def uP(k:IntKind)(n:Int):List Prop :=match lj k with
 |some _=> []
 |none=> [0≤n]
def bitsOf:IntKind→Int
 | .i8| .u8=>8| .i16| .u16=>16| .i32| .u32=>32| .i64| .u64=>64
def aZ(a b:Int):Int:=((a.toNat&&&b.toNat:Nat):Int)
def cP(a b:Int):Int:=((a.toNat ||| b.toNat:Nat):Int)
def bo(a b:Int):Int:=((a.toNat^^^b.toNat:Nat):Int)
def oP:AV→Option Bool
 | .bool b=>some b
 | .tt=>some true
 | .ff=>some false
 |_=>none
def acQ(T:b9)(t:TypeId)(f:TypeDesc→Bool):Bool:=match T.find t with
 |some te=>f te.desc
 |none=>false
def fN:TypeDesc→Bool
 | .slice _=>true
 |_=>false
def AN:TypeDesc→Bool
 | .bool=>true
 |_=>false
def AO(T:b9)(E:TypeId→AV→AV→Option Bool)(xs ys:List AV):List Field→Option Bool
 | []=>some true
 |f::fs=>match T.find f.type with
  |some te=>match pick te xs f.offset,pick te ys f.offset with
   |some a,some b=>match E f.type a b,AO T E xs ys fs with
    |some r,some r'=>some (match fs with| []=>r|_=>bif r then r' else false)
    |_,_=>none
   |_,_=>none
  |none=>none
def zg(T:b9):Nat→TypeId→AV→AV→Option Bool
 |0,_,_,_=>none
 |n+1,t,x,y=>match T.find t with
  |some te=>match te.desc with
   | .struct fs=>match x,y with
     | .agg xs, .agg ys=>AO T (zg T n) xs ys fs.toList
     |_,_=>none
   | .int _=>match x,y with
     | .int k a, .int k' b=>if k=k' then some (decide (a=b)) else none
     |_,_=>none
   | .string=>match x,y with
     | .str a, .str b=>some (decide (a=b))
     |_,_=>none
   | .bool=>match oP x,oP y with
     |some a,some b=>some (a==b)
     |_,_=>none
   |_=>none
  |none=>none
def G6(T:b9)(t:TypeId)(op:BinOp):AV→AV→Option Out
 | .int k n, .int k' m=>match op with
   | .shl=>oO k [0≤m∧m≤bitsOf k] (n*2^m.toNat)
   | .shr=>some {cond:= [0≤m∧m≤bitsOf k],res:= .int k (n/2^m.toNat)}
   |_=>if k=k' then match op with
    | .add=>oO k [] (n+m)
    | .sub=>oO k [] (n-m)
    | .mul=>oO k [] (n*m)
    | .quo=>some {cond:=uP k n++ [0<m],res:= .int k (n/m)}
    | .rem=>some {cond:=uP k n++ [0<m],res:= .int k (n%m)}
    | .and=>some {cond:=uP k n++uP k m,res:= .int k (aZ n m)}
    | .or=>some {cond:=uP k n++uP k m,res:= .int k (cP n m)}
    | .xor=>some {cond:=uP k n++uP k m,res:= .int k (bo n m)}
    | .eql=>some {cond:= [],res:= .bool (decide (n=m))}
    | .neq=>some {cond:= [],res:= .bool (!decide (n=m))}
    | .lss=>some {cond:= [],res:= .bool (decide (n<m))}
    | .leq=>some {cond:= [],res:= .bool (decide (n≤m))}
    | .gtr=>some {cond:= [],res:= .bool (decide (m<n))}
    | .geq=>some {cond:= [],res:= .bool (decide (m≤n))}
    |_=>none
    else none
 | .str s, .str u=>match op with
   | .add=>some {cond:= [((s.length+u.length:Nat):Int)≤9223372036854775807],res:= .str (s++u)}
   | .eql=>some {cond:= [],res:= .bool (decide (s=u))}
   | .neq=>some {cond:= [],res:= .bool (!decide (s=u))}
   | .lss=>some {cond:= [],res:= .bool (Op.bytesLess s u)}
   | .leq=>some {cond:= [],res:= .bool (Op.bytesLess s u || decide (s=u))}
   | .gtr=>some {cond:= [],res:= .bool (!(Op.bytesLess s u || decide (s=u)))}
   | .geq=>some {cond:= [],res:= .bool (!Op.bytesLess s u)}
   |_=>none
 | .sl (r::rs) l, .nil=>bif acQ T t fN then match op with
     | .eql=>some {cond:= [],res:= .mP (r::rs) l}
     |_=>none
     else none
 | .agg xs, .agg ys=>match zg T 8 t (.agg xs) (.agg ys) with
   |some r=>match op with
    | .eql=>some {cond:= [],res:= .bool r}
    | .neq=>some {cond:= [],res:= .bool (!r)}
    |_=>none
   |none=>none
 |a,b=>match oP a,oP b with
  |some x,some y=>bif acQ T t AN then match op with
   | .eql=>some {cond:= [],res:= .bool (x==y)}
   | .neq=>some {cond:= [],res:= .bool (!(x==y))}
   |_=>none
   else none
  |_,_=>none
def KV(op:UnOp):AV→Option Out
 | .bool b=>match op with| .not=>some {cond:= [],res:= .bool (!b)}|_=>none
 | .tt=>match op with| .not=>some {cond:= [],res:= .ff}|_=>none
 | .ff=>match op with| .not=>some {cond:= [],res:= .tt}|_=>none
 | .int k n=>match op with
   | .neg=>oO k [] (0-n)
   | .xor=>match lj k with
     |some c=>some {cond:= [],res:= .int k (c-1-n)}
     |none=>none
   |_=>none
 |_=>none
def jA(h:aQ)(row:List Ty)(a:AV):Option (List (Row row)):=match a with
 | .str s=>dR [.int .u8] row s
 | .nil=>some []
 |a=>match(eT h a).1 with
  | .sl r l=>dR r row l
  | .full r l=>dR r row l
  |_=>none
def oQ:Nat:=8
def Ao:TypeDesc→Bool
 | .slice _=>true
 | .string=>true
 |_=>false
def lq(T:b9)(h:aQ)(d:Nat)(t t':TypeId)(s x:AV):Option Out:=
 match tW T t,oN T t with
 |some e,some te=>match rowOf T oQ e with
  |some row=>bif Nat.beq row.length te.size&&Nat.blt 0 te.size&&Nat.beq (ofConst te.zero).cells.length te.size&&acQ T t' Ao then
   match jA h row x with
   |some m=>match s with
    | .nil=>some {cond:= [m.length≤140737488355328/te.bytes],res:= .own d,new:= [(d, .row e row m false)]}
    | .own k=>match h k with
      |some (.row e' gO l false)=>bif Nat.beq e' e then match dR gO row l with
       |some l'=>some {cond:= [l'.length+m.length≤140737488355328/te.bytes],res:= .own d,del:= [k],new:= [(d, .row e row (l'++m) false)]}
       |none=>none
       else none
      |_=>none
    | .pre k n=>match h k with
      |some (.row e' gO l false)=>bif Nat.beq e' e then match dR gO row l with
       |some l'=>some {cond:= [n+m.length≤140737488355328/te.bytes],res:= .own d,del:= [k],new:= [(d, .row e row (l'.take n++m) false)]}
       |none=>none
       else none
      |_=>none
    | .full r l=>match dR r row l with
      |some l'=>some {cond:= [0<m.length,l'.length+m.length≤140737488355328/te.bytes],res:= .own d,new:= [(d, .row e row (l'++m) false)]}
      |none=>none
    |_=>none
   |none=>none
   else none
  |none=>none
 |_,_=>none
def mg(T:b9)(h:aQ)(t t':TypeId)(s x:AV):Option Out:=
 match s with
 | .own k=>match h k with
   |some (.row e row l false)=>bif bk T t row.length then match jA h row x with
    |some m=>some {cond:= [],res:= .int .i64 ((min m.length l.length:Nat):Int),fH:= [(k, .row e row (m.take l.length++l.drop m.length) false)]}
    |none=>none
    else none
   |_=>none
 | .view k sz off n=>match h k with
   |some (.row e row l false)=>bif bk T t row.length&&Nat.beq sz row.length then match jA h row x with
    |some m=>some {cond:= [off+n≤l.length],res:= .int .i64 ((min m.length n:Nat):Int),fH:= [(k, .row e row (l.take off++m.take n++l.drop (off+min m.length n)) false)]}
    |none=>none
    else none
   |_=>none
 |_=>none
def lQ:Option AV→Option (Option Int)
 |none=>some none
 |some (.int _ i)=>some (some i)
 |some _=>none
def mV:TypeDesc→Bool
 | .string=>true
 |_=>false
def nv(T:b9)(h:aQ)(t:TypeId)(x:AV)(lo hi mx:Option AV):Option Out:=
 match x,lQ lo,lQ hi,lQ mx with
 | .str s,some lo,some hi,some none=>bif acQ T t mV then match lo,hi with
   |none,none=>some {cond:= [],res:= .str s}
   |none,some b=>some {cond:= [0≤b∧b≤(s.length:Int)],res:= .str (s.take b.toNat)}
   |some a,none=>some {cond:= [0≤a∧a≤(s.length:Int)],res:= .str (s.drop a.toNat)}
   |some a,some b=>some {cond:= [0≤a∧a≤b∧b≤(s.length:Int)],res:= .str ((s.take b.toNat).drop a.toNat)}
   else none
 | .sl row l,some lo,some hi,some none=>bif bk T t row.length then match lo,hi with
   |none,none=>some {cond:= [],res:= .sl row l}
   |none,some b=>some {cond:= [0≤b∧b≤(l.length:Int)],res:= .sl row (l.take b.toNat)}
   |some a,none=>some {cond:= [0≤a∧a≤(l.length:Int)],res:= .sl row (l.drop a.toNat)}
   |some a,some b=>some {cond:= [0≤a∧a≤b∧b≤(l.length:Int)],res:= .sl row ((l.take b.toNat).drop a.toNat)}
   else none
 | .sl row l,some none,some (some b),some (some c)=>bif bk T t row.length then some {cond:= [0≤b∧b=c∧b≤(l.length:Int)],res:= .full row (l.take b.toNat)} else none
 | .own k,some lo,some hi,some none=>match h k with
   |some (.row _ row l _)=>bif bk T t row.length then match lo,hi with
    |none,none=>some {cond:= [],res:= .own k}
    |none,some b=>some {cond:= [0≤b∧b≤(l.length:Int)],res:= .pre k b.toNat}
    |some a,none=>some {cond:= [0≤a∧a≤(l.length:Int)],res:= .view k row.length a.toNat (l.length-a.toNat)}
    |some a,some b=>some {cond:= [0≤a∧a≤b∧b≤(l.length:Int)],res:= .view k row.length a.toNat (b.toNat-a.toNat)}
    else none
   |_=>none
 |_,_,_,_=>none
def qA:AV→Bool
 | .str _=>false
 |_=>true
def tX(T:b9)(h:aQ)(s d:TypeId)(k:Nat):Option Out:=
 bif Nat.beq s d then match T.find s with
  |some ts=>match ts.desc with
   | .slice e=>match T.find e,h k with
     |some te,some (.row _ row l false)=>match te.desc,dR row [.int .u8] l with
      | .int .u8,some l'=>some {cond:= [0<l'.length],res:= .sl [.int .u8] l',del:= [k]}
      |_,_=>none
     |_,_=>none
   |_=>none
  |none=>none
 else none
def kn(T:b9)(h:aQ)(s d:TypeId)(x:AV):Option Out:=
 match T.find s,T.find d with
 |some ts,some td=>match ts.desc,td.desc,x with
  | .int _, .int k, .int k' n=>
    if lo k≤lo k'∧hi k'≤hi k then some {cond:= [],res:= .int k n} else oO k [] n
  | .string, .string, .str u=>some {cond:= [],res:= .str u}
  | .string, .slice e, .str u=>match T.find e with
    |some te=>match te.desc with
     | .int .u8=>some {cond:= [],res:= .sl [.int .u8] u}
     |_=>none
    |none=>none
  | .slice e, .string,x=>match T.find e with
    |some te=>match te.desc with
     | .int .u8=>match qA x,jA h [.int .u8] x with
       |true,some u=>some {cond:= [],res:= .str u}
       |_,_=>none
     |_=>none
    |none=>none
  | .slice _, .slice _, .own k=>tX T h s d k
  |_,_,_=>none
 |_,_=>none
def vC(place:Nat→Option (Nat×Nat))(cs:List AV):List (Nat×AV)→Option (List AV)
 | []=>some cs
 |(i,v)::rest=>match place i with
  |none=>none
  |some (off,size)=>bif Nat.beq v.cells.length size&&Nat.ble (off+size) cs.length&&v.cells.all AV.one then vC place (wE cs off v.cells) rest else none
def placesOf(T:b9):List Field→Option (List (Nat×Nat))
 | []=>some []
 |f::fs=>match T.find f.type,placesOf T fs with
  |some te,some ps=>some ((f.offset,te.size)::ps)
  |_,_=>none
def yi(T:b9)(t:TypeId)(parts:List (Nat×AV)):Option Out:=match T.find t with
 |some te=>match te.desc with
  | .struct fs=>match placesOf T fs.toList with
    |some ps=>match vC (fun i=>ps[i]?) (ofConst te.zero).cells parts with
     |some cs=>some {cond:= [],res:= .agg cs}
     |none=>none
    |none=>none
  | .array _ e=>match T.find e with
    |some ee=>match vC (fun i=>some (i*ee.size,ee.size)) (ofConst te.zero).cells parts with
     |some cs=>some {cond:= [],res:= .agg cs}
     |none=>none
    |none=>none
  |_=>none
 |none=>none
def kC(h:aQ):List (Nat×AV)→List (Nat×AV)×List Nat
 | []=>([],[])
 |(i,x)::ps=>((i,(lb h x).1)::(kC h ps).1,(lb h x).2++(kC h ps).2)
def gv(T:b9)(h:aQ)(d:Nat)(t:TypeId)(len:Nat)(parts:List (Nat×AV)):Option Out:=
 match tW T t,oN T t with
 |some e,some te=>match rowOf T oQ e with
  |some row=>bif Nat.beq row.length te.size&&Nat.blt 0 te.size&&Nat.beq (ofConst te.zero).cells.length te.size&&Nat.ble (len*te.size) 16777216 then
   match vC (fun i=>some (i*te.size,te.size)) ((List.replicate len (ofConst te.zero).cells).flatten) (kC h parts).1 with
   |some cs=>match qy row len cs with
    |some l=>some {cond:= [],res:= .own d,fH:=b4 h (kC h parts).2,new:= [(d, .row e row l false)]}
    |none=>none
   |none=>none
   else none
  |none=>none
 |_,_=>none
def ck(row:List Ty)(z:Value):Bool:=match z with
 | .agg cs=>bL row cs.toList
 |v=>bL row [v]
where
 bL:List Ty→List Value→Bool
 | [],[]=>true
 | .int k::ts, .int k' n::vs=>decide (k=k')&&decide (n=0)&&bL ts vs
 | .bool::ts, .bool false ::vs=>bL ts vs
 | .str::ts, .string s::vs=>s.data.toList.isEmpty&&bL ts vs
 | .slice _::ts, .slice none 0 0::vs=>bL ts vs
 |_,_=>false
def lr(T:b9)(h:aQ)(t:TypeId)(x:AV):Option Out:=
 match x with
 | .view k sz off n=>match h k with
   |some (.row e row l false)=>match tW T t,oN T t with
    |some _,some te=>bif bk T t row.length&&Nat.beq sz row.length&&Nat.beq row.length te.size&&ck row te.zero then
      some {cond:= [off+n≤l.length],res:= .dc [],fH:= [(k, .row e row (l.take off++List.replicate n (Row.zero row)++l.drop (off+n)) false)]} else none
    |_,_=>none
   |_=>none
 |_=>none
def pz(T:b9)(d:Nat)(t:TypeId):AV→AV→Option Out
 | .int k n, .int k' c=>match tW T t,oN T t with
   |some e,some te=>match rowOf T oQ e with
    |some row=>bif Nat.beq row.length te.size&&Nat.blt 0 te.size&&ck row te.zero then
     some {cond:= [0≤n∧n≤c∧c≤140737488355328/te.bytes],res:= .own d,new:= [(d, .row e row (List.replicate n.toNat (Row.zero row)) false)]} else none
    |none=>none
   |_,_=>none
 |_,_=>none
abbrev bc:=List AV→Option (Prop×AV×List AB)
structure fe where
 pre:Prop
 res:AV
 heap:List (Option AB)
 new:List AB
abbrev eU:=List AV→List AB→Option fe
structure Env where
 T:b9
 sig:Nat→Option bc
 kD:Nat→Option GD:=fun _=>none
 pX:Nat→Option (List Bool×eU):=fun _=>none
 fZ:Nat→Bool:=fun _=>false
 cls:Nat→Option Nat:=fun _=>none
 spl:Nat→Bool:=fun _=>false
mutual
def cV(base:Nat):AV→AV
 | .own k=> .own (base+k)
 | .agg cs=> .agg (ny base cs)
 | .dc vs=> .dc (ny base vs)
 |a=>a
def ny(base:Nat):List AV→List AV
 | []=> []
 |a::aH=>cV base a::ny base aH
end
def eh(base:Nat):List AB→List (Nat×AB)
 | []=> []
 |b::bs=>(base,b)::eh (base+1) bs
def ko(d:Nat):Nat:=100000+100*d
mutual
def AV.dG:AV→Bool
 | .int _ _| .bool _| .tt| .ff| .str _| .undef| .own _| .nil=>true
 | .agg cs=>wH cs
 | .dc vs=>wH vs
 |_=>false
def wH:List AV→Bool
 | []=>true
 |a::aH=>a.dG&&wH aH
end
mutual
def ij(n:Nat):AV→Bool
 | .own k=>Nat.blt k n
 | .agg cs=>wI n cs
 | .dc vs=>wI n vs
 | .cF| .pre _ _| .view _ _ _ _| .ref _ _| .elem _ _ _ _| .fn _ _ _| .fu _ _ _| .nI _ _=>false
 |_=>true
def wI(n:Nat):List AV→Bool
 | []=>true
 |a::aH=>ij n a&&wI n aH
end
def gw:List AB→Bool
 | []=>true
 | .row _ _ _ false ::r=>gw r
 |_=>false
def Ap:Ty→Bool
 | .slice _=>false
 |_=>true
def cK:List AB→Bool
 | []=>true
 | .row _ row _ _::r=>row.all Ap&&cK r
 |_=>false
def kE(E:Env)(h:aQ)(d:Nat)(f:Nat)(args:List AV):Option Out:=match E.sig f with
 |some s=>match s (iH h args).1 with
  |some (pre,res,bs)=>bif Nat.ble bs.length 100&&ij bs.length res&&gw bs then some {cond:= [pre],res:=cV (ko d) res,fH:=bif res.dG&&cK bs then [] else b4 h (iH h args).2,new:=eh (ko d) bs} else none
  |none=>none
 |none=>none
def wJ(b:Bool):AV→AV→AV
 | .int k n, .int k' m=>if k=k' then .int k (bif b then n else m) else .cF
 | .str s, .str u=> .str (bif b then s else u)
 | .sl r l, .sl r' m=>match dR r' r m with
   |some m'=> .sl r (bif b then l else m')
   |none=> .cF
 | .sl r l, .nil=> .sl r (bif b then l else [])
 | .nil, .sl r l=> .sl r (bif b then [] else l)
 | .nil, .nil=> .nil
 | .ir, .ir=> .ir
 | .own k, .own k'=>bif Nat.beq k k' then .own k else .cF
 |x,y=>match oP x,oP y with
  |some p,some q=> .bool (bif b then p else q)
  |_,_=> .cF
def lu(b:Bool):List AV→List AV→List AV
 |x::xs,y::ys=>wJ b x y::lu b xs ys
 |_,_=> []
def wK(b:Bool):AV→AV→AV
 | .agg xs, .agg ys=>bif Nat.beq xs.length ys.length then .agg (lu b xs ys) else .cF
 | .dc xs, .dc ys=>bif Nat.beq xs.length ys.length then .dc (lu b xs ys) else .cF
 |x,y=>wJ b x y
def wL(b:Bool):Option AB→Option AB→Option AB
 |some (.cells xs),some (.cells ys)=>bif Nat.beq xs.length ys.length then some (.cells (lu b xs ys)) else none
 |some (.row e r l fr),some (.row e' r' m yj)=>match dR r' r m with
  |some m'=>bif Nat.beq e e'&&(fr==yj) then some (.row e r (bif b then l else m') fr) else none
  |none=>none
 |_,_=>none
def wM:List AV→Option (IntKind×List Int)
 | []=>none
 |a::r=>match a with
  | .int k n=>match r with
    | []=>some (k,[n])
    |_::_=>match wM r with
     |some (k',l)=>if k=k' then some (k,n::l) else none
     |none=>none
  |_=>none
def every(sz j:Nat):Nat→List AV→List AV
 |0,_=> []
 |n+1,cs=>cs.getD j .cF::every sz j n (cs.drop sz)
def wN(sz k:Nat)(cs:List AV)(n:Int):Nat→Option (List AV)
 |0=>some []
 |m+1=>match wN sz k cs n m,wM (every sz m k cs) with
  |some vs,some (kd,l)=>some (vs++ [.int kd (l.getD n.toNat 0)])
  |_,_=>none
def AP(T:b9)(t:TypeId):Option (Nat×TE):=match T.find t with
 |some te=>match te.desc with
  | .array k e=>match T.find e with
    |some ee=>some (k,ee)
    |none=>none
  |_=>none
 |none=>none
def qB(T:b9)(t:TypeId)(cs:List AV)(n:Int):Option Out:=match AP T t with
 |some (k,ee)=>bif Nat.beq cs.length (k*ee.size) then match wN ee.size k cs n ee.size with
  |some vs=>bif ee.desc.ja then some {cond:= [0≤n∧n<(k:Int)],res:= .agg vs} else match vs with
   | [a]=>some {cond:= [0≤n∧n<(k:Int)],res:=a}
   |_=>none
  |none=>none
  else none
 |none=>none
def mW(k:Nat):Bool:=Nat.ble 50000 k&&Nat.blt k 60000
def fresh(h:aQ)(k:Nat):Bool:=match h k with
 |none=> !(mW k)
 |some _=>false
def cG(E:Env)(st:St)(o:Oper):Option Out:=
 let T:=E.T
 let h:=st.h
 let ρ:=ev st
 match o.op with
 | .move x| .assign x=>some {cond:= [],res:=ρ x}
 | .pick c a b=>match ρ c with
   | .tt=>some {cond:= [],res:=ρ a}
   | .ff=>some {cond:= [],res:=ρ b}
   | .bool p=>some {cond:= [],res:=wK p (ρ a) (ρ b)}
   |_=>none
 | .alloc t=>match T.find t,o.dst with
   |some te,some d=>bif Nat.ble te.size 40 then(bif (ofConst te.zero).cells.all AV.one then some {cond:= [],res:= .ref (st.kb+d) 0,new:= [(st.kb+d, .cells (eH (st.kb+d) (ofConst te.zero).cells))]} else none) else none
   |_,_=>none
 | .box _ x=>match o.dst with
   |some d=>bif (ρ x).cells.all AV.one then some {cond:= [],res:= .ref (st.kb+d) 0,new:= [(st.kb+d, .cells (eH (st.kb+d) (ρ x).cells))]} else none
   |none=>none
 | .build t parts=>yi T t (parts.toList.map fun p=>(p.1,ρ p.2))
 | .buildSlice t len parts=>match o.dst with
   |some d=>bif fresh h (st.kb+d) then gv T h (st.kb+d) t len (parts.toList.map fun p=>(p.1,ρ p.2)) else none
   |none=>none
 | .load t p=>mf T h t (ρ p)
 | .store t p v=>gu T h t (ρ p) (ρ v)
 | .nilCheck x=>match ρ x with
   | .ref k off=>some {cond:= [],res:= .ref k off}
   | .fu r x j=>some {cond:= [],res:= .fu r x j}
   | .elem k sz i j=>some {cond:= [],res:= .elem k sz i j}
   | .fn (.func f) first bf=>some {cond:= [],res:= .fn (.func f) first bf}
   |_=>none
 | .binOp op t x y _=>G6 T t op (ρ x) (ρ y)
 | .unOp op _ x=>KV op (ρ x)
 | .convert s d x=>kn T h s d (ρ x)
 | .makeFunc f first bf=>some {cond:= [],res:= .fn f (first.toList.map ρ) (bf.toList.map ρ)}
 | .makeSlice t l c=>match o.dst with
   |some d=>bif fresh h (st.kb+d) then pz T (st.kb+d) t (ρ l) (ρ c) else none
   |none=>none
 | .slice t x lo hi mx=>nv T h t (ρ x) (lo.map ρ) (hi.map ρ) (mx.map ρ)
 | .fieldAddr s x f=>py T s f (ρ x)
 | .field s x f=>match wF T s f,ρ x with
   |some (ft,off), .agg cs=>match T.find ft with
    |some te=>match pick te cs off with
     |some a=>some {cond:= [],res:=a}
     |none=>none
    |none=>none
   |_,_=>none
 | .indexAddr t x i=>nJ T h t (ď i) (ρ x) (ρ i)
 | .index t x i=>match ρ x,ρ i with
   | .str s, .int _ n=>bif acQ T t mV then some {cond:= [0≤n∧n<(s.length:Int)],res:= .int .u8 ((s.getD n.toNat 0).toNat:Int)} else none
   | .agg cs, .int _ n=>qB T t cs n
   |_,_=>none
 | .extract x i=>match ρ x with
   | .dc vs=>match vs[i]? with
     |some a=>some {cond:= [],res:=a}
     |none=>none
   |_=>none
 | .call c=>match c.callee with
   | .builtin b=>match b,c.args.toList,c.argTypes.toList with
     | .len,[x],[t]=>match yh h (ρ x) with
       |some n=>bif (bif qA (ρ x) then acQ T t fN else acQ T t mV) then some {cond:= [],res:= .int .i64 n} else none
       |none=>none
     | .append,[s,x],[t,t']=>match o.dst with
       |some d=>bif fresh h (st.kb+d) then lq T h (st.kb+d) t t' (ρ s) (ρ x) else none
       |none=>none
     | .copy,[s,x],[t,t']=>mg T h t t' (ρ s) (ρ x)
     | .clear,[x],[t]=>lr T h t (ρ x)
     | .min,[x,y],_=>match ρ x,ρ y with
       | .int k n, .int k' m=>if k=k' then some {cond:= [],res:= .int k (min n m)} else none
       |_,_=>none
     | .max,[x,y],_=>match ρ x,ρ y with
       | .int k n, .int k' m=>if k=k' then some {cond:= [],res:= .int k (max n m)} else none
       |_,_=>none
     |_,_,_=>none
   | .value f=>match ρ f,o.dst with
     | .fn (.func f) first bf,some d=>kE E h (st.kb+d) f (first++(c.args.toList.map ρ)++bf)
     | .fn (.func f) first bf,none=>kE E h st.kb f (first++(c.args.toList.map ρ)++bf)
     |_,_=>none
   |_=>none
 |_=>none
def gU(h:aQ):List (Nat×AB)→Bool
 | []=>true
 |(k,_)::r=>(match h k with|none=> !(mW k)|some _=>false)&&gU h r
def kF(new:List (Nat×AB))(a:AV):AV:=match new with
 | []=>a
 |(k,_)::r=>kF r (de k a)
def ct(new:List (Nat×AB))(a:AB):AB:=match new with
 | []=>a
 |(k,_)::r=>ct r (lP k a)
def ar(l:List (Nat×AB))(k:Nat):Option AB:=match l with
 | []=>none
 |(j,b)::r=>bif Nat.beq k j then some b else ar r k
def aG(l:List Nat)(k:Nat):Bool:=match l with
 | []=>false
 |j::r=>Nat.beq k j || aG r k
def rZ(out:Out)(k:Nat)(b:AB):AB:=bif aG out.raw k then b else ct out.new b
def AQ(h:aQ)(out:Out):aQ:=fun k=>match ar out.new k with
 |some b=>some b
 |none=>bif aG out.del k then none else match ar out.fH k with
  |some b=>some (rZ out k b)
  |none=>match h k with
   |some b=>some (ct out.new b)
   |none=>none
def St.put(st:St)(d:Option Nat)(out:Out):St:=
 {st with
  t:=match d with
   |some d=>fun i=>bif Nat.beq i d then out.res else kF out.new (st.t i)
   |none=>fun i=>kF out.new (st.t i)
  h:=AQ st.h out
  bF:=out.fH.map (·.1)++(out.del++(out.new.map (·.1)++st.bF))
  news:=st.news++out.new.map fun x=> .one x.1
  zf:=out.del++st.zf}
def zh:List Prop→Prop
 | []=>True
 | [p]=>p
 |p::ps=>p∧zh ps
end Go.Vg

end
section
namespace Go.Vg
open Go
def bW {α:Type}(R:List Value→α→Prop):List Value→List α→Prop
 |cs,[]=>cs= []
 |cs,x::l=>∃c1 c2,cs=c1++c2∧R c1 x∧bW R c2 l
mutual
def Rd(w:World)(A:Nat→Prop):(t:Ty)→Value→D t→Prop
 | .int k,v,x=>v= .int k (DI.toInt k x)∧lo k≤DI.toInt k x∧DI.toInt k x≤hi k
 | .bool,v,b=>v= .bool b
 | .str,v,s=>v= .string ⟨s.toArray⟩∧s.length≤maxLen
 | .slice row,v,l=>∃a cap cs,v= .slice a l.length cap∧l.length≤cap∧cap≤maxLen∧bW (bg w A row) cs l∧
     (cs≠ []→∃b o,a=some ⟨b,o,none⟩∧A b∧w.rangeAt b o cs)
def bg(w:World)(A:Nat→Prop):(ts:List Ty)→List Value→Row ts→Prop
 | [],vs,_=>vs= []
 |t::ts,vs,x=>∃v bX,vs=v::bX∧Rd w A t v (Row.hd x)∧bg w A ts bX (Row.tl x)
end
mutual
def ae(w:World)(A:Nat→Prop)(β:Nat→Value):Value→AV→Prop
 |_, .cF=>True
 |v, .undef=>v=undef
 |v, .int k n=>v= .int k n∧lo k≤n∧n≤hi k
 |v, .bool b=>v= .bool b
 |v, .tt=>v= .bool true
 |v, .ff=>v= .bool false
 |v, .str s=>v= .string ⟨s.toArray⟩∧s.length≤maxLen
 |v, .nil=>v= .slice none 0 0
 |v, .ir=>v= .pointer none
 |v, .jG=>v= .nilFunc
 |v, .sl row l=>Rd w A (.slice row) v l
 |v, .full row l=>Rd w A (.slice row) v l∧∃a,v= .slice a l.length l.length
 |v, .fu row x j=>∃b o cs,v= .pointer (some ⟨b,o+j,none⟩)∧A b∧w.rangeAt b o cs∧bg w A row cs x
 |v, .nI row l=>∃b o cs,v= .pointer (some ⟨b,o,none⟩)∧A b∧w.rangeAt b o cs∧bW (bg w A row) cs l
 |v, .own k=>v=β k∧v.oneCell'=true
 |v, .pre k n=>(β k= .slice none 0 0∧v= .slice none 0 0∧n=0)∨
    ∃b m cap,β k= .slice (some ⟨b,0,none⟩) m cap∧v= .slice (some ⟨b,0,none⟩) n cap∧n≤m
 |v, .view k sz off n=>(n=0∧∃a cap,v= .slice a 0 cap∧cap≤maxLen)∨
    ∃b m cap gx,β k= .slice (some ⟨b,0,none⟩) m cap∧v= .slice (some ⟨b,off*sz,none⟩) n gx∧n≤gx∧off+gx≤cap∧off+n≤m
 |v, .ref k off=>∃b,β k= .pointer (some ⟨b,0,none⟩)∧v= .pointer (some ⟨b,off,none⟩)
 |v, .elem k sz i j=>∃b m cap,β k= .slice (some ⟨b,0,none⟩) m cap∧v= .pointer (some ⟨b,i*sz+j,none⟩)
 |v, .agg cs=>∃arr:Array Value,v= .agg arr∧ai w A β arr.toList cs
 |v, .dc vs=>∃arr:Array Value,v= .tuple arr∧ai w A β arr.toList vs
 |v, .mP _ l=>∃b,v= .bool b∧(b=true→l= [])
 |v, .fn f first bf=>∃a1 a2:Array Value,v= .func f a1 a2∧ai w A β a1.toList first∧ai w A β a2.toList bf
def ai(w:World)(A:Nat→Prop)(β:Nat→Value):List Value→List AV→Prop
 |vs,[]=>vs= []
 |vs,a::aH=>∃v bX,vs=v::bX∧ae w A β v a∧ai w A β bX aH
end
def ax:Value→Option Nat
 | .pointer (some a)=>some a.block
 | .slice (some a) _ _=>some a.block
 |_=>none
def BR(w:World)(A:Nat→Prop)(β:Nat→Value)(k:Nat):AB→Prop
 | .cells cs=>∃b arr e,β k= .pointer (some ⟨b,0,none⟩)∧w.heap[b]? =some (.cells arr e (0,0))∧¬A b∧
     ai w A β arr.toList cs∧∀v∈arr.toList,v.oneCell'=true
 | .row e row l fr=>∃xs,w.ownsRow 0 e row.length (β k) l.length xs∧bW (bg w A row) xs l∧
     ∀b,ax (β k)=some b→if fr then A b else ¬A b
 | .arr row l=>∃b arr e,β k= .pointer (some ⟨b,0,none⟩)∧w.heap[b]? =some (.cells arr e (0,0))∧¬A b∧bW (bg w A row) arr.toList l
 | .fZ e j row l i=>∃xs v0,w.ownsRow 0 e row.length (β k) l.length xs∧(∀b,ax (β k)=some b→¬A b)∧bW (bg w A row) (xs.set (i*row.length+(row.length-1)) v0) l∧
     ∀j',j=some j'→xs[i*row.length+(row.length-1)]? =some (β j')
 | .views e j n m sz=>∃xs,w.ownsRow 0 e 1 (β k) n xs∧(∀b,ax (β k)=some b→¬A b)∧
     ∀j',j=some j'→∀i,i<m→∃v,xs[i]? =some v∧ae w A β v (.view j' 1 (i*sz) sz)
def mH(w:World)(A:Nat→Prop)(i:Nat)(d:GD):Prop :=A i∧∃cs,w.rangeAt i 0 cs∧bW (bg w A d.row) cs d.l
structure Ctx where
 w0:World
 A0:Nat→Prop
 M0:Nat→Prop
 G:Nat→Option GD
 wO:Nat→Value
structure Fr (C:Ctx) (w:World):Prop where
 os:w.os=C.w0.os
 tape:w.tape=C.w0.tape
 output:w.output=C.w0.output
 size:C.w0.heap.size≤w.heap.size
 block:∀b,b<C.w0.heap.size→¬C.M0 b→w.heap[b]? =C.w0.heap[b]?
structure aE (C:Ctx) (A:Nat→Prop) (β:Nat→Value) (st:St) (a:Act) (w:World):Prop where
 defers:a.defers= []
 size:a.tmps.size=st.n
 tmps:∀i,ae w A β (a.tmps.getD i undef) (st.t i)
 blocks:∀k ab,st.h k=some ab→BR w A β k ab
 apart:∀k k' b,(st.h k).isSome→(st.h k').isSome→ax (β k)=some b→ax (β k')=some b→k=k'
 bound:∀b,A b→b<w.heap.size
 frame:Fr C w
 old:∀b,b<C.w0.heap.size→A b→C.A0 b∨C.M0 b
 base:∀b,C.A0 b→A b
 mh:∀k b,(st.h k).isSome→ax (β k)=some b→C.w0.heap.size≤b∨C.M0 b
 pA:∀i d,st.g i=some d→C.G i=some d
 laid:∀i d,C.G i=some d→mH w A i d
 held:∀k,mW k=true→β k=C.wO k
def Rel(C:Ctx)(st:St)(a:Act)(w:World):Prop :=∃A β,aE C A β st a w
theorem lR {w w':World} {b o:Nat} {cs:List Value}(h:w'.heap[b]? =w.heap[b]?)(hr:w.rangeAt b o cs):w'.rangeAt b o cs:=by
 intro j v hj
 have :=hr j v hj
 rw [World.cell?_of_block (w:=w) (w':=w') (a:=⟨b,o+j,none⟩) h]
 exact this
theorem br {α:Type} {R R':List Value→α→Prop}(h:∀c x,R c x→R' c x):∀(l:List α) (cs:List Value),bW R cs l→bW R' cs l
 | [],_,hr=>hr
 |_::l,_,⟨c1,c2,hc,h1,h2⟩=>⟨c1,c2,hc,h _ _ h1,br h l c2 h2⟩
def cy(w w':World)(A A':Nat→Prop):Prop :=∀b,A b→A' b∧w'.heap[b]? =w.heap[b]?
mutual
theorem wP {w w':World} {A A':Nat→Prop}(h:cy w w' A A'):∀(t:Ty) (v:Value) (x:D t),Rd w A t v x→Rd w' A' t v x
 | .int _,_,_,hr=>by simpa only [Rd] using hr
 | .bool,_,_,hr=>by simpa only [Rd] using hr
 | .str,_,_,hr=>by simpa only [Rd] using hr
 | .slice row,v,l,hr=>by
   simp only [Rd] at hr ⊢
   obtain⟨a,cap,cs,h1,h2,h3,h4,h5⟩:=hr
   refine⟨a,cap,cs,h1,h2,h3,br (fun c x hx=>bt h row c x hx) l cs h4,fun dp=> ?_⟩
   obtain⟨b,o,ha,hA,Đ⟩:=h5 dp
   exact⟨b,o,ha,(h b hA).1,lR (h b hA).2 Đ⟩
theorem bt {w w':World} {A A':Nat→Prop}(h:cy w w' A A'):∀(ts:List Ty) (vs:List Value) (x:Row ts),bg w A ts vs x→bg w' A' ts vs x
 | [],_,_,hr=>by simpa only [bg] using hr
 |t::ts,vs,x,hr=>by
  simp only [bg] at hr ⊢
  obtain⟨v,bX,h1,h2,h3⟩:=hr
  exact⟨v,bX,h1,wP h t v _ h2,bt h ts bX _ h3⟩
end
theorem mH.mono {w w':World} {A A':Nat→Prop} {i:Nat} {d:GD}(hd:mH w A i d)(h:cy w w' A A'):mH w' A' i d:=by
 obtain⟨h1,cs,h2,h3⟩:=hd
 exact⟨(h i h1).1,cs,lR (h i h1).2 h2,br (fun c x hx=>bt h _ _ _ hx) _ _ h3⟩
mutual
theorem gP {w w':World} {A A':Nat→Prop} {β:Nat→Value}(h:cy w w' A A'):∀(a:AV) (v:Value),ae w A β v a→ae w' A' β v a
 | .cF,_,hr=>by simp [ae]
 | .undef,_,hr=>by simpa only [ae] using hr
 | .int _ _,_,hr=>by simpa only [ae] using hr
 | .bool _,_,hr=>by simpa only [ae] using hr
 | .tt,_,hr=>by simpa only [ae] using hr
 | .ff,_,hr=>by simpa only [ae] using hr
 | .str _,_,hr=>by simpa only [ae] using hr
 | .nil,_,hr=>by simpa only [ae] using hr
 | .ir,_,hr=>by simpa only [ae] using hr
 | .mP _ _,_,hr=>by simpa only [ae] using hr
 | .jG,_,hr=>by simpa only [ae] using hr
 | .sl row l,v,hr=>by
   simp only [ae] at hr ⊢
   exact wP h _ _ _ hr
 | .full row l,v,hr=>by
   simp only [ae] at hr ⊢
   exact⟨wP h _ _ _ hr.1,hr.2⟩
 | .fu row x j,v,hr=>by
   simp only [ae] at hr ⊢
   obtain⟨b,o,cs,h1,h2,h3,h4⟩:=hr
   exact⟨b,o,cs,h1,(h b h2).1,lR (h b h2).2 h3,bt h _ _ _ h4⟩
 | .nI row l,v,hr=>by
   simp only [ae] at hr ⊢
   obtain⟨b,o,cs,h1,h2,h3,h4⟩:=hr
   exact⟨b,o,cs,h1,(h b h2).1,lR (h b h2).2 h3,br (fun c x hx=>bt h _ _ _ hx) _ _ h4⟩
 | .own _,_,hr=>by simpa only [ae] using hr
 | .pre _ _,_,hr=>by simpa only [ae] using hr
 | .view _ _ _ _,_,hr=>by simpa only [ae] using hr
 | .ref _ _,_,hr=>by simpa only [ae] using hr
 | .elem _ _ _ _,_,hr=>by simpa only [ae] using hr
 | .agg cs,v,hr=>by
   simp only [ae] at hr ⊢
   obtain⟨arr,h1,h2⟩:=hr
   exact⟨arr,h1,eY h cs _ h2⟩
 | .dc cs,v,hr=>by
   simp only [ae] at hr ⊢
   obtain⟨arr,h1,h2⟩:=hr
   exact⟨arr,h1,eY h cs _ h2⟩
 | .fn f first bf,v,hr=>by
   simp only [ae] at hr ⊢
   obtain⟨a1,a2,h1,h2,h3⟩:=hr
   exact⟨a1,a2,h1,eY h first _ h2,eY h bf _ h3⟩
theorem eY {w w':World} {A A':Nat→Prop} {β:Nat→Value}(h:cy w w' A A'):∀(aH:List AV) (vs:List Value),ai w A β vs aH→ai w' A' β vs aH
 | [],_,hr=>by simpa only [ai] using hr
 |a::aH,vs,hr=>by
  simp only [ai] at hr ⊢
  obtain⟨v,bX,h1,h2,h3⟩:=hr
  exact⟨v,bX,h1,gP h a v h2,eY h aH bX h3⟩
end
theorem aP {k d:Nat}(h:¬k=d):Nat.beq k d=false :=by
 cases hb:Nat.beq k d with
 |false=>rfl
 |true=>exact absurd (Nat.eq_of_beq_eq_true hb) h
theorem bD(k:Nat):Nat.beq k k=true :=Nat.beq_refl k
def bx(β:Nat→Value)(d:Nat)(v:Value):Nat→Value:=fun k=>if k=d then v else β k
mutual
theorem qC {w:World} {A:Nat→Prop} {β:Nat→Value}(d:Nat)(u:Value):∀(a:AV) (v:Value),ae w A β v a→ae w A (bx β d u) v (de d a)
 | .cF,_,hr=>by simp [de,ae]
 | .undef,_,hr=>by simpa only [de,ae] using hr
 | .int _ _,_,hr=>by simpa only [de,ae] using hr
 | .bool _,_,hr=>by simpa only [de,ae] using hr
 | .tt,_,hr=>by simpa only [de,ae] using hr
 | .ff,_,hr=>by simpa only [de,ae] using hr
 | .str _,_,hr=>by simpa only [de,ae] using hr
 | .nil,_,hr=>by simpa only [de,ae] using hr
 | .ir,_,hr=>by simpa only [de,ae] using hr
 | .mP _ _,_,hr=>by simpa only [de,ae] using hr
 | .jG,_,hr=>by simpa only [de,ae] using hr
 | .sl _ _,_,hr=>by simpa only [de,ae] using hr
 | .full _ _,_,hr=>by simpa only [de,ae] using hr
 | .fu _ _ _,_,hr=>by simpa only [de,ae] using hr
 | .nI _ _,_,hr=>by simpa only [de,ae] using hr
 | .own k,v,hr=>by
   simp only [de]
   by_cases hk:k=d
   · subst hk;simp [ae]
   · have :Nat.beq k d=false :=aP hk
     simp only [this,cond_false]
     simpa only [ae,bx,if_neg hk] using hr
 | .pre k n,v,hr=>by
   simp only [de]
   by_cases hk:k=d
   · subst hk;simp [ae]
   · have :Nat.beq k d=false :=aP hk
     simp only [this,cond_false]
     simpa only [ae,bx,if_neg hk] using hr
 | .view k sz off n,v,hr=>by
   simp only [de]
   by_cases hk:k=d
   · subst hk;simp [ae]
   · have :Nat.beq k d=false :=aP hk
     simp only [this,cond_false]
     simpa only [ae,bx,if_neg hk] using hr
 | .ref k off,v,hr=>by
   simp only [de]
   by_cases hk:k=d
   · subst hk;simp [ae]
   · have :Nat.beq k d=false :=aP hk
     simp only [this,cond_false]
     simpa only [ae,bx,if_neg hk] using hr
 | .elem k sz i j,v,hr=>by
   simp only [de]
   by_cases hk:k=d
   · subst hk;simp [ae]
   · have :Nat.beq k d=false :=aP hk
     simp only [this,cond_false]
     simpa only [ae,bx,if_neg hk] using hr
 | .agg cs,v,hr=>by
   simp only [de,ae] at hr ⊢
   obtain⟨arr,h1,h2⟩:=hr
   exact⟨arr,h1,ga d u cs _ h2⟩
 | .dc cs,v,hr=>by
   simp only [de,ae] at hr ⊢
   obtain⟨arr,h1,h2⟩:=hr
   exact⟨arr,h1,ga d u cs _ h2⟩
 | .fn f first bf,v,hr=>by
   simp only [de,ae] at hr ⊢
   obtain⟨a1,a2,h1,h2,h3⟩:=hr
   exact⟨a1,a2,h1,ga d u first _ h2,ga d u bf _ h3⟩
theorem ga {w:World} {A:Nat→Prop} {β:Nat→Value}(d:Nat)(u:Value):∀(aH:List AV) (vs:List Value),ai w A β vs aH→ai w A (bx β d u) vs (eH d aH)
 | [],_,hr=>by simpa only [eH,ai] using hr
 |a::aH,vs,hr=>by
  simp only [eH,ai] at hr ⊢
  obtain⟨v,bX,h1,h2,h3⟩:=hr
  exact⟨v,bX,h1,qC d u a v h2,ga d u aH bX h3⟩
end
theorem KW {w:World} {A:Nat→Prop} {β aJ:Nat→Value}(h:∀k,aJ k=β k) {v:Value} {a:AV}(hr:ae w A β v a):ae w A aJ v a:=by
 have :aJ=β:=funext h
 rw [this];exact hr
theorem uQ {w:World} {A:Nat→Prop}:∀(new:List (Nat×AB)) (β aJ:Nat→Value) (v:Value) (a:AV),(∀k,ar new k=none→aJ k=β k)→ae w A β v a→ae w A aJ v (kF new a)
 | [],β,aJ,v,a,h,hr=>by
   simp only [kF]
   exact KW (fun k=>h k (by simp [ar])) hr
 |(d,b)::r,β,aJ,v,a,h,hr=>by
  simp only [kF]
  refine uQ r (bx β d (aJ d)) aJ v (de d a) (fun k hk=> ?_) (qC d (aJ d) a v hr)
  by_cases G7:k=d
  · subst G7;simp [bx]
  · simp only [bx,if_neg G7]
    exact h k (by simp only [ar,aP G7,cond_false];exact hk)
def pY(new:List (Nat×AB))(cs:List AV):List AV:=match new with
 | []=>cs
 |(k,_)::r=>pY r (eH k cs)
theorem r5 {w:World} {A:Nat→Prop}:∀(new:List (Nat×AB)) (β aJ:Nat→Value) (vs:List Value) (aH:List AV),(∀k,ar new k=none→aJ k=β k)→ai w A β vs aH→ai w A aJ vs (pY new aH)
 | [],β,aJ,v,a,h,hr=>by
   simp only [pY]
   have :aJ=β:=funext fun k=>h k (by simp [ar])
   rw [this];exact hr
 |(d,b)::r,β,aJ,v,a,h,hr=>by
  simp only [pY]
  refine r5 r (bx β d (aJ d)) aJ v (eH d a) (fun k hk=> ?_) (ga d (aJ d) a v hr)
  by_cases G7:k=d
  · subst G7;simp [bx]
  · simp only [bx,if_neg G7]
    exact h k (by simp only [ar,aP G7,cond_false];exact hk)
theorem r6:∀(new:List (Nat×AB)) (cs:List AV),ct new (.cells cs)= .cells (pY new cs)
 | [],_=>rfl
 |(k,_)::r,cs=>by simp only [ct,lP,pY,r6 r]
theorem jc:∀(new:List (Nat×AB)) (e:Nat) (row:List Ty) (l:List (Row row)) (fr:Bool),ct new (.row e row l fr)= .row e row l fr
 | [],_,_,_,_=>rfl
 |(k,_)::r,e,row,l,fr=>by simp only [ct,lP,jc r]
theorem wQ:∀(new:List (Nat×AB)) (row:List Ty) (l:List (Row row)),ct new (.arr row l)= .arr row l
 | [],_,_=>rfl
 |(k,_)::r,row,l=>by simp only [ct,lP,wQ r]
def jH(new:List (Nat×AB))(j:Option Nat):Option Nat:=match new with
 | []=>j
 |(k,_)::r=>jH r (oM k j)
theorem r7:∀(new:List (Nat×AB)) (e:Nat) (j:Option Nat) (n m sz:Nat),ct new (.views e j n m sz)= .views e (jH new j) n m sz
 | [],_,_,_,_,_=>rfl
 |(k,_)::r,e,j,n,m,sz=>by simp only [ct,lP,jH,r7 r]
theorem wR:∀(new:List (Nat×AB)) (e:Nat) (j:Option Nat) (row:List Ty) (l:List (Row row)) (i:Nat),ct new (.fZ e j row l i)= .fZ e (jH new j) row l i
 | [],_,_,_,_,_=>rfl
 |(k,_)::r,e,j,row,l,i=>by simp only [ct,lP,jH,wR r]
theorem pB:∀(new:List (Nat×AB)),jH new none=none
 | []=>rfl
 |(k,_)::r=>by simp only [jH,oM,pB r]
theorem pC:∀(new:List (Nat×AB)) (j:Option Nat) (j':Nat),jH new j=some j'→j=some j'∧ar new j'=none
 | [],j,j',h=>⟨h,rfl⟩
 |(k,_)::r,none,j',h=>by simp only [jH,oM,pB] at h;cases h
 |(k,_)::r,some i,j',h=>by
  simp only [jH,oM] at h
  cases hb:Nat.beq i k with
  |true=>rw [hb] at h;simp only [cond_true,pB] at h;cases h
  |false=>
   rw [hb] at h
   obtain⟨h1,h2⟩:=pC r (some i) j' h
   simp only [Option.some.injEq] at h1
   subst h1
   exact⟨rfl,by simp only [ar,hb,cond_false];exact h2⟩
theorem r8 {w w':World} {A A':Nat→Prop} {β aJ:Nat→Value} {v:Value} {j sz off n:Nat}(h:aJ j=β j)(hr:ae w A β v (.view j sz off n)):ae w' A' aJ v (.view j sz off n):=by
 simp only [ae] at hr ⊢
 rw [h];exact hr
theorem fg {w w':World} {e size n:Nat} {v:Value} {xs:List Value}(h:w.ownsRow 0 e size v n xs)(hb:∀b,ax v=some b→w'.heap[b]? =w.heap[b]?):w'.ownsRow 0 e size v n xs:=by
 refine⟨h.1,?_⟩
 rcases h.2 with hn|⟨g,cap,cur,rfl,h0,hg,rest⟩
 · exact .inl hn
 · refine .inr ⟨g,cap,cur,rfl,h0,?_,rest⟩
   rw [hb g rfl];exact hg
theorem r9 {w w':World} {A A':Nat→Prop} {β aJ:Nat→Value} {new:List (Nat×AB)} {k:Nat} {ab:AB}(bT:∀k,ar new k=none→aJ k=β k)(hk:aJ k=β k)
  (hblk:∀b,ax (β k)=some b→w'.heap[b]? =w.heap[b]? ∧(A' b→A b)) (hK:cy w w' A A') (h:BR w A β k ab):BR w' A' aJ k (ct new ab):=by
 cases ab with
 |cells cs=>
  rw [r6]
  obtain⟨b,arr,e,h1,h2,h3,h4,h5⟩:=h
  have hb:=hblk b (by rw [h1];rfl)
  exact⟨b,arr,e,hk.trans h1,hb.1.trans h2,fun hA=>h3 (hb.2 hA),r5 new β aJ _ _ bT (eY hK _ _ h4),h5⟩
 |row e row l fr=>
  rw [jc]
  obtain⟨xs,h1,h2,h3⟩:=h
  simp only [BR,hk]
  refine⟨xs,fg h1 (fun b hb=>(hblk b hb).1),br (fun c x hx=>bt hK row c x hx) l xs h2,fun b hb=> ?_⟩
  have :=h3 b hb
  cases fr with
  |true=>simp only [if_true] at this ⊢;exact(hK b this).1
  |false=>simp only [Bool.false_eq_true,if_false] at this ⊢;exact fun hA=>this ((hblk b hb).2 hA)
 |arr row l=>
  rw [wQ]
  obtain⟨b,arr,e,h1,h2,h3,h4⟩:=h
  have hb:=hblk b (by rw [h1];rfl)
  exact⟨b,arr,e,hk.trans h1,hb.1.trans h2,fun hA=>h3 (hb.2 hA),br (fun c x hx=>bt hK row c x hx) l _ h4⟩
 |views e j n m sz=>
  rw [r7]
  obtain⟨xs,h1,h2,h3⟩:=h
  simp only [BR,hk]
  refine⟨xs,fg h1 (fun b hb=>(hblk b hb).1),fun b hb hA=>h2 b hb ((hblk b hb).2 hA),fun j' dO i hi=> ?_⟩
  obtain⟨hj,cR⟩:=pC new j j' dO
  obtain⟨v,IH,Ea⟩:=h3 j' hj i hi
  exact⟨v,IH,r8 (bT j' cR) Ea⟩
 |fZ e j row l i=>
  rw [wR]
  obtain⟨xs,v0,h1,h2,h3,h4⟩:=h
  simp only [BR,hk]
  refine⟨xs,v0,fg h1 (fun b hb=>(hblk b hb).1),fun b hb hA=>h2 b hb ((hblk b hb).2 hA),br (fun c x hx=>bt hK row c x hx) l _ h3,fun j' dO=> ?_⟩
  obtain⟨hj,cR⟩:=pC new j j' dO
  rw [bT j' cR];exact h4 j' hj
def jI(st:St)(out:Out)(k:Nat):Prop :=(st.h k).isSome∧((ar out.fH k).isSome∨aG out.del k=true)
theorem aE.Sz {C:Ctx} {A A':Nat→Prop} {β aJ:Nat→Value} {st:St} {a:Act} {w w':World} {out:Out} {d:Option Nat} {v:Value}
  (hB:aE C A β st a w) (hd:∀t,d=some t→t<st.n)
  (yk:∀k b,ar out.new k=some b→st.h k=none∧mW k=false)
  (yl:∀k b,ar out.fH k=some b→(st.h k).isSome)
  (bT:∀k,ar out.new k=none→aJ k=β k)
  (hK:cy w w' A A')
  (hos:w'.os=w.os) (KX:w'.tape=w.tape) (oR:w'.output=w.output) (mI:w.heap.size≤w'.heap.size)
  (vD:∀b,b<w.heap.size→(∀k,jI st out k→ax (β k)≠some b)→w'.heap[b]? =w.heap[b]?)
  (hbound:∀b,A' b→b<w'.heap.size)
  (hA:∀b,A' b→A b∨w.heap.size≤b∨∃k,jI st out k∧ax (β k)=some b)
  (wS:∀k ab,ar out.fH k=some ab→aG out.del k=false→BR w' A' aJ k (rZ out k ab))
  (cR:∀k ab,ar out.new k=some ab→BR w' A' aJ k ab)
  (sa:∀k b ab,ar out.new k=some ab→ax (aJ k)=some b→w.heap.size≤b∨∃k0,aG out.del k0=true∧(st.h k0).isSome∧ax (β k0)=some b)
  (vE:∀k k' b,(ar out.new k).isSome→(ar out.new k').isSome→ax (aJ k)=some b→ax (aJ k')=some b→k=k')
  (pZ:ae w' A' aJ v out.res):aE C A' aJ (st.put d out) (a.put d v) w':=by
 have dX:∀k b,(st.h k).isSome→ax (β k)=some b→b<w.heap.size:=by
  intro k b hk hb
  obtain⟨ab,eV⟩:=Option.isSome_iff_exists.1 hk
  have fm:=hB.blocks k ab eV
  cases ab with
  |arr row l=>
   obtain⟨b',arr,e,h1,h2,_⟩:=fm
   rw [h1] at hb
   simp only [ax,Option.some.injEq] at hb
   subst hb
   exact(Array.getElem?_eq_some_iff.1 h2).1
  |cells cs=>
   obtain⟨b',arr,e,h1,h2,_⟩:=fm
   rw [h1] at hb
   simp only [ax,Option.some.injEq] at hb
   subst hb
   exact(Array.getElem?_eq_some_iff.1 h2).1
  |row e row l fr=>
   obtain⟨xs,h1,_⟩:=fm
   rcases h1.2 with⟨hn,_⟩|⟨g,cap,cur,hv,_,hg,_⟩
   · rw [hn] at hb;simp [ax] at hb
   · rw [hv] at hb
     simp only [ax,Option.some.injEq] at hb
     subst hb
     exact(Array.getElem?_eq_some_iff.1 hg).1
  |fZ e j row l i=>
   obtain⟨xs,v0,h1,_⟩:=fm
   rcases h1.2 with⟨hn,_⟩|⟨g,cap,cur,hv,_,hg,_⟩
   · rw [hn] at hb;simp [ax] at hb
   · rw [hv] at hb
     simp only [ax,Option.some.injEq] at hb
     subst hb
     exact(Array.getElem?_eq_some_iff.1 hg).1
  |views e j n m sz=>
   obtain⟨xs,h1,_⟩:=fm
   rcases h1.2 with⟨hn,_⟩|⟨g,cap,cur,hv,_,hg,_⟩
   · rw [hn] at hb;simp [ax] at hb
   · rw [hv] at hb
     simp only [ax,Option.some.injEq] at hb
     subst hb
     exact(Array.getElem?_eq_some_iff.1 hg).1
 have SA:∀k AR,(st.put d out).h k=some AR→(∃ab,ar out.new k=some ab∧ab=AR)∨(ar out.new k=none∧aG out.del k=false∧
   ((∃ab,ar out.fH k=some ab∧AR=rZ out k ab)∨(ar out.fH k=none∧∃ab,st.h k=some ab∧AR=ct out.new ab))):=by
  intro k AR hk
  simp only [St.put,AQ] at hk
  cases hn:ar out.new k with
  |some ab=>simp only [hn,Option.some.injEq] at hk;exact .inl ⟨ab,rfl,hk⟩
  |none=>
   simp only [hn] at hk
   cases adP:aG out.del k with
   |true=>simp [adP] at hk
   |false=>
    simp only [adP,cond_false] at hk
    cases hu:ar out.fH k with
    |some ab=>simp only [hu,Option.some.injEq] at hk;exact .inr ⟨rfl,rfl, .inl ⟨ab,rfl,hk.symm⟩⟩
    |none=>
     simp only [hu] at hk
     cases hs:st.h k with
     |none=>simp [hs] at hk
     |some ab=>simp only [hs,Option.some.injEq] at hk;exact .inr ⟨rfl,rfl, .inr ⟨rfl,ab,rfl,hk.symm⟩⟩
 have eu:∀k,((st.put d out).h k).isSome→(ar out.new k).isSome∨(ar out.new k=none∧aG out.del k=false∧(st.h k).isSome):=by
  intro k hk
  obtain⟨AR,amU⟩:=Option.isSome_iff_exists.1 hk
  rcases SA k AR amU with⟨ab,h,_⟩|⟨h1,h2,⟨ab,h,_⟩|⟨_,ab,h,_⟩⟩
  · exact .inl (by simp [h])
  · exact .inr ⟨h1,h2,yl k ab h⟩
  · exact .inr ⟨h1,h2,by simp [h]⟩
 have adQ:∀v a,ae w A β v a→ae w' A' aJ v (kF out.new a):=fun v a h=>uQ out.new β aJ v a bT (gP hK a v h)
 refine⟨?_,?_,?_,?_,?_,hbound,?_,?_,?_,?_,hB.pA,fun i d hd=>(hB.laid i d hd).mono hK,fun k hk=>by
  rw [bT k (by
   cases hn:ar out.new k with
   |none=>rfl
   |some ab=>rw [(yk k ab hn).2] at hk;cases hk)]
  exact hB.held k hk⟩
 · cases d<;>exact hB.defers
 · cases d with
   |none=>exact hB.size
   |some t=>show(a.put (some t) v).tmps.size=st.n;simp [Act.put,hB.size]
 · intro i
   cases d with
   |none=>exact adQ _ _ (hB.tmps i)
   |some t=>
    have ht:=hd t rfl
    simp only [St.put,Act.put]
    by_cases hi:i=t
    · subst hi
      simp only [bD,cond_true]
      rw [Array.getD_eq_getD_getElem?,Array.getElem?_setIfInBounds_self_of_lt (by rw [hB.size];exact ht)]
      exact pZ
    · simp only [aP hi,cond_false]
      have :=adQ _ _ (hB.tmps i)
      rw [Array.getD_eq_getD_getElem?,Array.getElem?_setIfInBounds_ne (fun h=>hi h.symm),←Array.getD_eq_getD_getElem?]
      exact this
 · intro k AR hk
   rcases SA k AR hk with⟨ab,h,rfl⟩|⟨h1,h2,⟨ab,h,rfl⟩|⟨h3,ab,h,rfl⟩⟩
   · exact cR k _ h
   · exact wS k ab h h2
   · have vF:=hB.blocks k ab h
     refine r9 bT (bT k h1) (fun b hb=> ?_) hK vF
     have đ:∀k',jI st out k'→ax (β k')≠some b:=by
      intro k' ht bu
      have :k'=k:=hB.apart k' k b ht.1 (by simp [h]) bu hb
      subst this
      rcases ht.2 with hu|hu
      · simp [h3] at hu
      · simp [h2] at hu
     refine⟨vD b (dX k b (by simp [h]) hb) đ,fun AS=> ?_⟩
     rcases hA b AS with hh|hh|⟨k',ht,bu⟩
     · exact hh
     · exact absurd (dX k b (by simp [h]) hb) (by omega)
     · exact absurd bu (đ k' ht)
 · intro k k' b hk c6 hb bu
   rcases eu k hk with h1|⟨h1,h2,h3⟩<;>rcases eu k' c6 with g1|⟨g1,g2,g3⟩
   · exact vE k k' b h1 g1 hb bu
   · obtain⟨ab,eV⟩:=Option.isSome_iff_exists.1 h1
     rw [bT k' g1] at bu
     rcases sa k b ab eV hb with hh|⟨k0,SB,KY,AT⟩
     · exact absurd (dX k' b g3 bu) (by omega)
     · have :k0=k':=hB.apart k0 k' b KY g3 AT bu
       subst this;rw [SB] at g2;cases g2
   · obtain⟨ab,eV⟩:=Option.isSome_iff_exists.1 g1
     rw [bT k h1] at hb
     rcases sa k' b ab eV bu with hh|⟨k0,SB,KY,AT⟩
     · exact absurd (dX k b h3 hb) (by omega)
     · have :k0=k:=hB.apart k0 k b KY h3 AT hb
       subst this;rw [SB] at h2;cases h2
   · rw [bT k h1] at hb;rw [bT k' g1] at bu
     exact hB.apart k k' b h3 g3 hb bu
 · refine⟨hos.trans hB.frame.os,KX.trans hB.frame.tape,oR.trans hB.frame.output,Nat.le_trans hB.frame.size mI,fun b hb hM=> ?_⟩
   rw [vD b (Nat.lt_of_lt_of_le hb hB.frame.size) (fun k ht vF=> ?_)]
   · exact hB.frame.block b hb hM
   · rcases hB.mh k b ht.1 vF with h|h
     · omega
     · exact hM h
 · intro b hb AS
   rcases hA b AS with hh|hh|⟨k,ht,vF⟩
   · exact hB.old b hb hh
   · exact absurd hB.frame.size (by omega)
   · rcases hB.mh k b ht.1 vF with h|h
     · omega
     · exact .inr h
 · exact fun b hb=>(hK b (hB.base b hb)).1
 · intro k b hk hb
   rcases eu k hk with h1|⟨h1,h2,h3⟩
   · obtain⟨ab,eV⟩:=Option.isSome_iff_exists.1 h1
     rcases sa k b ab eV hb with hh|⟨k0,SB,KY,AT⟩
     · exact .inl (Nat.le_trans hB.frame.size hh)
     · exact hB.mh k0 b KY AT
   · rw [bT k h1] at hb
     exact hB.mh k b h3 hb
theorem aE.step {C:Ctx} {A A':Nat→Prop} {β aJ:Nat→Value} {st:St} {a:Act} {w w':World} {out:Out} {d:Option Nat} {v:Value}
  (hB:aE C A β st a w) (hd:∀t,d=some t→t<st.n)
  (yk:∀k b,ar out.new k=some b→st.h k=none∧mW k=false)
  (yl:∀k b,ar out.fH k=some b→(st.h k).isSome)
  (bT:∀k,ar out.new k=none→aJ k=β k)
  (hK:cy w w' A A')
  (hos:w'.os=w.os) (KX:w'.tape=w.tape) (oR:w'.output=w.output) (mI:w.heap.size≤w'.heap.size)
  (vD:∀b,b<w.heap.size→(∀k,jI st out k→ax (β k)≠some b)→w'.heap[b]? =w.heap[b]?)
  (hbound:∀b,A' b→b<w'.heap.size)
  (hA:∀b,A' b→A b∨w.heap.size≤b∨∃k,jI st out k∧ax (β k)=some b)
  (wS:∀k ab,ar out.fH k=some ab→aG out.del k=false→BR w' A' aJ k (ct out.new ab))
  (cR:∀k ab,ar out.new k=some ab→BR w' A' aJ k ab)
  (sa:∀k b ab,ar out.new k=some ab→ax (aJ k)=some b→w.heap.size≤b∨∃k0,aG out.del k0=true∧(st.h k0).isSome∧ax (β k0)=some b)
  (vE:∀k k' b,(ar out.new k).isSome→(ar out.new k').isSome→ax (aJ k)=some b→ax (aJ k')=some b→k=k')
  (pZ:ae w' A' aJ v out.res) (hr:out.raw= []:=by rfl):aE C A' aJ (st.put d out) (a.put d v) w':=
 hB.Sz hd yk yl bT hK hos KX oR mI vD hbound hA (fun k ab h1 h2=>by
  have :rZ out k ab=ct out.new ab:=by simp [rZ,hr,aG]
  rw [this];exact wS k ab h1 h2) cR sa vE pZ
end Go.Vg

end
section
namespace Go.Vg
open Go
def KZ(P:Program)(t:TypeId):TypeDesc→Prop
 | .struct fs=>P.stoodInHeld t=false∧P.eqGuardType P.depth t=false∧(fs.toList.all fun f=>f.name != "_")=true
 |_=>True
structure bw (T:b9) (P:Program):Prop where
 ok:∀t te,T.find t=some te→P.underlying t=some te.desc∧∃i,P.info? t=some i∧i.size=te.size∧i.bytes=te.bytes∧i.zero=some te.zero
 held:∀t te,T.find t=some te→KZ P t te.desc
section
variable {P:Program} {C:Ctx} {A:Nat→Prop} {β:Nat→Value} {st:St} {a:Act} {w:World}
theorem cL {o:Oper} {K:Act→World→Prop} {Q:Exit→Act→World→Prop} {v:Value} {w':World}(h:(execOp a.eval o).run P w= .ok (.value v) w')(hk:K (a.put o.dst v) w'):o.wp P a w K Q:=by
 unfold Oper.wp;rw [h];exact hk
theorem tY {o:Oper} {K:Act→World→Prop} {Q:Exit→Act→World→Prop} {w':World}(h:(execOp a.eval o).run P w= .ok .skip w')(hk:K (a.put o.dst undef) w'):o.wp P a w K Q:=by
 unfold Oper.wp;rw [h];exact hk
theorem zi(v:Value):ae w A β v (qz v):=by
 unfold qz
 split
 · split
   · rename_i h;simp only [ae];exact⟨trivial,h⟩
   · simp [ae]
 · split
   · rename_i h;simp [ae,h]
   · rename_i h;simp [ae,h]
 · rename_i s
   cases hb:Nat.ble s.data.toList.length 1000000 with
   |false=>simp [ae]
   |true=>
    have :=Nat.le_of_ble_eq_true hb
    simp only [cond_true,ae]
    refine⟨by simp,?_⟩
    unfold maxLen;omega
 · simp [ae]
 · simp [ae]
 · simp [ae]
 · simp [ae]
theorem zj(f:Value→AV)(hf:∀v,ae w A β v (f v)):∀(vs:List Value),ai w A β vs (vs.map f)
 | []=>by simp [ai]
 |v::vs=>by
  simp only [List.map_cons,ai]
  exact⟨v,vs,rfl,hf v,zj f hf vs⟩
theorem qD(v:Value):ae w A β v (ofConst v):=by
 unfold ofConst
 split
 · rename_i cs
   simp only [ae]
   exact⟨cs,rfl,zj qz zi cs.toList⟩
 · exact zi v
theorem aW(hB:aE C A β st a w)(x:Operand):ae w A β (a.eval x) (ev st x):=by
 cases x with
 |tmp i=>exact hB.tmps i
 |const v=>exact qD v
 |global g=>
  simp only [ev,Act.eval]
  cases hg:st.g g with
  |none=>simp [ae]
  |some d=>
   obtain⟨h1,cs,h2,h3⟩:=hB.laid g d (hB.pA g d hg)
   simp only [ae]
   exact⟨g,0,cs,rfl,h1,h2,h3⟩
 |func f=>
  simp only [ev,ae,Act.eval]
  exact⟨#[], #[],rfl,by simp [ai],by simp [ai]⟩
theorem cy.refl(w:World)(A:Nat→Prop):cy w w A A:=fun _ h=>⟨h,rfl⟩
theorem aE.pure(hB:aE C A β st a w) {d:Option Nat}(hd:∀t,d=some t→t<st.n) {c:List Prop} {r:AV} {v:Value}(h:ae w A β v r):
  aE C A β (st.put d {cond:=c,res:=r}) (a.put d v) w:=
 hB.step (out:= {cond:=c,res:=r}) hd (by simp [ar]) (by simp [ar]) (fun _ _=>rfl) (cy.refl w A) rfl rfl rfl (Nat.le_refl _) (fun _ _ _=>rfl) hB.bound
  (fun b h=> .inl h) (by simp [ar]) (by simp [ar]) (by simp [ar]) (by simp [ar]) h
theorem Rel.jB {A:Nat→Prop} {β:Nat→Value}(h:aE C A β st a w):Rel C st a w:=⟨A,β,h⟩
theorem qE(b:Bool) {v:Value}:∀(x y:AV),(if b then ae w A β v x else ae w A β v y)→ae w A β v (wJ b x y):=by
 intro x y h
 have hb:∀x y p q,oP x=some p→oP y=some q→(if b then ae w A β v x else ae w A β v y)→ae w A β v (.bool (bif b then p else q)):=by
  intro x y p q hx hy h
  cases b<;>cases x<;>simp_all [oP,ae]<;>cases y<;>simp_all [ae]
 unfold wJ
 split
 · split
   · cases b<;>simp_all [ae]
   · simp [ae]
 · cases b<;>simp_all [ae]
 · rename_i r l r' m
   cases hc:dR r' r m with
   |none=>simp [ae]
   |some m'=>
    simp only [dR] at hc
    split at hc
    · rename_i uD
      have :=Ty.iG _ _ uD
      subst this
      simp only [Option.some.injEq] at hc
      subst hc
      cases b<;>simp_all
    · cases hc
 · cases b with
   |true=>simpa using h
   |false=>
    simp only [ae,Bool.false_eq_true,if_false] at h
    simp only [ae,Rd,cond_false]
    exact⟨none,0,[],by simpa using h,by simp,by simp,by simp [bW],by simp⟩
 · cases b with
   |false=>simpa using h
   |true=>
    simp only [ae,if_true] at h
    simp only [ae,Rd,cond_true]
    exact⟨none,0,[],by simpa using h,by simp,by simp,by simp [bW],by simp⟩
 · cases b<;>simp_all
 · cases b<;>simp_all
 · rename_i k k'
   cases hk:Nat.beq k k' with
   |false=>simp [ae]
   |true=>
    have :=Nat.eq_of_beq_eq_true hk
    subst this
    cases b<;>simp_all
 · split
   next p q hx hy=>exact hb _ _ _ _ hx hy h
   next=>simp [ae]
theorem cH:∀(aH:List AV) (vs:List Value),ai w A β vs aH→vs.length=aH.length
 | [],vs,h=>by simp only [ai] at h;simp [h]
 |a::aH,vs,h=>by
  simp only [ai] at h
  obtain⟨v,bX,rfl,_,h2⟩:=h
  simp [cH aH bX h2]
theorem gb(b:Bool):∀(xs ys:List AV) (vs:List Value),xs.length=ys.length→(if b then ai w A β vs xs else ai w A β vs ys)→ai w A β vs (lu b xs ys)
 | [],[],vs,_,h=>by simpa [lu] using h
 |x::xs,y::ys,vs,hl,h=>by
  simp only [lu,ai]
  cases b with
  |true=>
   simp only [if_true,ai] at h
   obtain⟨v,bX,rfl,h1,h2⟩:=h
   exact⟨v,bX,rfl,qE true x y (by simpa using h1),gb true xs ys bX (by simpa using hl) (by simpa using h2)⟩
  |false=>
   simp only [Bool.false_eq_true,if_false,ai] at h
   obtain⟨v,bX,rfl,h1,h2⟩:=h
   exact⟨v,bX,rfl,qE false x y (by simpa using h1),gb false xs ys bX (by simpa using hl) (by simpa using h2)⟩
 | [],_::_,_,hl,_=>by simp at hl
 |_::_,[],_,hl,_=>by simp at hl
theorem uR(b:Bool) {v:Value}(x y:AV)(h:if b then ae w A β v x else ae w A β v y):ae w A β v (wK b x y):=by
 unfold wK
 split
 · rename_i xs ys
   cases hl:Nat.beq xs.length ys.length with
   |false=>simp [ae]
   |true=>
    have hl:=Nat.eq_of_beq_eq_true hl
    simp only [cond_true,ae]
    cases b with
    |true=>
     simp only [if_true,ae] at h
     obtain⟨arr,h1,h2⟩:=h
     exact⟨arr,h1,gb true xs ys _ hl (by simpa using h2)⟩
    |false=>
     simp only [Bool.false_eq_true,if_false,ae] at h
     obtain⟨arr,h1,h2⟩:=h
     exact⟨arr,h1,gb false xs ys _ hl (by simpa using h2)⟩
 · rename_i xs ys
   cases hl:Nat.beq xs.length ys.length with
   |false=>simp [ae]
   |true=>
    have hl:=Nat.eq_of_beq_eq_true hl
    simp only [cond_true,ae]
    cases b with
    |true=>
     simp only [if_true,ae] at h
     obtain⟨arr,h1,h2⟩:=h
     exact⟨arr,h1,gb true xs ys _ hl (by simpa using h2)⟩
    |false=>
     simp only [Bool.false_eq_true,if_false,ae] at h
     obtain⟨arr,h1,h2⟩:=h
     exact⟨arr,h1,gb false xs ys _ hl (by simpa using h2)⟩
 · exact qE b x y h
end
end Go.Vg

end
section
namespace Go.Vg
open Go
section
variable {P:Program} {C:Ctx} {A:Nat→Prop} {β:Nat→Value} {st:St} {a:Act} {w:World} {T:b9}
theorem fh:∀(ts:List Ty) (vs:List Value) (x:Row ts),bg w A ts vs x→vs.length=ts.length
 | [],vs,_,h=>by simp only [bg] at h;simp [h]
 |t::ts,vs,x,h=>by
  simp only [bg] at h
  obtain⟨v,bX,rfl,_,h2⟩:=h
  simp [fh ts bX _ h2]
theorem dP {row:List Ty}:∀(l:List (Row row)) (cs:List Value),bW (bg w A row) cs l→cs.length=l.length*row.length
 | [],cs,h=>by simp only [bW] at h;simp [h]
 |x::l,cs,⟨c1,c2,hc,h1,h2⟩=>by
  subst hc
  simp [fh row c1 x h1,dP l c2 h2,Nat.add_mul,Nat.add_comm]
theorem nK {row:List Ty}:∀(l:List (Row row)) (cs:List Value) (i:Nat) (hi:i<l.length),bW (bg w A row) cs l→
  ∃c1 c c2,cs=c1++(c++c2)∧c1.length=i*row.length∧bg w A row c l[i]∧bW (bg w A row) c1 (l.take i)∧bW (bg w A row) c2 (l.drop (i+1))
 | [],_,_,hi,_=>by simp at hi
 |x::l,cs,0,_,⟨c1,c2,hc,h1,h2⟩=>⟨[],c1,c2,by simp [hc],by simp,by simpa using h1,by simp [bW],by simpa using h2⟩
 |x::l,cs,i+1,hi,⟨c1,c2,hc,h1,h2⟩=>by
  obtain⟨d1,d,d2,e1,e2,e3,e4,e5⟩:=nK l c2 i (by simpa using hi) h2
  subst hc;subst e1
  exact⟨c1++d1,d,d2,by simp,by simp [e2,fh row c1 x h1,Nat.add_mul,Nat.add_comm],by simpa using e3,⟨c1,d1,rfl,h1,e4⟩,by simpa using e5⟩
theorem fP {α:Type} {R:List Value→α→Prop}:∀(l m:List α) (cs ds:List Value),bW R cs l→bW R ds m→bW R (cs++ds) (l++m)
 | [],m,cs,ds,h,h'=>by simp only [bW] at h;subst h;simpa using h'
 |x::l,m,cs,ds,⟨c1,c2,hc,h1,h2⟩,h'=>by
  subst hc
  exact⟨c1,c2++ds,by simp,h1,fP l m c2 ds h2 h'⟩
theorem dq {row:List Ty}:∀(l:List (Row row)) (cs:List Value) (i:Nat),bW (bg w A row) cs l→
  bW (bg w A row) (cs.take (i*row.length)) (l.take i)∧bW (bg w A row) (cs.drop (i*row.length)) (l.drop i)
 | [],cs,i,h=>by simp only [bW] at h;subst h;simp [bW]
 |x::l,cs,0,h=>by simp [bW];exact h
 |x::l,cs,i+1,⟨c1,c2,hc,h1,h2⟩=>by
  subst hc
  have hl:=fh row c1 x h1
  have ih:=dq l c2 i h2
  have e:(i+1)*row.length=c1.length+i*row.length:=by rw [hl,Nat.add_mul];omega
  rw [e]
  refine⟨⟨c1,c2.take (i*row.length),?_,h1,ih.1⟩,?_⟩
  · rw [List.take_length_add_append]
  · rw [List.drop_length_add_append];simpa using ih.2
theorem qF {b o:Nat} {c1 c c2:List Value}(h:w.rangeAt b o (c1++(c++c2))):w.rangeAt b (o+c1.length) c:=by
 intro j v hj
 have :=h (c1.length+j) v (by
  rw [List.getElem?_append_right (by omega)]
  have :j<c.length:=by
   rcases Nat.lt_or_ge j c.length with h|h
   · exact h
   · rw [List.getElem?_eq_none h] at hj;cases hj
  rw [show c1.length+j-c1.length=j by omega,List.getElem?_append_left this];exact hj)
 rw [←Nat.add_assoc] at this;exact this
theorem lS {b o n:Nat} {cs:List Value}(h:w.rangeAt b o cs):w.rangeAt b (o+n) (cs.drop n):=by
 intro j v hj
 have :=h (n+j) v (by simpa using hj)
 rw [←Nat.add_assoc] at this;exact this
theorem gd {b o n:Nat} {cs:List Value}(h:w.rangeAt b o cs):w.rangeAt b o (cs.take n):=by
 intro j v hj
 refine h j v ?_
 rw [List.getElem?_take] at hj
 split at hj
 · exact hj
 · cases hj
theorem II:∀(t:Ty) (v:Value) (x:D t),Rd w A t v x→ae w A β v (wD t x)
 | .int k,v,x,h=>by simpa only [wD,ae,Rd] using h
 | .bool,v,x,h=>by simpa only [wD,ae,Rd] using h
 | .str,v,x,h=>by simpa only [wD,ae,Rd] using h
 | .slice row,v,x,h=>by simpa only [wD,ae] using h
theorem iI:∀(ts:List Ty) (vs:List Value) (x:Row ts),bg w A ts vs x→ai w A β vs (eG ts x)
 | [],vs,_,h=>by simpa only [eG,ai,bg] using h
 |t::ts,vs,x,h=>by
  simp only [bg] at h
  obtain⟨v,bX,rfl,h1,h2⟩:=h
  simp only [eG,ai]
  exact⟨v,bX,rfl,II t v _ h1,iI ts bX _ h2⟩
theorem kG:∀(ts:List Ty) (x:Row ts),(eG ts x).length=ts.length
 | [],_=>rfl
 |t::ts,x=>by simp [eG,kG ts]
theorem fi:∀(aH:List AV) (vs:List Value) (n:Nat),ai w A β vs aH→ai w A β (vs.take n) (aH.take n)∧ai w A β (vs.drop n) (aH.drop n)
 | [],vs,n,h=>by simp only [ai] at h;subst h;simp [ai]
 |a::aH,vs,0,h=>by simp [ai] at h ⊢;exact h
 |a::aH,vs,n+1,h=>by
  simp only [ai] at h
  obtain⟨v,bX,rfl,h1,h2⟩:=h
  have ih:=fi aH bX n h2
  simp only [List.take_succ_cons,List.drop_succ_cons,ai]
  exact⟨⟨v,_,rfl,h1,ih.1⟩,ih.2⟩
theorem oS:∀(aH:List AV) (vs:List Value) (i:Nat) (r:AV),ai w A β vs aH→aH[i]? =some r→∃v,vs[i]? =some v∧ae w A β v r
 | [],vs,i,r,h,hr=>by simp at hr
 |a::aH,vs,0,r,h,hr=>by
  simp only [ai] at h
  obtain⟨v,bX,rfl,h1,h2⟩:=h
  simp at hr;subst hr
  exact⟨v,by simp,h1⟩
 |a::aH,vs,i+1,r,h,hr=>by
  simp only [ai] at h
  obtain⟨v,bX,rfl,h1,h2⟩:=h
  obtain⟨u,hu,lf⟩:=oS aH bX i r h2 (by simpa using hr)
  exact⟨u,by simpa using hu,lf⟩
theorem Eb(d:TypeDesc):d.ja=d.isRow:=by cases d<;>rfl
theorem j3(hT:bw T P) {t:TypeId} {te:TE}(ht:T.find t=some te) {cs:List Value} {aH:List AV}(hrel:ai w A β cs aH) {off:Nat} {r:AV}(hp:pick te aH off=some r)
  {b o:Nat} (hr:w.rangeAt b o cs):∃v,(Instr.loadAt t (.pointer (some ⟨b,o+off,none⟩))).run P w= .ok v w∧ae w A β v r:=by
 obtain⟨hu,i,hi,hs,_,_⟩:=hT.ok t te ht
 unfold pick at hp
 cases EF:te.desc.ja with
 |true=>
  simp only [EF,cond_true] at hp
  cases hle:Nat.ble (off+te.size) aH.length with
  |false=>simp [hle] at hp
  |true=>
   have hle:=Nat.le_of_ble_eq_true hle
   simp only [hle,Nat.ble_eq_true_of_le,cond_true,Option.some.injEq] at hp
   subst hp
   have hlen:=cH aH cs hrel
   refine⟨.agg ((cs.drop off).take te.size).toArray,?_,?_⟩
   · refine run_loadAt_mid w b (o+off) t ((cs.drop off).take te.size) te.desc (gd (lS hr)) hu (by rw [←Eb];exact EF) ?_
     rw [hi]
     simp only [Option.map_some,List.length_take,List.length_drop,hs,Option.some.injEq]
     omega
   · simp only [ae]
     exact⟨_,rfl,by simpa using(fi _ _ te.size ((fi aH cs off hrel).2)).1⟩
 |false=>
  simp only [EF,cond_false] at hp
  obtain⟨v,hv,hrv⟩:=oS aH cs off r hrel hp
  refine⟨v,?_,hrv⟩
  have hc:=hr off v hv
  have SC:(isAgg t).run P w= .ok false w:=by
   unfold isAgg
   rw [Sem.run_bind,run_underlying hu w]
   cases hd:te.desc<;>simp_all [TypeDesc.ja]
  simp [Instr.loadAt,Instr.sureAddr,loadVar,SC,hc]
theorem dH(hT:bw T P) {t:TypeId} {n:Nat}(h:bk T t n=true):∃e i,P.underlying t=some (.slice e)∧P.info? e=some i∧i.size=n∧0<n:=by
 unfold bk oN at h
 cases ht:T.find t with
 |none=>simp [ht] at h
 |some te=>
  simp only [ht] at h
  cases hd:te.desc with
  |slice e=>
   simp only [hd] at h
   cases he:T.find e with
   |none=>simp [he] at h
   |some ee=>
    simp only [he,Bool.and_eq_true] at h
    obtain⟨_,i,hi,hs,_⟩:=hT.ok e ee he
    exact⟨e,i,by rw [(hT.ok t te ht).1,hd],hi,hs.trans (Nat.eq_of_beq_eq_true h.1),by have :=Nat.le_of_ble_eq_true h.2;omega⟩
  |_=>simp [hd] at h
theorem gV {t:TypeId} {e:TypeId} {i:TypeInfo}(hu:P.underlying t=some (.slice e))(hi:P.info? e=some i)(b o len cap:Nat)(k:IntKind)(n:Int)(h0:0≤n)(h1:n<(len:Int)):
  (Instr.indexAt t (.slice (some ⟨b,o,none⟩) len cap) (.int k n)).run P w= .ok (.pointer (some ⟨b,o+n.toNat*i.size,none⟩)) w:=by
 simp [Instr.indexAt,asIntOf,run_underlying hu,sizeOf,typeInfo,hi,h0,h1,Addr.add_mid]
theorem EG(hT:bw T P) {t:TypeId} {n sz:Nat}(h:AM T t=some (n,sz)):∃e i,P.underlying t=some (.array n e)∧P.info? e=some i∧i.size=sz:=by
 unfold AM at h
 split at h
 · rename_i te lv
   obtain⟨hu,_⟩:=hT.ok t te lv
   split at h
   · rename_i k e hd
     split at h
     · rename_i ee pE
       obtain⟨_,i,hi,hs,_⟩:=hT.ok e ee pE
       cases hb:Nat.blt 0 ee.size with
       |false=>rw [hb] at h;cases h
       |true=>
        rw [hb] at h
        simp only [cond_true,Option.some.injEq,Prod.mk.injEq] at h
        obtain⟨rfl,rfl⟩:=h
        exact⟨e,i,by rw [hu,hd],hi,hs⟩
     · cases h
   · cases h
 · cases h
theorem uS {t:TypeId} {e:TypeId} {i:TypeInfo} {len:Nat}(hu:P.underlying t=some (.array len e))(hi:P.info? e=some i)(b o:Nat)(k:IntKind)(n:Int)(h0:0≤n)(h1:n<(len:Int)):
  (Instr.indexAt t (.pointer (some ⟨b,o,none⟩)) (.int k n)).run P w= .ok (.pointer (some ⟨b,o+n.toNat*i.size,none⟩)) w:=by
 simp [Instr.indexAt,Instr.sureAddr,asIntOf,run_underlying hu,sizeOf,typeInfo,hi,h0,h1,Addr.add_mid]
theorem sb:∀(xs ys:List AV) (us vs:List Value),ai w A β us xs→ai w A β vs ys→ai w A β (us++vs) (xs++ys)
 | [],ys,us,vs,h,g=>by
   simp only [ai] at h;subst h;simpa using g
 |a::aH,ys,us,vs,h,g=>by
  simp only [ai] at h
  obtain⟨v,vG,rfl,h1,h2⟩:=h
  simp only [List.cons_append,ai]
  exact⟨v,vG++vs,rfl,h1,sb aH ys vG vs h2 g⟩
theorem EH(row:List Ty):∀(l:List (Row row)) (cs:List Value),bW (bg w A row) cs l→ai w A β cs (l.flatMap (eG row))
 | [],cs,h=>by simp only [bW] at h;subst h;simp [ai]
 |x::l,cs,⟨c1,c2,hc,h1,h2⟩=>by
  subst hc
  rw [List.flatMap_cons]
  exact sb _ _ _ _ (iI row c1 x h1) (EH row l c2 h2)
theorem getD_eq {α:Type}(l:List α)(i:Nat)(d:α)(h:i<l.length):l.getD i d=l[i]:=by
 simp [List.getD,List.getElem?_eq_getElem h]
theorem EI(row:List Ty)(l:List (Row row))(v:Value)(n:Int)(hR:Rd w A (.slice row) v l)(h0:0≤n)(h1:n<(l.length:Int)):
  row≠ []→∃b o cap,v= .slice (some ⟨b,o,none⟩) l.length cap∧ae w A β (.pointer (some ⟨b,o+n.toNat*row.length,none⟩)) (.fu row (l.getD n.toNat (Row.zero row)) 0):=by
 intro jx
 simp only [Rd] at hR
 obtain⟨a,cap,cs,hv,_,_,hL,cQ⟩:=hR
 have hn:n.toNat<l.length:=by omega
 obtain⟨c1,c,c2,e1,e2,e3,_,_⟩:=nK l cs n.toNat hn hL
 have hc:=fh row c _ e3
 have dp:cs≠ []:=by
  intro h
  rw [h] at e1
  have :=congrArg List.length e1
  simp at this
  exact jx (List.eq_nil_of_length_eq_zero (by omega))
 obtain⟨b,o,ha,hA,Đ⟩:=cQ dp
 refine⟨b,o,cap,by rw [hv,ha],?_⟩
 simp only [ae]
 refine⟨b,o+n.toNat*row.length,c,by simp,hA,?_,?_⟩
 · rw [e1] at Đ
   have :=qF Đ
   rwa [e2] at this
 · rw [getD_eq l _ _ hn];exact e3
theorem oT(T:b9)(h:aQ)(t:TypeId)(n:Option Int)(x y:AV):nJ T h t n x y=dD T h t x y:=by
 unfold nJ
 split
 · rename_i n k off kd i
   split
   · rename_i m sz hm
     split
     · rename_i hn
       subst hn
       simp only [dD,hm,EE]
     · rfl
   · rename_i hm
     simp only [dD,hm]
 · rfl
theorem di {x:Prop} {l:List Prop}(h:∀p∈(x::l),p):x:=h _ (List.Mem.head _)
theorem adR {x y:Prop} {l:List Prop}(h:∀p∈(x::y::l),p):y:=h _ (List.Mem.tail _ (List.Mem.head _))
def Out.quiet(out:Out):Prop :=out.fH= []∧out.del= []∧out.new= []
theorem aE.quiet(hB:aE C A β st a w) {d:Option Nat}(hd:∀t,d=some t→t<st.n) {out:Out}(hq:out.quiet) {v:Value}(h:ae w A β v out.res):
  aE C A β (st.put d out) (a.put d v) w:=by
 obtain⟨c,r,u,dl,nw,rw'⟩:=out
 obtain⟨h1,h2,h3⟩:=hq
 simp only at h1 h2 h3
 subst h1 h2 h3
 exact hB.pure (c:=c) hd h
def Reads(P:Program)(A:Nat→Prop)(β:Nat→Value)(w:World)(s:Sem Value)(out:Out):Prop :=out.quiet∧∃v,s.run P w= .ok v w∧ae w A β v out.res
theorem dI(hB:aE C A β st a w) {k e:Nat} {row:List Ty} {l:List (Row row)} {fr:Bool}(h:st.h k=some (.row e row l fr)):
  (β k= .slice none 0 0∧l= [])∨∃b cap cur,β k= .slice (some ⟨b,0,none⟩) l.length cap∧w.heap[b]? =some (.cells cur e (0,0))∧l.length≤cap∧cap≤maxLen∧cur.size=cap*row.length∧
    bW (bg w A row) (cur.toList.take (l.length*row.length)) l∧(if fr then A b else ¬A b):=by
 obtain⟨xs,h1,h2,h3⟩:=hB.blocks k _ h
 rcases h1.2 with⟨hv,hn⟩|⟨g,cap,cur,hv,_,hg,h4,h5,h6,h7⟩
 · exact .inl ⟨hv,List.eq_nil_of_length_eq_zero hn⟩
 · exact .inr ⟨g,cap,cur,hv,hg,h4,h5,h6,by rw [h7];exact h2,h3 g (by rw [hv];rfl)⟩
theorem ym(hT:bw T P)(hB:aE C A β st a w) {t:TypeId} {x i:AV} {vx vi:Value}(hx:ae w A β vx x)(hi:ae w A β vi i) {out:Out}
  (h:dD T st.h t x i=some out) (hc:∀p∈out.cond,p):Reads P A β w (Instr.indexAt t vx vi) out:=by
 unfold dD at h
 split at h
 · rename_i row l k n
   cases hs:bk T t row.length with
   |false=>simp [hs] at h
   |true=>
    simp only [hs,cond_true,Option.some.injEq] at h
    subst h
    obtain⟨h0,h1⟩:=di hc
    obtain⟨e,ii,hu,gk,cz,gy⟩:=dH hT hs
    simp only [ae] at hx hi
    obtain⟨b,o,cap,hv,hr⟩:=EI (β:=β) row l vx n hx h0 h1 (by intro hh;rw [hh] at gy;simp at gy)
    refine⟨⟨rfl,rfl,rfl⟩,_,?_,hr⟩
    rw [hv,hi.1,gV hu gk b o l.length cap k n h0 h1,cz]
 · rename_i row l k n
   cases hs:bk T t row.length with
   |false=>simp [hs] at h
   |true=>
    simp only [hs,cond_true,Option.some.injEq] at h
    subst h
    obtain⟨h0,h1⟩:=di hc
    obtain⟨e,ii,hu,gk,cz,gy⟩:=dH hT hs
    simp only [ae] at hx hi
    obtain⟨b,o,cap,hv,hr⟩:=EI (β:=β) row l vx n hx.1 h0 h1 (by intro hh;rw [hh] at gy;simp at gy)
    refine⟨⟨rfl,rfl,rfl⟩,_,?_,hr⟩
    rw [hv,hi.1,gV hu gk b o l.length cap k n h0 h1,cz]
 · rename_i k kk n
   split at h
   · rename_i e' row l fr hk
     cases hs:bk T t row.length with
     |false=>simp [hs] at h
     |true=>
      simp only [hs,cond_true,Option.some.injEq] at h
      subst h
      obtain⟨h0,h1⟩:=di hc
      obtain⟨e,ii,hu,gk,cz,gy⟩:=dH hT hs
      simp only [ae] at hx hi
      rcases dI hB hk with⟨_,hl⟩|⟨b,cap,cur,hv,_⟩
      · subst hl;simp at h1;omega
      · refine⟨⟨rfl,rfl,rfl⟩, .pointer (some ⟨b,0+n.toNat*row.length,none⟩),?_,?_⟩
        · rw [hx.1,hv,hi.1,gV hu gk b 0 l.length cap kk n h0 h1,cz]
        · simp only [ae];exact⟨b,_,cap,hv,by simp⟩
   · cases h
 · rename_i k m kk n
   split at h
   · rename_i e' row l fr hk
     cases hs:bk T t row.length with
     |false=>simp [hs] at h
     |true=>
      simp only [hs,cond_true,Option.some.injEq] at h
      subst h
      obtain⟨h0,h1⟩:=di hc
      obtain⟨e,ii,hu,gk,cz,gy⟩:=dH hT hs
      simp only [ae] at hx hi
      rcases hx with⟨_,_,hl⟩|⟨b,mm,cap,hv,vH,_⟩
      · subst hl;omega
      · refine⟨⟨rfl,rfl,rfl⟩, .pointer (some ⟨b,0+n.toNat*row.length,none⟩),?_,?_⟩
        · rw [vH,hi.1,gV hu gk b 0 m cap kk n h0 h1,cz]
        · simp only [ae];exact⟨b,_,cap,hv,by simp⟩
   · cases h
 · rename_i k sz off m kk n
   cases hs:bk T t sz with
   |false=>simp [hs] at h
   |true=>
    simp only [hs,cond_true,Option.some.injEq] at h
    subst h
    obtain⟨h0,h1⟩:=di hc
    obtain⟨e,ii,hu,gk,cz,gy⟩:=dH hT hs
    simp only [ae] at hx hi
    rcases hx with⟨hm,_⟩|⟨b,mm,cap,gx,hv,vH,_⟩
    · subst hm;omega
    · refine⟨⟨rfl,rfl,rfl⟩, .pointer (some ⟨b,off*sz+n.toNat*sz,none⟩),?_,?_⟩
      · rw [vH,hi.1,gV hu gk b (off*sz) m gx kk n h0 h1,cz]
      · simp only [ae];exact⟨b,_,cap,hv,by simp [Nat.add_mul]⟩
 · rename_i row l k n
   split at h
   · rename_i m sz ha
     cases hb:Nat.beq sz row.length with
     |false=>rw [hb] at h;cases h
     |true=>
      rw [hb] at h
      simp only [cond_true,Option.some.injEq] at h
      subst h
      have hm:=di hc
      have hz:=Nat.eq_of_beq_eq_true hb
      obtain⟨h0,h1⟩:=adR hc
      obtain⟨e,ii,hu,gk,cz⟩:=EG hT ha
      simp only [ae] at hx hi
      obtain⟨b,o,cs,rfl,hA,hr,hL⟩:=hx
      have hn:n.toNat<l.length:=by omega
      obtain⟨c1,c,c2,e1,e2,e3,_,_⟩:=nK l cs n.toNat hn hL
      refine⟨⟨rfl,rfl,rfl⟩, .pointer (some ⟨b,o+n.toNat*row.length,none⟩),?_,?_⟩
      · rw [hi.1,uS hu gk b o k n h0 (by rw [hm];exact h1),cz,hz]
      · simp only [ae]
        refine⟨b,o+n.toNat*row.length,c,by simp,hA,?_,?_⟩
        · rw [e1] at hr
          have :=qF hr
          rwa [e2] at this
        · rw [getD_eq l _ _ hn];exact e3
   · cases h
 · rename_i k off kk n
   split at h
   · rename_i m sz ha
     simp only [Option.some.injEq] at h
     subst h
     obtain⟨h0,h1⟩:=di hc
     obtain⟨e,ii,hu,gk,cz⟩:=EG hT ha
     simp only [ae] at hx hi
     obtain⟨b,bT,rfl⟩:=hx
     refine⟨⟨rfl,rfl,rfl⟩, .pointer (some ⟨b,off+n.toNat*sz,none⟩),?_,?_⟩
     · rw [hi.1,uS hu gk b off kk n h0 h1,cz]
     · simp only [ae]
       exact⟨b,bT,rfl⟩
   · cases h
 · cases h
theorem zk(hT:bw T P)(hB:aE C A β st a w) {t:TypeId} {x:AV} {vx:Value}(hx:ae w A β vx x) {out:Out}
  (h:mf T st.h t x=some out) (hc:∀p∈out.cond,p):Reads P A β w (Instr.loadAt t vx) out:=by
 unfold mf at h
 split at h
 · rename_i row x j
   split at h
   · rename_i te ht
     split at h
     · rename_i r hp
       simp only [Option.some.injEq] at h;subst h
       simp only [ae] at hx
       obtain⟨b,o,cs,rfl,hA,hr,hv⟩:=hx
       obtain⟨v,h1,h2⟩:=j3 (β:=β) hT ht (iI row cs x hv) hp hr
       exact⟨⟨rfl,rfl,rfl⟩,v,h1,h2⟩
     · cases h
   · cases h
 · rename_i row l
   split at h
   · rename_i te ht
     split at h
     · rename_i r hp
       simp only [Option.some.injEq] at h;subst h
       simp only [ae] at hx
       obtain⟨b,o,cs,rfl,hA,hr,hv⟩:=hx
       obtain⟨v,h1,h2⟩:=j3 (β:=β) hT ht (EH row l cs hv) hp hr
       exact⟨⟨rfl,rfl,rfl⟩,v,by simpa using h1,h2⟩
     · cases h
   · cases h
 · rename_i k off
   split at h
   · rename_i te cs ht hk
     split at h
     · rename_i r hp
       simp only [Option.some.injEq] at h;subst h
       simp only [ae] at hx
       obtain⟨b,bT,rfl⟩:=hx
       obtain⟨b',arr,e,h1,h2,_,h4,_⟩:=hB.blocks k _ hk
       rw [bT] at h1
       simp only [Value.pointer.injEq,Option.some.injEq,Addr.mk.injEq,and_true] at h1
       subst h1
       have hr:w.rangeAt b 0 arr.toList:=fun j v hj=>by
        simp [World.cell?,h2];simpa using hj
       obtain⟨v,g1,g2⟩:=j3 (β:=β) hT ht h4 hp hr
       exact⟨⟨rfl,rfl,rfl⟩,v,by simpa using g1,g2⟩
     · cases h
   · cases h
 · rename_i k sz i j
   split at h
   · rename_i te e row l fr ht hk
     cases cz:Nat.beq sz row.length with
     |false=>simp [cz] at h
     |true=>
      have cz:=Nat.eq_of_beq_eq_true cz
      subst cz
      simp only [bD,cond_true] at h
      split at h
      · rename_i r hp
        simp only [Option.some.injEq] at h;subst h
        have hi:i<l.length:=di hc
        simp only [ae] at hx
        obtain⟨b,m,cap,bT,rfl⟩:=hx
        rcases dI hB hk with⟨_,hl⟩|⟨b',gx,cur,hv,hg,_,_,cQ,hL,_⟩
        · subst hl;simp at hi
        · rw [bT] at hv
          simp only [Value.slice.injEq,Option.some.injEq,Addr.mk.injEq,and_true] at hv
          obtain⟨hbb,_,_⟩:=hv
          subst hbb
          obtain⟨c1,c,c2,e1,e2,e3,_,_⟩:=nK l _ i hi hL
          have hr:w.rangeAt b 0 (cur.toList.take (l.length*row.length)):=fun j v hj=>by
           rw [List.getElem?_take] at hj
           split at hj
           · simp [World.cell?,hg];simpa using hj
           · cases hj
          rw [e1] at hr
          have hr:=qF hr
          rw [e2] at hr
          rw [getD_eq l _ _ hi] at hp
          obtain⟨v,g1,g2⟩:=j3 (β:=β) hT ht (iI row c _ e3) hp hr
          exact⟨⟨rfl,rfl,rfl⟩,v,by simpa using g1,g2⟩
      · cases h
   · cases h
 · cases h
end
end Go.Vg

end
section
namespace Go.Vg
open Go
section
variable {P:Program} {C:Ctx} {A:Nat→Prop} {β:Nat→Value} {st:St} {a:Act} {w:World} {T:b9}
theorem zl(hT:bw T P) {s:TypeId} {f:Nat} {ft o:Nat}(h:wF T s f=some (ft,o)):∃fs fd,P.underlying s=some (.struct fs)∧fs[f]? =some fd∧fd.type=ft∧fd.offset=o:=by
 unfold wF at h
 cases ht:T.find s with
 |none=>simp [ht] at h
 |some te=>
  simp only [ht] at h
  cases hd:te.desc with
  |struct fs=>
   simp only [hd] at h
   cases hf:fs[f]? with
   |none=>simp [hf] at h
   |some fd=>
    simp only [hf,Option.some.injEq,Prod.mk.injEq] at h
    exact⟨fs,fd,by rw [(hT.ok s te ht).1,hd],hf,h.1,h.2⟩
  |_=>simp [hd] at h
theorem IJ(hT:bw T P) {t:TypeId}(h:wG T t=true):∃i,P.info? t=some i∧i.size≠0:=by
 unfold wG at h
 cases ht:T.find t with
 |none=>simp [ht] at h
 |some te=>
  simp only [ht] at h
  obtain⟨_,i,hi,hs,_⟩:=hT.ok t te ht
  have :=Nat.le_of_ble_eq_true h
  exact⟨i,hi,by omega⟩
theorem qG {s f:Nat} {fs:Array Field} {fd:Field} {i:TypeInfo}(hu:P.underlying s=some (.struct fs))(hf:fs[f]? =some fd)(hi:P.info? fd.type=some i)(hs:i.size≠0)(b o:Nat):
  (Instr.fieldAt s (.pointer (some ⟨b,o,none⟩)) f).run P w= .ok (.pointer (some ⟨b,o+fd.offset,none⟩)) w:=by
 simp [Instr.fieldAt,run_underlying hu,hf,Instr.sureAddr,fieldPlace,sizeOf,typeInfo,hi,hs,Addr.add_mid]
theorem yn(hT:bw T P) {s f:Nat} {x:AV} {vx:Value}(hx:ae w A β vx x) {out:Out}
  (h:py T s f x=some out):Reads P A β w (Instr.fieldAt s vx f) out:=by
 unfold py at h
 split at h
 · rename_i ft o hf
   obtain⟨fs,fd,hu,SD,e1,e2⟩:=zl hT hf
   cases hs:wG T ft with
   |false=>simp [hs] at h
   |true=>
    simp only [hs,cond_true] at h
    obtain⟨i,hi,dp⟩:=IJ hT hs
    rw [←e1] at hi
    split at h
    · simp only [Option.some.injEq] at h;subst h
      simp only [ae] at hx
      obtain⟨b,h1,rfl⟩:=hx
      refine⟨⟨rfl,rfl,rfl⟩,_,qG hu SD hi dp b _,?_⟩
      simp only [ae];exact⟨b,h1,by rw [e2]⟩
    · simp only [Option.some.injEq] at h;subst h
      simp only [ae] at hx
      obtain⟨b,oo,cs,rfl,h2,h3,h4⟩:=hx
      refine⟨⟨rfl,rfl,rfl⟩,_,qG hu SD hi dp b _,?_⟩
      simp only [ae];exact⟨b,oo,cs,by rw [e2,Nat.add_assoc],h2,h3,h4⟩
    · simp only [Option.some.injEq] at h;subst h
      simp only [ae] at hx
      obtain⟨b,m,cap,h1,rfl⟩:=hx
      refine⟨⟨rfl,rfl,rfl⟩,_,qG hu SD hi dp b _,?_⟩
      simp only [ae];exact⟨b,m,cap,h1,by rw [e2,Nat.add_assoc]⟩
    · cases h
 · cases h
theorem p0 {t:TypeId} {te:TE}(hT:bw T P)(ht:T.find t=some te) {arr:Array Value} {cs:List AV} {off:Nat} {r:AV}(hrel:ai w A β arr.toList cs)(hp:pick te cs off=some r):
  ∃v,(part t arr off).run P w= .ok v w∧ae w A β v r:=by
 obtain⟨hu,i,hi,hs,_,_⟩:=hT.ok t te ht
 unfold pick at hp
 cases EF:te.desc.ja with
 |true=>
  simp only [EF,cond_true] at hp
  cases hle:Nat.ble (off+te.size) cs.length with
  |false=>simp [hle] at hp
  |true=>
   have hle:=Nat.le_of_ble_eq_true hle
   simp only [hle,Nat.ble_eq_true_of_le,cond_true,Option.some.injEq] at hp
   subst hp
   have hlen:=cH cs _ hrel
   have SC:(isAgg t).run P w= .ok true w:=by
    unfold isAgg
    rw [Sem.run_bind,run_underlying hu w]
    cases hd:te.desc<;>simp_all [TypeDesc.ja]
   refine⟨.agg (arr.extract off (off+te.size)),?_,?_⟩
   · simp [part,SC,sizeOf,typeInfo,hi,hs]
   · simp only [ae]
     refine⟨_,rfl,?_⟩
     have :=(fi _ _ te.size ((fi cs _ off hrel).2)).1
     rw [Array.toList_extract]
     simpa [List.extract] using this
 |false=>
  simp only [EF,cond_false] at hp
  obtain⟨v,hv,hrv⟩:=oS cs _ off r hrel hp
  have SC:(isAgg t).run P w= .ok false w:=by
   unfold isAgg
   rw [Sem.run_bind,run_underlying hu w]
   cases hd:te.desc<;>simp_all [TypeDesc.ja]
  refine⟨v,?_,hrv⟩
  have :arr[off]? =some v:=by simpa using hv
  simp [part,SC,this]
theorem K1(hB:aE C A β st a w) {x:AV} {vx:Value}(hx:ae w A β vx x) {n:Int}(h:yh st.h x=some n):
  (∃ad l c,vx= .slice ad l c∧n=(l:Int)∧l≤maxLen)∨(∃s,x= .str s∧n=(s.length:Int)):=by
 unfold yh at h
 split at h
 · rename_i s
   simp only [Option.some.injEq] at h
   exact .inr ⟨s,rfl,h.symm⟩
 · simp only [Option.some.injEq] at h
   simp only [ae,Rd] at hx
   obtain⟨ad,cap,cs,h1,h2,h3,_⟩:=hx
   exact .inl ⟨ad,_,cap,h1,h.symm,by omega⟩
 · simp only [Option.some.injEq] at h
   simp only [ae,Rd] at hx
   obtain⟨⟨ad,cap,cs,h1,h2,h3,_⟩,_⟩:=hx
   exact .inl ⟨ad,_,cap,h1,h.symm,by omega⟩
 · simp only [Option.some.injEq] at h
   simp only [ae] at hx
   exact .inl ⟨none,0,0,hx,by simpa using h.symm,by simp⟩
 · rename_i k
   split at h
   · rename_i e row l fr hk
     simp only [Option.some.injEq] at h
     simp only [ae] at hx
     rcases dI hB hk with⟨hv,hl⟩|⟨b,cap,cur,hv,hg,h4,h5,_⟩
     · subst hl
       exact .inl ⟨none,0,0,hx.1.trans hv,by simpa using h.symm,by simp⟩
     · exact .inl ⟨_,_,_,hx.1.trans hv,h.symm,by omega⟩
   · cases h
 · rename_i k m
   split at h
   · rename_i e row l fr hk
     simp only [Option.some.injEq] at h
     simp only [ae] at hx
     rcases hx with⟨_,hv,hm⟩|⟨b,mm,cap,hv,vH,hle⟩
     · subst hm
       exact .inl ⟨none,0,0,hv,by simpa using h.symm,by simp⟩
     · rcases dI hB hk with⟨hw,_⟩|⟨b',gx,cur,hw,hg,h4,h5,_⟩
       · rw [hv] at hw;cases hw
       · rw [hv] at hw
         simp only [Value.slice.injEq] at hw
         exact .inl ⟨_,_,_,vH,h.symm,by omega⟩
   · cases h
 · rename_i k sz off m
   split at h
   · rename_i e row l fr hk
     simp only [Option.some.injEq] at h
     simp only [ae] at hx
     rcases hx with⟨hm,ad,cap,hv,_⟩|⟨b,mm,cap,gx,hv,vH,hle,amV⟩
     · subst hm
       exact .inl ⟨ad,0,cap,hv,by simpa using h.symm,by simp⟩
     · rcases dI hB hk with⟨hw,_⟩|⟨b',sc,cur,hw,hg,h4,h5,_⟩
       · rw [hv] at hw;cases hw
       · rw [hv] at hw
         simp only [Value.slice.injEq] at hw
         exact .inl ⟨_,_,_,vH,h.symm,by omega⟩
   · cases h
 · cases h
theorem sd {k:IntKind} {n:Int}(h:lo k≤n∧n≤hi k):k.wrap n=n:=by
 cases k<;>simp [lo,hi] at h<;>simp [IntKind.wrap,IntKind.signed,IntKind.bits]<;>omega
theorem K2 {k:IntKind} {n c:Int}(h:lj k=some c):k.wrap n=n%c:=by
 cases k<;>simp [lj] at h<;>subst h<;>simp [IntKind.wrap,IntKind.signed,IntKind.bits]
theorem IK {k:IntKind} {n c:Int}(h:lj k=some c):lo k≤n%c∧n%c≤hi k:=by
 cases k<;>simp [lj] at h<;>subst h<;>simp [lo,hi]<;>omega
theorem lx {k:IntKind} {cs:List Prop} {n:Int} {out:Out}(h:oO k cs n=some out)(hc:∀p∈out.cond,p):
  out.quiet∧ae w A β (.int k (k.wrap n)) out.res∧∀p∈cs,p:=by
 unfold oO at h
 simp only [Option.some.injEq] at h
 subst h
 unfold fit at hc ⊢
 cases hk:lj k with
 |none=>
  simp only [hk] at hc ⊢
  have hr:=hc (lo k≤n∧n≤hi k) (by simp)
  refine⟨⟨rfl,rfl,rfl⟩,?_,fun p hp=>hc p (by simp [hp])⟩
  rw [sd hr];simp only [ae];exact⟨trivial,hr⟩
 |some c=>
  simp only [hk] at hc ⊢
  refine⟨⟨rfl,rfl,rfl⟩,?_,fun p hp=>hc p (by simp [hp])⟩
  rw [K2 hk];simp only [ae];exact⟨trivial,IK hk⟩
theorem yo {op:BinOp} {t:TypeId} {x y:Operand} {k k':IntKind} {n m:Int}:(eqGuard op t x y (.int k n) (.int k' m)).run P w= .ok () w:=by
 unfold eqGuard;cases op<;>rfl
theorem yp {op:BinOp} {t:TypeId} {x y:Operand} {s u:ByteArray}:(eqGuard op t x y (.string s) (.string u)).run P w= .ok () w:=by
 unfold eqGuard;cases op<;>rfl
theorem vI {op:BinOp} {t:TypeId} {x y:Operand} {p q:Option Addr} {n m n' m':Nat}:(eqGuard op t x y (.slice p n m) (.slice q n' m')).run P w= .ok () w:=by
 unfold eqGuard;cases op<;>rfl
theorem yq(w:World)(d:Nat)(t e:TypeId)(a:Option Addr)(n c n' c':Nat)(h:P.underlying t=some (.slice e)):
  (Op.equalIn (d+1) t (.slice a n c) (.slice none n' c')).run P w= .ok a.isNone w:=by
 cases a<;>simp [Op.equalIn,run_underlying h]
theorem G8(w:World)(t e:TypeId)(a:Option Addr)(n c n' c':Nat)(h:P.underlying t=some (.slice e)):
  (binOp .eql t (.slice a n c) (.slice none n' c')).run P w= .ok (.bool a.isNone) w:=by
 simp only [binOp]
 simp [Op.equal,Op.maxDepth,yq w 9999 t e a n c n' c' h]
theorem wT {op:BinOp} {t:TypeId} {x y:Operand} {s u:Bool}:(eqGuard op t x y (.bool s) (.bool u)).run P w= .ok () w:=by
 unfold eqGuard;cases op<;>rfl
theorem mi {k:IntKind} {n:Int}(hr:lo k≤n)(h:∀p∈uP k n,p):0≤n:=by
 unfold uP at h
 cases hc:lj k with
 |none=>simp only [hc] at h;exact h _ (by simp)
 |some c=>cases k<;>simp [lj] at hc<;>simpa [lo] using hr
def jJ:IntKind→Nat
 | .i8=>7| .i16=>15| .i32=>31| .i64=>63| .u8=>8| .u16=>16| .u32=>32| .u64=>64
theorem toNat_lt {k:IntKind} {n:Int}(h0:0≤n)(h:n≤hi k):n.toNat<2^jJ k:=by
 cases k<;>simp [hi] at h<;>simp [jJ]<;>omega
theorem QO {k:IntKind} {n:Nat}(h:n<2^jJ k):lo k≤(n:Int)∧(n:Int)≤hi k:=by
 cases k<;>simp [jJ] at h<;>simp [lo,hi]<;>omega
theorem mX {k:IntKind} {n:Int}(h0:0≤n)(h:n≤hi k):(BitVec.ofInt k.bits n).toNat=n.toNat:=by
 rw [BitVec.toNat_ofInt]
 congr 1
 cases k<;>simp [hi] at h<;>simp [IntKind.bits]<;>omega
theorem AU {k:IntKind} {n m:Int}(f:Nat→Nat→Nat)(g:BitVec k.bits→BitVec k.bits→BitVec k.bits)(hfg:∀x y,(g x y).toNat=f x.toNat y.toNat)
  (hf:∀a b,a<2^jJ k→b<2^jJ k→f a b<2^jJ k) (hn:lo k≤n∧n≤hi k) (hm:lo k≤m∧m≤hi k) (h0:0≤n) (h1:0≤m):
  k.wrap ((g (BitVec.ofInt k.bits n) (BitVec.ofInt k.bits m)).toNat:Int)=(f n.toNat m.toNat:Int)∧lo k≤(f n.toNat m.toNat:Int)∧(f n.toNat m.toNat:Int)≤hi k:=by
 rw [hfg,mX h0 hn.2,mX h1 hm.2]
 have :=QO (hf _ _ (toNat_lt h0 hn.2) (toNat_lt h1 hm.2))
 exact⟨sd this,this⟩
theorem uU(s:List UInt8):(⟨s.toArray⟩:ByteArray).toList=s:=by
 rw [ByteArray.toList_eq]
theorem af2(s:List UInt8):(⟨s.toArray⟩:ByteArray).size=s.length:=by simp [ByteArray.size]
theorem K3(s u:List UInt8):(⟨s.toArray⟩:ByteArray)++⟨u.toArray⟩=⟨(s++u).toArray⟩:=by
 apply ByteArray.ext
 simp [ByteArray.data_append]
theorem AW {x:AV} {v:Value} {p:Bool}(hx:ae w A β v x)(h:oP x=some p):v= .bool p:=by cases x<;>simp_all [oP,ae]
theorem EJ {d:Nat} {E:TypeId→AV→AV→Option Bool}(hT:bw T P)(hE:∀t x y v u r,ae w A β v x→ae w A β u y→E t x y=some r→(Op.equalIn d t v u).run P w= .ok r w)
  {arr QP:Array Value} {xs ys:List AV} (hx:ai w A β arr.toList xs) (hy:ai w A β QP.toList ys):∀(fs:List Field) (r:Bool),(fs.all fun f=>f.name != "_")=true→AO T E xs ys fs=some r→(Op.eqFields d arr QP fs).run P w= .ok r w
 | [],r,_,h=>by simp only [AO,Option.some.injEq] at h;subst h;simp [Op.eqFields]
 |f::fs,r,hn,h=>by
  simp only [List.all_cons,Bool.and_eq_true] at hn
  have K4:f.name≠ "_":=by simpa using hn.1
  simp only [AO] at h
  cases hf:T.find f.type with
  |none=>simp [hf] at h
  |some te=>
   simp only [hf] at h
   cases ha:pick te xs f.offset with
   |none=>simp [ha] at h
   |some a=>cases hb:pick te ys f.offset with
    |none=>simp [ha,hb] at h
    |some b=>
     simp only [ha,hb] at h
     cases he:E f.type a b with
     |none=>simp [he] at h
     |some q=>cases hr:AO T E xs ys fs with
      |none=>simp [he,hr] at h
      |some q'=>
       simp only [he,hr,Option.some.injEq] at h
       subst h
       obtain⟨va,a1,a2⟩:=p0 hT hf hx ha
       obtain⟨vb,b1,b2⟩:=p0 hT hf hy hb
       have e1:=hE _ _ _ _ _ _ a2 b2 he
       have e2:=EJ hT hE hx hy fs q' hn.2 hr
       simp only [Op.eqFields,K4,ne_eq,not_false_eq_true,if_true,Sem.run_bind,a1,b1,e1,Result.andThen_ok]
       cases fs with
       |nil=>
        simp only [AO,Option.some.injEq] at hr
        subst hr
        cases q<;>simp [Op.eqFields]
       |cons g gs=>cases q<;>simp [e2]
theorem EK(hT:bw T P):∀(n d:Nat) (t:TypeId) (x y:AV) (v u:Value) (r:Bool),n≤d→ae w A β v x→ae w A β u y→zg T n t x y=some r→(Op.equalIn d t v u).run P w= .ok r w
 |0,_,_,_,_,_,_,_,_,_,_,h=>by simp [zg] at h
 |n+1,0,_,_,_,_,_,_,hd,_,_,_=>by omega
 |n+1,d+1,t,x,y,v,u,r,hd,hx,hy,h=>by
  simp only [zg] at h
  cases hf:T.find t with
  |none=>simp [hf] at h
  |some te=>
   simp only [hf] at h
   obtain⟨hu,_⟩:=hT.ok t te hf
   split at h
   · rename_i fs pF
     split at h
     · rename_i xs ys
       simp only [ae] at hx hy
       obtain⟨arr,rfl,hx⟩:=hx
       obtain⟨QP,rfl,hy⟩:=hy
       have hh:=hT.held t te hf
       rw [pF] at hh hu
       have SE:P.fieldsOf t=fs:=by simp [Program.fieldsOf,hu]
       rw [run_equalIn_struct w d t arr QP (by rw [SE];exact hu) hh.1,SE]
       exact EJ hT (fun t x y v u r g1 g2 g3=>EK hT n d t x y v u r (by omega) g1 g2 g3) hx hy _ _ hh.2.2 h
     · cases h
   · rename_i k0 pF
     rw [pF] at hu
     split at h
     · rename_i k a k' b
       split at h
       · rename_i hk
         subst hk
         simp only [Option.some.injEq] at h;subst h
         simp only [ae] at hx hy
         rw [hx.1,hy.1,run_equalIn_int w d t _ _ _ _ hu]
         by_cases eV:a=b<;>simp [eV]
       · cases h
     · cases h
   · rename_i pF
     rw [pF] at hu
     split at h
     · rename_i a b
       simp only [Option.some.injEq] at h;subst h
       simp only [ae] at hx hy
       rw [hx.1,hy.1,run_equalIn_string w d t _ _ hu]
       simp only [uU]
       by_cases eV:a=b<;>simp [eV]
     · cases h
   · rename_i pF
     rw [pF] at hu
     split at h
     · rename_i p q hp hq
       simp only [Option.some.injEq] at h;subst h
       rw [AW hx hp,AW hy hq,run_equalIn_bool' w d t _ _ hu]
     · cases h
   · cases h
theorem IL(hT:bw T P) {n:Nat} {t:TypeId} {xs ys:List AV} {r:Bool}(h:zg T n t (.agg xs) (.agg ys)=some r):P.eqGuardType P.depth t=false :=by
 cases n with
 |zero=>simp [zg] at h
 |succ n=>
  simp only [zg] at h
  cases hf:T.find t with
  |none=>simp [hf] at h
  |some te=>
   simp only [hf] at h
   have hh:=hT.held t te hf
   split at h
   · rename_i fs pF
     rw [pF] at hh
     exact hh.2.1
   · cases h
   · cases h
   · simp [oP] at h
   · cases h
set_option maxHeartbeats 1000000 in
theorem K5(hT:bw T P) {op:BinOp} {t:TypeId} {ox oy:Operand} {x y:AV} {vx vy:Value}(hx:ae w A β vx x)(hy:ae w A β vy y) {out:Out}
  (h:G6 T t op x y=some out) (hc:∀p∈out.cond,p):Reads P A β w (do eqGuard op t ox oy vx vy;binOp op t vx vy) out:=by
 unfold G6 at h
 split at h
 · rename_i k n k' m
   simp only [ae] at hx hy
   obtain⟨rfl,hn⟩:=hx
   obtain⟨rfl,hm⟩:=hy
   unfold Reads
   simp only [Sem.run_bind,yo,Result.andThen_ok]
   split at h
   · obtain⟨hq,hr,cQ⟩:=lx (w:=w) (A:=A) (β:=β) h hc
     obtain⟨h0,h1⟩:=di cQ
     refine⟨hq,_,?_,hr⟩
     have SF:¬m<0:=by omega
     have SG:min m.toNat k.bits=m.toNat:=by
      cases k<;>simp [bitsOf] at h1<;>simp [IntKind.bits]<;>omega
     simp [binOp,Op.shift,SF,SG]
   · simp only [Option.some.injEq] at h;subst h
     obtain⟨h0,h1⟩:=di hc
     have SF:¬m<0:=by omega
     have SG:min m.toNat k.bits=m.toNat:=by
      cases k<;>simp [bitsOf] at h1<;>simp [IntKind.bits]<;>omega
     refine⟨⟨rfl,rfl,rfl⟩, .int k (n/2^m.toNat),?_,?_⟩
     · simp only [binOp,Op.shift,SF,SG,if_false,Sem.run_pure]
       rw [Int.fdiv_eq_ediv_of_nonneg _ (Int.le_of_lt (Int.pow_pos (by omega)))]
     · simp only [ae]
       have hp:(1:Int)≤2^m.toNat:=Int.pow_pos (by omega)
       refine⟨trivial,?_,?_⟩
       · have h2:lo k≤0:=by cases k<;>simp [lo]
         rcases Int.le_total 0 n with hh|hh
         · exact Int.le_trans h2 (Int.ediv_nonneg hh (by omega))
         · have :n≤n/2^m.toNat:=by
            rw [Int.le_ediv_iff_mul_le (by omega)]
            have :=Int.mul_le_mul_of_nonpos_left hh hp
            omega
           omega
       · have h2:0≤hi k:=by cases k<;>simp [hi]
         rcases Int.le_total 0 n with hh|hh
         · have :n/2^m.toNat≤n:=Int.ediv_le_self _ hh
           omega
         · have :n/2^m.toNat≤0:=Int.ediv_nonpos_of_nonpos_of_neg hh (by omega)
           omega
   · rename_i SH G9
     by_cases SI:k=k'
     · subst SI
       simp only [if_true] at h
       have hb:binOp op t (.int k n) (.int k m)=match op with
         | .add| .sub| .mul=>Op.intArith op k n m
         | .quo| .rem=>Op.intDiv op k n m
         | .and| .or| .xor| .andNot=>Op.intBits op k n m
         |_=>Op.intCmp op n m:=by
        cases op<;>first|exact absurd rfl SH|exact absurd rfl G9|simp [binOp]
       rw [hb]
       split at h
       · obtain⟨hq,hr,_⟩:=lx (w:=w) (A:=A) (β:=β) h hc
         exact⟨hq,_,by simp [Op.intArith],hr⟩
       · obtain⟨hq,hr,_⟩:=lx (w:=w) (A:=A) (β:=β) h hc
         exact⟨hq,_,by simp [Op.intArith],hr⟩
       · obtain⟨hq,hr,_⟩:=lx (w:=w) (A:=A) (β:=β) h hc
         exact⟨hq,_,by simp [Op.intArith],hr⟩
       · simp only [Option.some.injEq] at h;subst h
         have h0:0≤n:=mi hn.1 (fun p hp=>hc p (by simp [hp]))
         have h1:0<m:=hc _ (by simp)
         have dp:¬m=0:=by omega
         have h2:0≤n/m:=Int.ediv_nonneg h0 (by omega)
         have h3:n/m≤n:=Int.ediv_le_self _ h0
         have Ha:lo k≤0:=by cases k<;>simp [lo]
         have hr:lo k≤n/m∧n/m≤hi k:=⟨by omega,by omega⟩
         refine⟨⟨rfl,rfl,rfl⟩, .int k (n/m),?_,by simp only [ae];exact⟨trivial,hr⟩⟩
         simp only [Op.intDiv,dp,if_false,Int.tdiv_eq_ediv_of_nonneg h0,sd hr,Sem.run_pure]
       · simp only [Option.some.injEq] at h;subst h
         have h0:0≤n:=mi hn.1 (fun p hp=>hc p (by simp [hp]))
         have h1:0<m:=hc _ (by simp)
         have dp:¬m=0:=by omega
         have h2:0≤n%m:=Int.emod_nonneg _ dp
         have h3:n%m≤n:=by
          have e1:=Int.emod_def n m
          have e2:0≤m*(n/m):=Int.mul_nonneg (by omega) (Int.ediv_nonneg h0 (by omega))
          omega
         have Ha:lo k≤0:=by cases k<;>simp [lo]
         have hr:lo k≤n%m∧n%m≤hi k:=⟨by omega,by omega⟩
         refine⟨⟨rfl,rfl,rfl⟩, .int k (n%m),?_,by simp only [ae];exact⟨trivial,hr⟩⟩
         simp only [Op.intDiv,dp,if_false,Int.tmod_eq_emod_of_nonneg h0,Sem.run_pure]
       · simp only [Option.some.injEq] at h;subst h
         have h0:0≤n:=mi hn.1 (fun p hp=>hc p (by simp [hp]))
         have h1:0≤m:=mi hm.1 (fun p hp=>hc p (by simp [hp]))
         obtain⟨e1,e2⟩:=AU (k:=k) (· &&& ·) (· &&& ·) (fun x y=>BitVec.toNat_and x y) (fun a b ha hb=>Nat.lt_of_le_of_lt Nat.and_le_left ha) hn hm h0 h1
         exact⟨⟨rfl,rfl,rfl⟩,_,by simp only [Op.intBits,Sem.run_pure,e1];rfl,by simp only [ae];exact⟨rfl,e2⟩⟩
       · simp only [Option.some.injEq] at h;subst h
         have h0:0≤n:=mi hn.1 (fun p hp=>hc p (by simp [hp]))
         have h1:0≤m:=mi hm.1 (fun p hp=>hc p (by simp [hp]))
         obtain⟨e1,e2⟩:=AU (k:=k) (· ||| ·) (· ||| ·) (fun x y=>BitVec.toNat_or x y) (fun a b ha hb=>Nat.or_lt_two_pow ha hb) hn hm h0 h1
         exact⟨⟨rfl,rfl,rfl⟩,_,by simp only [Op.intBits,Sem.run_pure,e1];rfl,by simp only [ae];exact⟨rfl,e2⟩⟩
       · simp only [Option.some.injEq] at h;subst h
         have h0:0≤n:=mi hn.1 (fun p hp=>hc p (by simp [hp]))
         have h1:0≤m:=mi hm.1 (fun p hp=>hc p (by simp [hp]))
         obtain⟨e1,e2⟩:=AU (k:=k) (· ^^^ ·) (· ^^^ ·) (fun x y=>BitVec.toNat_xor x y) (fun a b ha hb=>Nat.xor_lt_two_pow ha hb) hn hm h0 h1
         exact⟨⟨rfl,rfl,rfl⟩,_,by simp only [Op.intBits,Sem.run_pure,e1];rfl,by simp only [ae];exact⟨rfl,e2⟩⟩
       · simp only [Option.some.injEq] at h;subst h
         exact⟨⟨rfl,rfl,rfl⟩, .bool (decide (n=m)),by simp only [Op.intCmp,Sem.run_pure]<;>rfl,by simp only [ae]⟩
       · simp only [Option.some.injEq] at h;subst h
         exact⟨⟨rfl,rfl,rfl⟩, .bool (!decide (n=m)),by simp only [Op.intCmp,Sem.run_pure]<;>rfl,by simp only [ae]⟩
       · simp only [Option.some.injEq] at h;subst h
         exact⟨⟨rfl,rfl,rfl⟩, .bool (decide (n<m)),by simp only [Op.intCmp,Sem.run_pure]<;>rfl,by simp only [ae]⟩
       · simp only [Option.some.injEq] at h;subst h
         exact⟨⟨rfl,rfl,rfl⟩, .bool (decide (n≤m)),by simp only [Op.intCmp,Sem.run_pure]<;>rfl,by simp only [ae]⟩
       · simp only [Option.some.injEq] at h;subst h
         exact⟨⟨rfl,rfl,rfl⟩, .bool (decide (m<n)),by simp only [Op.intCmp,Sem.run_pure]<;>rfl,by simp only [ae]⟩
       · simp only [Option.some.injEq] at h;subst h
         exact⟨⟨rfl,rfl,rfl⟩, .bool (decide (m≤n)),by simp only [Op.intCmp,Sem.run_pure]<;>rfl,by simp only [ae]⟩
       · cases h
     · simp [SI] at h
 · rename_i s u
   simp only [ae] at hx hy
   obtain⟨rfl,hn⟩:=hx
   obtain⟨rfl,hm⟩:=hy
   unfold Reads
   simp only [Sem.run_bind,yp,Result.andThen_ok]
   have hb:binOp op t (.string ⟨s.toArray⟩) (.string ⟨u.toArray⟩)=Op.stringOp op ⟨s.toArray⟩ ⟨u.toArray⟩:=by cases op<;>rfl
   have amW:(s==u)=decide (s=u):=by
    by_cases hsu:s=u
    · simp [hsu]
    · simp [hsu]
   rw [hb]
   split at h
   · simp only [Option.some.injEq] at h;subst h
     have h0:=di hc
     refine⟨⟨rfl,rfl,rfl⟩, .string ⟨(s++u).toArray⟩,?_,?_⟩
     · have vJ:¬((s.length:Int)+(u.length:Int)>IntKind.i64.max):=by
        simp [IntKind.max,IntKind.signed,IntKind.bits];omega
       simp [Op.stringOp,af2,K3]
       omega
     · simp only [ae];refine⟨trivial,?_⟩;rw [List.length_append];unfold maxLen;omega
   all_goals first|(simp only [Option.some.injEq] at h;subst h;exact⟨⟨rfl,rfl,rfl⟩,_,by simp only [Op.stringOp,Sem.run_pure,uU,amW];rfl,by simp only [ae]⟩)|cases h
 · rename_i r rs l
   cases hd:acQ T t fN with
   |false=>simp [hd] at h
   |true=>
    simp only [hd,cond_true] at h
    obtain⟨e,hu⟩:∃e,P.underlying t=some (.slice e):=by
     unfold acQ at hd
     cases ht:T.find t with
     |none=>simp [ht] at hd
     |some te=>
      simp only [ht] at hd
      rw [(hT.ok t te ht).1]
      cases se:te.desc<;>simp_all [fN]
    simp only [ae,Rd] at hx hy
    obtain⟨ad,cap,cs,rfl,h1,h2,h3,h4⟩:=hx
    subst hy
    split at h
    · simp only [Option.some.injEq] at h;subst h
      unfold Reads
      simp only [Sem.run_bind,vI,Result.andThen_ok]
      refine⟨⟨rfl,rfl,rfl⟩, .bool ad.isNone,G8 w t e ad _ _ _ _ hu,?_⟩
      simp only [ae]
      refine⟨_,rfl,fun hn=> ?_⟩
      cases l with
      |nil=>rfl
      |cons x l=>
       exfalso
       simp only [bW,bg] at h3
       obtain⟨c1,c2,cQ,⟨v,vs,SJ,_⟩,_⟩:=h3
       obtain⟨b,o,hb,_⟩:=h4 (by rw [cQ,SJ];simp)
       rw [hb] at hn;cases hn
    · cases h
 · rename_i xs ys
   split at h
   · rename_i r hr
     have hg:=IL hT hr
     have hq:=EK (w:=w) (A:=A) (β:=β) hT 8 10000 t _ _ _ _ r (by omega) hx hy hr
     simp only [ae] at hx hy
     obtain⟨arr,rfl,hx⟩:=hx
     obtain⟨QP,rfl,hy⟩:=hy
     unfold Reads
     simp only [Sem.run_bind,run_eqGuard_agg w op t ox oy arr QP hg,Result.andThen_ok]
     split at h
     · simp only [Option.some.injEq] at h;subst h
       exact⟨⟨rfl,rfl,rfl⟩,_,by rw [run_eql_struct,hq];rfl,by simp only [ae]⟩
     · simp only [Option.some.injEq] at h;subst h
       exact⟨⟨rfl,rfl,rfl⟩,_,by rw [run_neq_struct,hq];rfl,by simp only [ae]⟩
     · cases h
   · cases h
 · rename_i AX hy1 Ē
   split at h
   · rename_i p q hp hq
     have ex:vx= .bool p:=by cases x<;>simp_all [oP,ae]
     have ey:vy= .bool q:=by cases y<;>simp_all [oP,ae]
     subst ex;subst ey
     unfold Reads
     simp only [Sem.run_bind,wT,Result.andThen_ok]
     cases hd:acQ T t AN with
     |false=>simp [hd] at h
     |true=>
      simp only [hd,cond_true] at h
      have hu:P.underlying t=some .bool:=by
       unfold acQ at hd
       cases ht:T.find t with
       |none=>simp [ht] at hd
       |some te=>
        simp only [ht] at hd
        rw [(hT.ok t te ht).1]
        cases se:te.desc<;>simp_all [AN]
      split at h
      · simp only [Option.some.injEq] at h;subst h
        exact⟨⟨rfl,rfl,rfl⟩, .bool (p==q),run_eql_bool w t p q hu,by simp only [ae]⟩
      · simp only [Option.some.injEq] at h;subst h
        exact⟨⟨rfl,rfl,rfl⟩, .bool (!(p==q)),run_neq_bool w t p q hu,by simp only [ae]⟩
      · cases h
   · cases h
theorem AY(sz j:Nat):∀(k:Nat) (cs:List AV) (i:Nat),i<k→(every sz j k cs)[i]? =some (cs.getD (i*sz+j) .cF)
 |k+1,cs,0,_=>by simp [every]
 |k+1,cs,i+1,h=>by
  simp only [every,List.getElem?_cons_succ]
  rw [AY sz j k (cs.drop sz) i (by omega)]
  simp only [List.getD,List.getElem?_drop]
  rw [show sz+(i*sz+j)=(i+1)*sz+j by rw [Nat.add_mul];omega]
theorem wU:∀(l:List AV) (kd:IntKind) (ns:List Int),wM l=some (kd,ns)→∀(i:Nat) (a:AV),l[i]? =some a→a= .int kd (ns.getD i 0)
 | [],kd,ns,h,i,a,hi=>by simp at hi
 |x::r,kd,ns,h,i,a,hi=>by
  unfold wM at h
  split at h
  · rename_i k n
    split at h
    · simp only [Option.some.injEq,Prod.mk.injEq] at h
      obtain⟨rfl,rfl⟩:=h
      cases i with
      |zero=>simp at hi;subst hi;simp
      |succ i=>simp at hi
    · rename_i y r'
      split at h
      · rename_i k' l hl
        split at h
        · rename_i hk
          subst hk
          simp only [Option.some.injEq,Prod.mk.injEq] at h
          obtain⟨rfl,rfl⟩:=h
          cases i with
          |zero=>simp at hi;subst hi;simp
          |succ i=>
           rw [List.getElem?_cons_succ] at hi
           have :=wU _ _ _ hl i a hi
           rw [this];simp [List.getD]
        · cases h
      · cases h
  · cases h
theorem sf {sz k:Nat} {cs:List AV} {n:Int}(hn:n.toNat<k):∀(m:Nat) (vs:List AV),wN sz k cs n m=some vs→vs.length=m∧∀j,j<m→vs[j]? =some (cs.getD (n.toNat*sz+j) .cF)
 |0,vs,h=>by simp only [wN,Option.some.injEq] at h;subst h;exact⟨rfl,fun j hj=>by omega⟩
 |m+1,vs,h=>by
  simp only [wN] at h
  split at h
  · rename_i us kd l h1 h2
    simp only [Option.some.injEq] at h
    subst h
    obtain⟨g1,g2⟩:=sf hn m us h1
    refine⟨by simp [g1],fun j hj=> ?_⟩
    by_cases hjm:j<m
    · rw [List.getElem?_append_left (by omega)];exact g2 j hjm
    · have :j=m:=by omega
      subst this
      rw [List.getElem?_append_right (by omega),g1,Nat.sub_self,List.getElem?_cons_zero]
      have :=wU _ _ _ h2 n.toNat _ (AY sz j k cs n.toNat hn)
      rw [this]
  · cases h
theorem IM {t:TypeId}(hT:bw T P) {k:Nat} {ee:TE}(h:AP T t=some (k,ee)):∃e i,P.underlying t=some (.array k e)∧T.find e=some ee∧P.info? e=some i∧i.size=ee.size:=by
 unfold AP at h
 split at h
 · rename_i te lv
   obtain⟨hu,_⟩:=hT.ok t te lv
   split at h
   · rename_i k' e hd
     split at h
     · rename_i ee' pE
       obtain⟨_,i,hi,hs,_⟩:=hT.ok e ee' pE
       simp only [Option.some.injEq,Prod.mk.injEq] at h
       obtain⟨rfl,rfl⟩:=h
       exact⟨e,i,by rw [hu,hd],pE,hi,hs⟩
     · cases h
   · cases h
 · cases h
theorem zY(hT:bw T P) {t:TypeId} {cs:List AV} {n:Int} {kd:IntKind} {arr:Array Value} {vi:Value}(hx:ai w A β arr.toList cs)(hi:vi= .int kd n) {out:Out}
  (h:qB T t cs n=some out) (hc:∀p∈out.cond,p):Reads P A β w (Instr.index t (.agg arr) vi) out:=by
 unfold qB at h
 split at h
 · rename_i k ee ha
   cases hb:Nat.beq cs.length (k*ee.size) with
   |false=>rw [hb] at h;cases h
   |true=>
    rw [hb] at h
    simp only [cond_true] at h
    have hlen:=Nat.eq_of_beq_eq_true hb
    obtain⟨e,i,hu,pE,hie,hs⟩:=IM hT ha
    have fQ:∀(h0:0≤n) (h1:n<(k:Int)),(Instr.index t (.agg arr) vi).run P w=(part e arr (n.toNat*ee.size)).run P w:=by
     intro h0 h1
     subst hi
     simp [Instr.index,asIntOf,run_underlying hu,h0,h1,sizeOf,typeInfo,hie,hs]
    split at h
    · rename_i vs hv
      cases Ec:ee.desc.ja with
      |true=>
       rw [Ec] at h
       simp only [cond_true,Option.some.injEq] at h
       subst h
       obtain⟨h0,h1⟩:=di hc
       obtain⟨g1,g2⟩:=sf (by omega) _ _ hv
       have hle:n.toNat*ee.size+ee.size≤cs.length:=by
        rw [hlen,←Nat.succ_mul];exact Nat.mul_le_mul_right _ (by omega)
       have hp:pick ee cs (n.toNat*ee.size)=some (.agg vs):=by
        unfold pick
        rw [Ec,cond_true,show Nat.ble (n.toNat*ee.size+ee.size) cs.length=true from Nat.ble_eq_true_of_le hle,cond_true]
        congr 2
        refine List.ext_getElem? fun j=> ?_
        by_cases hj:j<ee.size
        · rw [List.getElem?_take,if_pos hj,List.getElem?_drop,g2 j hj]
          rw [List.getElem?_eq_getElem (by omega)]
          simp [List.getD,List.getElem?_eq_getElem (show n.toNat*ee.size+j<cs.length by omega)]
        · rw [List.getElem?_take,if_neg hj,List.getElem?_eq_none (by omega)]
       obtain⟨v,k1,k2⟩:=p0 hT pE hx hp
       exact⟨⟨rfl,rfl,rfl⟩,v,by rw [fQ h0 h1];exact k1,k2⟩
      |false=>
       rw [Ec] at h
       simp only [cond_false] at h
       split at h
       · rename_i a
         simp only [Option.some.injEq] at h
         subst h
         obtain⟨h0,h1⟩:=di hc
         obtain⟨g1,g2⟩:=sf (by omega) _ _ hv
         have cz:ee.size=1:=by simpa using g1.symm
         have hle:n.toNat*ee.size+ee.size≤cs.length:=by
          rw [hlen,←Nat.succ_mul];exact Nat.mul_le_mul_right _ (by omega)
         have hp:pick ee cs (n.toNat*ee.size)=some a:=by
          unfold pick
          rw [Ec,cond_false]
          have :=g2 0 (by omega)
          simp only [List.getElem?_cons_zero,Option.some.injEq,Nat.add_zero] at this
          rw [this,List.getElem?_eq_getElem (by omega)]
          simp [List.getD,List.getElem?_eq_getElem (show n.toNat*ee.size<cs.length by omega)]
         obtain⟨v,k1,k2⟩:=p0 hT pE hx hp
         exact⟨⟨rfl,rfl,rfl⟩,v,by rw [fQ h0 h1];exact k1,k2⟩
       · cases h
    · cases h
 · cases h
end
end Go.Vg

end
section
namespace Go.Vg
open Go
section
variable {P:Program} {C:Ctx} {A:Nat→Prop} {β:Nat→Value} {st:St} {a:Act} {w:World} {T:b9}
theorem QQ {op:UnOp} {x:AV} {vx:Value}(hx:ae w A β vx x) {out:Out}(h:KV op x=some out)(hc:∀p∈out.cond,p):Reads P A β w (Op.unary op vx) out:=by
 unfold KV at h
 split at h
 · split at h
   · simp only [Option.some.injEq] at h;subst h
     simp only [ae] at hx;subst hx
     exact⟨⟨rfl,rfl,rfl⟩,_,rfl,by simp only [ae]⟩
   · cases h
 · split at h
   · simp only [Option.some.injEq] at h;subst h
     simp only [ae] at hx;subst hx
     exact⟨⟨rfl,rfl,rfl⟩,_,rfl,by simp only [ae];rfl⟩
   · cases h
 · split at h
   · simp only [Option.some.injEq] at h;subst h
     simp only [ae] at hx;subst hx
     exact⟨⟨rfl,rfl,rfl⟩,_,rfl,by simp only [ae];rfl⟩
   · cases h
 · rename_i k n
   simp only [ae] at hx
   obtain⟨rfl,hn⟩:=hx
   split at h
   · obtain⟨hq,hr,_⟩:=lx (w:=w) (A:=A) (β:=β) h hc
     exact⟨hq, .int k (k.wrap (0-n)),by simp [Op.unary,Op.intArith],hr⟩
   · cases hk:lj k with
     |none=>simp [hk] at h
     |some c=>
      simp only [hk,Option.some.injEq] at h;subst h
      have hs:k.signed=false :=by cases k<;>simp [lj] at hk<;>rfl
      have h0:0≤n:=by cases k<;>simp [lj] at hk<;>simpa [lo] using hn.1
      have SJ:c-1=hi k:=by cases k<;>simp [lj] at hk<;>subst hk<;>rfl
      have hx:(c-1-n)=k.wrap ((BitVec.ofInt k.bits (hi k)^^^BitVec.ofInt k.bits n).toNat:Int):=by
       rw [BitVec.toNat_xor,mX (by cases k<;>simp [hi]) (Int.le_refl _),mX h0 hn.2]
       have dX:=toNat_lt h0 hn.2
       have e:(hi k).toNat^^^n.toNat=(hi k).toNat-n.toNat:=by
        have e2:(hi k).toNat=2^jJ k-1:=by cases k<;>simp [lj] at hk<;>rfl
        rw [e2]
        apply Nat.eq_of_testBit_eq
        intro i
        rw [Nat.testBit_xor,Nat.testBit_two_pow_sub_one,Nat.sub_sub,Nat.add_comm,Nat.testBit_two_pow_sub_succ dX]
        cases hb:n.toNat.testBit i with
        |false=>simp
        |true=>
         have :i<jJ k:=by
          rcases Nat.lt_or_ge i (jJ k) with h|h
          · exact h
          · rw [Nat.testBit_lt_two_pow (Nat.lt_of_lt_of_le dX (Nat.pow_le_pow_right (by omega) h))] at hb;cases hb
         simp [this]
       rw [e]
       have hle:n.toNat≤(hi k).toNat:=by omega
       have hr:lo k≤(((hi k).toNat-n.toNat:Nat):Int)∧(((hi k).toNat-n.toNat:Nat):Int)≤hi k:=by
        have :lo k=0:=by cases k<;>simp [lj] at hk<;>rfl
        omega
       rw [sd hr,SJ]
       omega
      have ē:lo k≤c-1-n∧c-1-n≤hi k:=by
       have :lo k=0:=by cases k<;>simp [lj] at hk<;>rfl
       omega
      refine⟨⟨rfl,rfl,rfl⟩, .int k (c-1-n),?_,by simp only [ae];exact⟨trivial,ē⟩⟩
      have IN:k.max=hi k:=by cases k<;>simp [lj] at hk<;>rfl
      simp only [Op.unary,Op.intBits,hs,Bool.false_eq_true,if_false,Sem.run_pure,IN]
      rw [hx]
   · cases h
 · cases h
theorem wV(s:List UInt8)(x y:Nat)(hy:y≤s.length):(⟨s.toArray⟩:ByteArray).extract x y=⟨((s.take y).drop x).toArray⟩:=by
 apply ByteArray.ext
 apply Array.ext'
 simp [ByteArray.data_extract,List.extract,List.drop_take]
theorem run_sliceBound {k:IntKind} {n:Int} {y:Nat} {code:BoundsCode}(h0:0≤n)(h1:n≤(y:Int)):(Instr.sliceBound (.int k n) y code).run P w= .ok n.toNat w:=by
 simp [Instr.sliceBound,asIntOf,h0,h1]
def cW:Option Int→Nat
 |none=>0
 |some a=>a.toNat
def ba(len:Nat):Option Int→Nat
 |none=>len
 |some b=>b.toNat
def lT(w:World)(A:Nat→Prop)(β:Nat→Value):Option AV→Option Value→Prop
 |none,none=>True
 |some x,some v=>ae w A β v x
 |_,_=>False
theorem eN {x:Option AV} {n:Option Int} {v:Option Value}(h:lQ x=some n)(hr:lT w A β x v):
  (n=none∧v=none)∨∃k m,n=some m∧v=some (.int k m):=by
 cases x with
 |none=>
  simp [lQ] at h
  cases v with
  |none=>exact .inl ⟨h.symm,rfl⟩
  |some v=>simp [lT] at hr
 |some x=>
  cases v with
  |none=>simp [lT] at hr
  |some v=>
   cases x with
   |int k m=>
    simp only [lQ,Option.some.injEq] at h
    simp only [lT,ae] at hr
    exact .inr ⟨k,m,h.symm,by rw [hr.1]⟩
   |_=>simp [lQ] at h
theorem jd {s:Bool} {len cap:Nat} {lo hi:Option Int} {vl vh:Option Value}(hl:(lo=none∧vl=none)∨∃k m,lo=some m∧vl=some (.int k m))(hh:(hi=none∧vh=none)∨∃k m,hi=some m∧vh=some (.int k m))
  (hlen:len≤cap) (h0:∀m,hi=some m→0≤m∧m≤(len:Int)) (h1:∀m,lo=some m→0≤m∧m≤(ba len hi:Int)):
  (Instr.sliceBounds s len cap vl vh none).run P w= .ok (cW lo,ba len hi,cap) w:=by
 rcases hl with⟨rfl,rfl⟩|⟨k,m,rfl,rfl⟩<;>rcases hh with⟨rfl,rfl⟩|⟨k',m',rfl,rfl⟩
 · simp [Instr.sliceBounds,cW,ba]
 · obtain⟨g0,g1⟩:=h0 m' rfl
   simp [Instr.sliceBounds,cW,ba,run_sliceBound (P:=P) (w:=w) (k:=k') g0 (show m'≤(cap:Int) by omega)]
 · obtain⟨g0,g1⟩:=h1 m rfl
   simp only [ba] at g1
   simp [Instr.sliceBounds,cW,ba,run_sliceBound (P:=P) (w:=w) (k:=k) g0 g1]
 · obtain⟨g0,g1⟩:=h0 m' rfl
   obtain⟨f0,f1⟩:=h1 m rfl
   simp only [ba] at f1
   simp [Instr.sliceBounds,cW,ba,run_sliceBound (P:=P) (w:=w) (k:=k') g0 (show m'≤(cap:Int) by omega),run_sliceBound (P:=P) (w:=w) (k:=k) f0 f1]
theorem qH {row:List Ty} {v:Value} {l:List (Row row)}(h:Rd w A (.slice row) v l):∃ad cap,v= .slice ad l.length cap∧l.length≤cap∧cap≤maxLen:=by
 simp only [Rd] at h
 obtain⟨ad,cap,cs,h1,h2,h3,_⟩:=h
 exact⟨ad,cap,h1,h2,h3⟩
theorem IP {row:List Ty} {ad:Option Addr} {len cap:Nat} {l:List (Row row)}(h:Rd w A (.slice row) (.slice ad len cap) l)(x y:Nat)(hx:x≤y)(hy:y≤l.length)(yr:Option Addr)
  (had:x<cap→yr=ad.map (·.add (x*row.length))):Rd w A (.slice row) (.slice yr (y-x) (cap-x)) ((l.take y).drop x):=by
 simp only [Rd] at h ⊢
 obtain⟨a0,amZ,cs,h1,h2,h3,h4,h5⟩:=h
 simp only [Value.slice.injEq] at h1
 obtain⟨rfl,rfl,rfl⟩:=h1
 have hs:=dq (w:=w) (A:=A) l cs y h4
 have G9:=dq (w:=w) (A:=A) (l.take y) _ x hs.1
 have hlen:((l.take y).drop x).length=y-x:=by simp;omega
 refine⟨yr,cap-x,((cs.take (y*row.length)).drop (x*row.length)),by rw [hlen],by rw [hlen];omega,by omega,G9.2,fun dp=> ?_⟩
 have ari:x<l.length:=by
  rcases Nat.lt_or_ge x l.length with dX|zZ
  · exact dX
  · exfalso;apply dp
    have :y=x:=by omega
    subst this
    rw [List.drop_take];simp
 have cQ:cs≠ []:=by intro h0;apply dp;simp [h0]
 obtain⟨b,o,hb,hA,hr⟩:=h5 cQ
 refine⟨b,o+x*row.length,?_,hA,lS (gd hr)⟩
 rw [had (by omega),hb]
 simp [Addr.add_mid]
theorem yu {t:TypeId}(hu:P.underlying t=some .string)(s:List UInt8) {vl vh:Option Value} {x y c:Nat}(hy:y≤s.length)(hb:(Instr.sliceBounds false s.length s.length vl vh none).run P w= .ok (x,y,c) w):
  (Instr.sliceAt t (.string ⟨s.toArray⟩) vl vh none).run P w= .ok (.string ⟨((s.take y).drop x).toArray⟩) w:=by
 simp [Instr.sliceAt,Instr.slice,run_underlying hu,af2,hb,wV s x y hy]
theorem mJ {t e:TypeId} {i:TypeInfo}(hu:P.underlying t=some (.slice e))(hi:P.info? e=some i)(ad:Option Addr)(len cap:Nat) {vl vh:Option Value} {x y:Nat}(hb:(Instr.sliceBounds true len cap vl vh none).run P w= .ok (x,y,cap) w):
  (Instr.sliceAt t (.slice ad len cap) vl vh none).run P w= .ok (.slice (if cap=x then ad else ad.map (·.add (x*i.size))) (y-x) (cap-x)) w:=by
 simp [Instr.sliceAt,Instr.slice,run_underlying hu,sizeOf,typeInfo,hi,hb]
theorem iJ(hT:bw T P) {t:TypeId} {te:TE}(ht:T.find t=some te):P.underlying t=some te.desc:=(hT.ok t te ht).1
theorem Hb(hT:bw T P)(hB:aE C A β st a w) {t:TypeId} {x:AV} {lo hi mx:Option AV} {vx:Value} {vl vh vm:Option Value}(hx:ae w A β vx x)
  (hl:lT w A β lo vl)
  (hh:lT w A β hi vh)
  (hm:lT w A β mx vm) {out:Out}
  (h:nv T st.h t x lo hi mx=some out) (hc:∀p∈out.cond,p):Reads P A β w (Instr.sliceAt t vx vl vh vm) out:=by
 unfold nv at h
 split at h
 · rename_i s vK iE Ha K6 rU
   have SK:vm=none:=by
    rcases eN rU hm with⟨_,h⟩|⟨k,m,h,_⟩
    · exact h
    · cases h
   subst SK
   have iK:=eN Ha hl
   have QR:=eN K6 hh
   simp only [ae] at hx
   obtain⟨rfl,hs⟩:=hx
   cases hd:acQ T t mV with
   |false=>simp [hd] at h
   |true=>
    simp only [hd,cond_true] at h
    have hu:P.underlying t=some .string:=by
     unfold acQ at hd
     cases ht:T.find t with
     |none=>simp [ht] at hd
     |some te=>
      simp only [ht] at hd
      rw [(hT.ok t te ht).1]
      cases se:te.desc<;>simp_all [mV]
    have fin:∀(r:List UInt8),(ba s.length iE≤s.length)→(∀m,iE=some m→0≤m∧m≤(s.length:Int))→(∀m,vK=some m→0≤m∧m≤(ba s.length iE:Int))→
      r=((s.take (ba s.length iE)).drop (cW vK))→∃v,(Instr.sliceAt t (.string ⟨s.toArray⟩) vl vh none).run P w= .ok v w∧ae w A β v (.str r):=by
     intro r h1 h2 h3 h4
     have hb:=jd (P:=P) (w:=w) (s:=false) (cap:=s.length) iK QR (Nat.le_refl _) h2 h3
     refine⟨_,yu hu s h1 hb,?_⟩
     simp only [ae,h4]
     exact⟨trivial,by simp only [List.length_drop,List.length_take];omega⟩
    split at h
    · simp only [Option.some.injEq] at h;subst h
      exact⟨⟨rfl,rfl,rfl⟩,fin s (by simp [ba]) (by simp) (by simp) (by simp [ba,cW])⟩
    · rename_i b
      simp only [Option.some.injEq] at h;subst h
      obtain⟨c0,c1⟩:=di hc
      exact⟨⟨rfl,rfl,rfl⟩,fin _ (by simp only [ba];omega) (by simp only [Option.some.injEq];rintro m rfl;exact⟨c0,c1⟩) (by simp) (by simp [ba,cW])⟩
    · rename_i x
      simp only [Option.some.injEq] at h;subst h
      obtain⟨c0,c1⟩:=di hc
      exact⟨⟨rfl,rfl,rfl⟩,fin _ (by simp [ba]) (by simp) (by simp only [Option.some.injEq,ba];rintro m rfl;exact⟨c0,c1⟩) (by simp [ba,cW])⟩
    · rename_i x b
      simp only [Option.some.injEq] at h;subst h
      obtain⟨c0,c1,c2⟩:=di hc
      exact⟨⟨rfl,rfl,rfl⟩,fin _ (by simp only [ba];omega) (by simp only [Option.some.injEq];rintro m rfl;exact⟨by omega,c2⟩) (by simp only [Option.some.injEq,ba];rintro m rfl;omega) (by simp [ba,cW])⟩
 · rename_i row l vK iE Ha K6 rU
   have SK:vm=none:=by
    rcases eN rU hm with⟨_,h⟩|⟨k,m,h,_⟩
    · exact h
    · cases h
   subst SK
   have iK:=eN Ha hl
   have QR:=eN K6 hh
   simp only [ae] at hx
   cases hs:bk T t row.length with
   |false=>simp [hs] at h
   |true=>
    simp only [hs,cond_true] at h
    obtain⟨e,ii,hu,gk,cz,gy⟩:=dH hT hs
    obtain⟨ad,cap,rfl,hle,wW⟩:=qH hx
    have fin:∀(r:List (Row row)),(ba l.length iE≤l.length)→(cW vK≤ba l.length iE)→(∀m,iE=some m→0≤m∧m≤(l.length:Int))→(∀m,vK=some m→0≤m∧m≤(ba l.length iE:Int))→
      r=((l.take (ba l.length iE)).drop (cW vK))→∃v,(Instr.sliceAt t (.slice ad l.length cap) vl vh none).run P w= .ok v w∧ae w A β v (.sl row r):=by
     intro r h1 Ĕ h2 h3 h4
     have hb:=jd (P:=P) (w:=w) (s:=true) (cap:=cap) iK QR hle h2 h3
     refine⟨_,mJ hu gk ad l.length cap hb,?_⟩
     simp only [ae,h4]
     refine IP hx _ _ Ĕ h1 _ (fun dX=> ?_)
     rw [if_neg (by omega),cz]
    split at h
    · simp only [Option.some.injEq] at h;subst h
      exact⟨⟨rfl,rfl,rfl⟩,fin l (by simp [ba]) (by simp [cW]) (by simp) (by simp) (by simp [ba,cW])⟩
    · rename_i b
      simp only [Option.some.injEq] at h;subst h
      obtain⟨c0,c1⟩:=di hc
      exact⟨⟨rfl,rfl,rfl⟩,fin _ (by simp only [ba];omega) (by simp [cW]) (by simp only [Option.some.injEq];rintro m rfl;exact⟨c0,c1⟩) (by simp) (by simp [ba,cW])⟩
    · rename_i x
      simp only [Option.some.injEq] at h;subst h
      obtain⟨c0,c1⟩:=di hc
      exact⟨⟨rfl,rfl,rfl⟩,fin _ (by simp [ba]) (by simp only [ba,cW];omega) (by simp) (by simp only [Option.some.injEq,ba];rintro m rfl;exact⟨c0,c1⟩) (by simp [ba,cW])⟩
    · rename_i x b
      simp only [Option.some.injEq] at h;subst h
      obtain⟨c0,c1,c2⟩:=di hc
      exact⟨⟨rfl,rfl,rfl⟩,fin _ (by simp only [ba];omega) (by simp only [ba,cW];omega) (by simp only [Option.some.injEq];rintro m rfl;exact⟨by omega,c2⟩) (by simp only [Option.some.injEq,ba];rintro m rfl;omega) (by simp [ba,cW])⟩
 · rename_i row l b c Ha K6 rU
   have hvl:vl=none:=by
    rcases eN Ha hl with⟨_,h⟩|⟨k,m,h,_⟩
    · exact h
    · cases h
   subst hvl
   obtain⟨kb,rfl⟩:∃kb,vh=some (.int kb b):=by
    rcases eN K6 hh with⟨h,_⟩|⟨k,m,h,h2⟩
    · cases h
    · cases h;exact⟨k,h2⟩
   obtain⟨kc,rfl⟩:∃kc,vm=some (.int kc c):=by
    rcases eN rU hm with⟨h,_⟩|⟨k,m,h,h2⟩
    · cases h
    · cases h;exact⟨k,h2⟩
   simp only [ae] at hx
   cases hs:bk T t row.length with
   |false=>simp [hs] at h
   |true=>
    simp only [hs,cond_true] at h
    obtain⟨e,ii,hu,gk,cz,gy⟩:=dH hT hs
    obtain⟨ad,cap,rfl,hle,wW⟩:=qH hx
    simp only [Option.some.injEq] at h;subst h
    obtain⟨c0,c1,c2⟩:=di hc
    subst c1
    have hb:(Instr.sliceBounds true l.length cap none (some (.int kb b)) (some (.int kc b))).run P w= .ok (0,b.toNat,b.toNat) w:=by
     simp [Instr.sliceBounds,run_sliceBound (P:=P) (w:=w) (k:=kc) (n:=b) (y:=cap) (by omega) (by omega),run_sliceBound (P:=P) (w:=w) (k:=kb) (n:=b) (y:=b.toNat) (by omega) (by omega)]
    have fQ:(Instr.sliceAt t (.slice ad l.length cap) none (some (.int kb b)) (some (.int kc b))).run P w=
      .ok (.slice (if b.toNat=0 then ad else ad.map (·.add (0*ii.size))) (b.toNat-0) (b.toNat-0)) w:=by
     simp [Instr.sliceAt,Instr.slice,run_underlying hu,sizeOf,typeInfo,gk,hb]
    have hR:=IP hx 0 b.toNat (by omega) (by omega) (if b.toNat=0 then ad else ad.map (·.add (0*ii.size))) (fun _=>by
     by_cases hz:b.toNat=0
     · rw [if_pos hz];cases ad<;>simp [Addr.add]
     · rw [if_neg hz];cases ad<;>simp [Addr.add])
    have hlen:((l.take b.toNat).drop 0).length=b.toNat:=by rw [List.drop_zero,List.length_take];omega
    simp only [Rd] at hR
    obtain⟨a0,amZ,cs,g1,g2,g3,g4,g5⟩:=hR
    simp only [Value.slice.injEq] at g1
    obtain⟨g6,g7,g8⟩:=g1
    rw [List.drop_zero] at hlen g4
    rw [g6,Nat.sub_zero] at fQ
    refine⟨⟨rfl,rfl,rfl⟩, .slice a0 b.toNat b.toNat,fQ,?_⟩
    simp only [ae,Rd]
    refine⟨⟨a0,b.toNat,cs,?_,by omega,by omega,g4,g5⟩,a0,?_⟩<;>rw [hlen]
 · rename_i k vK iE Ha K6 rU
   have SK:vm=none:=by
    rcases eN rU hm with⟨_,h⟩|⟨k,m,h,_⟩
    · exact h
    · cases h
   subst SK
   have iK:=eN Ha hl
   have QR:=eN K6 hh
   split at h
   · rename_i e' row l fr hk
     cases hs:bk T t row.length with
     |false=>simp [hs] at h
     |true=>
      simp only [hs,cond_true] at h
      obtain⟨e,ii,hu,gk,cz,gy⟩:=dH hT hs
      simp only [ae] at hx
      obtain⟨rfl,_⟩:=hx
      have fin:(ba l.length iE≤l.length)→(cW vK≤ba l.length iE)→(∀m,iE=some m→0≤m∧m≤(l.length:Int))→(∀m,vK=some m→0≤m∧m≤(ba l.length iE:Int))→
        (β k= .slice none 0 0∧l= []∧(Instr.sliceAt t (β k) vl vh none).run P w= .ok (.slice none 0 0) w)∨∃b cap yr,β k= .slice (some ⟨b,0,none⟩) l.length cap∧(l.length≤cap∧cap≤maxLen)∧
          (Instr.sliceAt t (β k) vl vh none).run P w= .ok (.slice yr (ba l.length iE-cW vK) (cap-cW vK)) w∧(cW vK<cap→yr=some ⟨b,cW vK*row.length,none⟩)∧(cW vK=0→yr=some ⟨b,0,none⟩):=by
       intro h1 Ĕ h2 h3
       rcases dI hB hk with⟨g1,g2⟩|⟨b,cap,cur,g1,_,g3,g4,_⟩
       · subst g2
         have hb:=jd (P:=P) (w:=w) (s:=true) (cap:=0) iK QR (Nat.le_refl _) h2 h3
         have hz:ba 0 iE=0:=by simpa using h1
         have hz2:cW vK=0:=by simp only [List.length_nil] at Ĕ;omega
         refine .inl ⟨g1,rfl,?_⟩
         rw [g1,mJ hu gk none 0 0 hb,hz,hz2]
         simp
       · have hb:=jd (P:=P) (w:=w) (s:=true) (cap:=cap) iK QR g3 h2 h3
         refine .inr ⟨b,cap,_,g1,⟨g3,g4⟩,by rw [g1];exact mJ hu gk (some ⟨b,0,none⟩) l.length cap hb,fun dX=> ?_,fun hz=> ?_⟩
         · rw [if_neg (by omega),cz];simp [Addr.add_mid]
         · split
           · rfl
           · rw [hz];simp [Addr.add]
      split at h
      · simp only [Option.some.injEq] at h;subst h
        rcases fin (by simp [ba]) (by simp [cW]) (by simp) (by simp) with⟨g1,g2,g3⟩|⟨b,cap,yr,g1,g2,g3,_,g5⟩
        · exact⟨⟨rfl,rfl,rfl⟩,_,g3,by simp only [ae];exact⟨g1.symm,rfl⟩⟩
        · refine⟨⟨rfl,rfl,rfl⟩,_,g3,?_⟩
          simp only [ae]
          rw [g5 rfl,g1];simp [ba,cW,Value.oneCell']
      · rename_i b
        simp only [Option.some.injEq] at h;subst h
        obtain⟨c0,c1⟩:=di hc
        rcases fin (by simp only [ba];omega) (by simp [cW]) (by simp only [Option.some.injEq];rintro m rfl;exact⟨c0,c1⟩) (by simp) with⟨g1,g2,g3⟩|⟨bb,cap,yr,g1,g2,g3,_,g5⟩
        · refine⟨⟨rfl,rfl,rfl⟩,_,g3,?_⟩
          simp only [ae]
          refine .inl ⟨g1,trivial,?_⟩
          subst g2;simp at c1;omega
        · refine⟨⟨rfl,rfl,rfl⟩,_,g3,?_⟩
          simp only [ae]
          rw [g5 rfl]
          exact .inr ⟨bb,_,cap,g1,by simp [ba,cW],by omega⟩
      · rename_i x
        simp only [Option.some.injEq] at h;subst h
        obtain⟨c0,c1⟩:=di hc
        rcases fin (by simp [ba]) (by simp only [ba,cW];omega) (by simp) (by simp only [Option.some.injEq,ba];rintro m rfl;exact⟨c0,c1⟩) with⟨g1,g2,g3⟩|⟨bb,cap,yr,g1,g2,g3,g4,_⟩
        · refine⟨⟨rfl,rfl,rfl⟩,_,g3,?_⟩
          simp only [ae]
          subst g2
          exact .inl ⟨by simp,none,0,rfl,by simp⟩
        · refine⟨⟨rfl,rfl,rfl⟩,_,g3,?_⟩
          simp only [ae,ba,cW] at g4 ⊢
          by_cases hz:l.length-x.toNat=0
          · exact .inl ⟨hz,yr,_,by rw [hz],by omega⟩
          · exact .inr ⟨bb,_,cap,cap-x.toNat,g1,by rw [g4 (by omega)],by omega,by omega,by omega⟩
      · rename_i x b
        simp only [Option.some.injEq] at h;subst h
        obtain⟨c0,c1,c2⟩:=di hc
        rcases fin (by simp only [ba];omega) (by simp only [ba,cW];omega) (by simp only [Option.some.injEq];rintro m rfl;exact⟨by omega,c2⟩) (by simp only [Option.some.injEq,ba];rintro m rfl;omega) with⟨g1,g2,g3⟩|⟨bb,cap,yr,g1,g2,g3,g4,_⟩
        · refine⟨⟨rfl,rfl,rfl⟩,_,g3,?_⟩
          simp only [ae]
          subst g2
          exact .inl ⟨by simp at c2;omega,none,0,rfl,by simp⟩
        · refine⟨⟨rfl,rfl,rfl⟩,_,g3,?_⟩
          simp only [ae,ba,cW] at g4 ⊢
          by_cases hz:b.toNat-x.toNat=0
          · exact .inl ⟨hz,yr,_,by rw [hz],by omega⟩
          · exact .inr ⟨bb,_,cap,cap-x.toNat,g1,by rw [g4 (by omega)],by omega,by omega,by omega⟩
   · cases h
 · cases h
end
end Go.Vg

end
section
namespace Go.Vg
open Go
section
variable {P:Program} {C:Ctx} {A:Nat→Prop} {β:Nat→Value} {st:St} {a:Act} {w:World} {T:b9}
theorem Hc:∀(t:Ty) (v:Value) (x:D t),Rd w A t v x→v.oneCell'=true
 | .int _,v,x,h=>by simp only [Rd] at h;rw [h.1];rfl
 | .bool,v,x,h=>by simp only [Rd] at h;rw [h];rfl
 | .str,v,x,h=>by simp only [Rd] at h;rw [h.1];rfl
 | .slice _,v,x,h=>by simp only [Rd] at h;obtain⟨_,_,_,h1,_⟩:=h;rw [h1];rfl
theorem sh:∀(ts:List Ty) (vs:List Value) (x:Row ts),bg w A ts vs x→∀v∈vs,v.oneCell'=true
 | [],vs,_,h=>by simp only [bg] at h;subst h;simp
 |t::ts,vs,x,h=>by
  simp only [bg] at h
  obtain⟨v,bX,rfl,h1,h2⟩:=h
  intro u hu
  rcases List.mem_cons.1 hu with rfl|hu
  · exact Hc t _ _ h1
  · exact sh ts bX _ h2 u hu
theorem si {row:List Ty}:∀(l:List (Row row)) (cs:List Value),bW (bg w A row) cs l→∀v∈cs,v.oneCell'=true
 | [],cs,h=>by simp only [bW] at h;subst h;simp
 |x::l,cs,⟨c1,c2,hc,h1,h2⟩=>by
  subst hc
  intro u hu
  rcases List.mem_append.1 hu with hu|hu
  · exact sh row c1 x h1 u hu
  · exact si l c2 h2 u hu
theorem gz {r r':List Ty} {l:List (Row r)} {l':List (Row r')}(h:dR r r' l=some l'):∃e:r=r',e▸l=l':=by
 unfold dR at h
 split at h
 · rename_i hb
   simp only [Option.some.injEq] at h
   exact⟨Ty.iG r r' hb,h⟩
 · cases h
structure Src (P:Program) (w:World) (A:Nat→Prop) (row:List Ty) (m:List (Row row)) (v:Value) (cs:List Value):Prop where
 rd:bW (bg w A row) cs m
 len:(Builtin.lenOf v).run P w= .ok m.length w
 first :∀w':World,w'.heap=w.heap→∀n,n≤m.length→(Builtin.firstCells row.length n v).run P w'= .ok (cs.take (n*row.length)).toArray w'
 max:m.length≤maxLen
theorem AZ {w w':World}(h:w'.heap=w.heap)(p:Addr):w'.cell? p=w.cell? p:=by simp [World.cell?,h]
theorem ly {row:List Ty} {m:List (Row row)} {cs:List Value} {ad:Option Addr} {cap:Nat}(pG:bW (bg w A row) cs m)(cQ:cs≠ []→∃b o,ad=some ⟨b,o,none⟩∧w.rangeAt b o cs)(IN:m.length≤maxLen):
  Src P w A row m (.slice ad m.length cap) cs:=by
 refine⟨pG,by simp [Builtin.lenOf],fun w' hw n hn=> ?_,IN⟩
 have hlen:=dP m cs pG
 by_cases h0:cs= []
 · subst h0
   simp only [List.length_nil] at hlen
   have hz:n*row.length=0:=by
    rcases Nat.eq_zero_or_pos n with h|h
    · simp [h]
    · have :m.length*row.length=0:=hlen.symm
      rcases Nat.mul_eq_zero.1 this with h'|h'
      · omega
      · simp [h']
   cases ad with
   |none=>simp [Builtin.firstCells]
   |some p=>simp [Builtin.firstCells,hz,loadCells,loadCellsFrom]
 · obtain⟨b,o,rfl,hr⟩:=cQ h0
   have dX:(cs.take (n*row.length)).length=n*row.length:=by
    rw [List.length_take,hlen]
    exact Nat.min_eq_left (Nat.mul_le_mul_right _ hn)
   have :=run_loadCells_list (P:=P) w' ⟨b,o,none⟩ (cs.take (n*row.length)) (fun j v hv=>by
    rw [Addr.add_mid,AZ hw]
    exact gd hr j v hv)
   rw [dX] at this
   simp only [Builtin.firstCells,this]
theorem A3 {row:List Ty}:Src P w A row ([]:List (Row row)) (.slice none 0 0) []:=
 ly (m:=([]:List (Row row))) (by simp [bW]) (fun h=>absurd rfl h) (by simp)
theorem aof {row:List Ty} {l:List (Row row)} {v:Value}(h:Rd w A (.slice row) v l):∃cs,Src P w A row l v cs:=by
 simp only [Rd] at h
 obtain⟨ad,cap,cs,rfl,h2,h3,h4,h5⟩:=h
 exact⟨cs,ly h4 (fun dp=>let⟨b,o,h1,_,h2⟩:=h5 dp;⟨b,o,h1,h2⟩) (by omega)⟩
theorem A4(s:List UInt8):bW (bg w A [.int .u8]) (s.map fun b=>Value.int .u8 (b.toNat:Int)) s:=by
 induction s with
 |nil=>simp [bW]
 |cons b s ih=>
  refine⟨[.int .u8 (b.toNat:Int)],s.map fun b=>Value.int .u8 (b.toNat:Int),rfl,?_,ih⟩
  simp only [bg,Rd]
  refine⟨_,[],rfl,⟨rfl,?_,?_⟩,rfl⟩
  · simp [lo,Row.hd,DI.toInt]
  · have :=b.toNat_lt
    simp only [hi,Row.hd,DI.toInt];omega
theorem SL(s:List UInt8)(hs:s.length≤maxLen):Src P w A [.int .u8] s (.string ⟨s.toArray⟩) (s.map fun b=>Value.int .u8 (b.toNat:Int)):=by
 refine⟨A4 s,by simp [Builtin.lenOf,af2],fun w' hw n hn=> ?_,hs⟩
 simp only [Builtin.firstCells,List.length_singleton,Nat.mul_one,Sem.run_pure]
 congr 1
 rw [wV s 0 n hn]
 apply Array.ext'
 simp [List.map_take]
theorem j4 {k e:Nat} {row:List Ty} {l:List (Row row)} {fr:Bool}(hB:aE C A β st a w)(h:st.h k=some (.row e row l fr)):
  (β k= .slice none 0 0∧l= [])∨∃b cap cs,β k= .slice (some ⟨b,0,none⟩) l.length cap∧l.length≤cap∧cap≤maxLen∧bW (bg w A row) cs l∧w.rangeAt b 0 cs:=by
 rcases dI hB h with h|⟨b,cap,cur,h1,h2,h3,h4,h5,h6,_⟩
 · exact .inl h
 · refine .inr ⟨b,cap,_,h1,h3,h4,h6,fun j v hj=> ?_⟩
   rw [List.getElem?_take] at hj
   split at hj
   · simp [World.cell?,h2];simpa using hj
   · cases hj
theorem Aq(hB:aE C A β st a w) {x:AV} {v:Value}(hx:ae w A β v x) {row:List Ty} {m:List (Row row)}(h:jA st.h row x=some m):∃cs,Src P w A row m v cs:=by
 unfold jA at h
 split at h
 · rename_i s
   obtain⟨e,h⟩:=gz h
   subst e
   simp only at h;subst h
   simp only [ae] at hx
   obtain⟨rfl,hs⟩:=hx
   exact⟨_,SL s hs⟩
 · simp only [Option.some.injEq] at h
   subst h
   simp only [ae] at hx;subst hx
   exact⟨[],A3⟩
 · rename_i h1 h2
   have key:∀r (l:List (Row r)),(eT st.h x).1= .sl r l→dR r row l=some m→∃cs,Src P w A row m v cs:=by
    intro r l hp hc
    obtain⟨e,hc⟩:=gz hc
    subst e
    simp only at hc;subst hc
    unfold eT at hp
    split at hp
    · rename_i k
      simp only [ae] at hx
      split at hp
      · rename_i e' gO l' fr hk
        simp only [AV.sl.injEq] at hp
        obtain⟨rfl,hp⟩:=hp
        simp only [heq_eq_eq] at hp;subst hp
        rcases j4 hB hk with⟨g1,g2⟩|⟨b,cap,cs,g1,g2,g3,g4,g5⟩
        · subst g2;rw [hx.1,g1];exact⟨[],A3⟩
        · rw [hx.1,g1];exact⟨cs,ly g4 (fun _=>⟨b,0,rfl,g5⟩) (by omega)⟩
      · cases hp
    · rename_i k n
      simp only [ae] at hx
      split at hp
      · rename_i e' gO l' fr hk
        simp only [AV.sl.injEq] at hp
        obtain⟨rfl,hp⟩:=hp
        simp only [heq_eq_eq] at hp;subst hp
        rcases j4 hB hk with⟨g1,g2⟩|⟨b,cap,cs,g1,g2,g3,g4,g5⟩
        · subst g2
          rcases hx with⟨_,hv,hn⟩|⟨b,m,cap,hv,_⟩
          · subst hn;rw [hv];exact⟨[],by have :=A3 (P:=P) (w:=w) (A:=A) (row:=gO);simpa using this⟩
          · rw [g1] at hv;cases hv
        · rcases hx with⟨hv,_,_⟩|⟨b',m,gx,hv,vH,hle⟩
          · rw [g1] at hv;cases hv
          · rw [g1] at hv
            simp only [Value.slice.injEq,Option.some.injEq,Addr.mk.injEq,and_true] at hv
            obtain⟨rfl,rfl,rfl⟩:=hv
            have hl:(l'.take n).length=n:=by simp;omega
            rw [vH]
            have :=ly (P:=P) (ad:=some ⟨b,0,none⟩) (cap:=cap) (dq l' cs n g4).1 (fun _=>⟨b,0,rfl,gd g5⟩) (by omega)
            rw [hl] at this
            exact⟨_,this⟩
      · cases hp
    · rename_i k sz off n
      simp only [ae] at hx
      split at hp
      · rename_i e' gO l' fr hk
        cases cz:Nat.beq sz gO.length with
        |false=>simp [cz] at hp
        |true=>
         have cz:=Nat.eq_of_beq_eq_true cz
         subst cz
         simp only [bD,cond_true,AV.sl.injEq] at hp
         obtain⟨rfl,hp⟩:=hp
         simp only [heq_eq_eq] at hp;subst hp
         rcases hx with⟨hn,ad,cap,hv,_⟩|⟨b',m,gx,sc,hv,vH,hle,amV,apC⟩
         · subst hn;rw [hv]
           have :=ly (P:=P) (w:=w) (A:=A) (row:=gO) (m:= []) (ad:=ad) (cap:=cap) (cs:= []) (by simp [bW]) (fun h=>absurd rfl h) (by simp)
           exact⟨[],by simpa using this⟩
         · rcases j4 hB hk with⟨g1,g2⟩|⟨b,cap,cs,g1,g2,g3,g4,g5⟩
           · rw [g1] at hv;cases hv
           · rw [g1] at hv
             simp only [Value.slice.injEq,Option.some.injEq,Addr.mk.injEq,and_true] at hv
             obtain⟨rfl,rfl,rfl⟩:=hv
             have hl:((l'.drop off).take n).length=n:=by simp;omega
             rw [vH]
             have :=ly (P:=P) (ad:=some ⟨b,off*gO.length,none⟩) (cap:=sc) (dq _ _ n (dq l' cs off g4).2).1 (fun _=>⟨b,_,rfl,by have :=gd (n:=n*gO.length) (lS (n:=off*gO.length) g5);simpa using this⟩) (by omega)
             rw [hl] at this
             exact⟨_,this⟩
      · cases hp
    · rename_i K4 hn2 hn3
      simp only at hp
      subst hp
      simp only [ae] at hx
      exact aof hx
   split at h
   · rename_i r l hp
     exact key r l hp h
   · rename_i r l hp
     have wX:x= .full r l:=by
      unfold eT at hp
      split at hp
      · split at hp<;>cases hp
      · split at hp<;>cases hp
      · split at hp
        · rename_i sz _ _ _ _ gO _ _ _
          cases cz:Nat.beq sz gO.length<;>simp [cz] at hp
        · cases hp
      · exact hp
     subst wX
     simp only [ae] at hx
     obtain⟨e,hc⟩:=gz h
     subst e
     simp only at hc;subst hc
     exact aof hx.1
   · cases h
end
end Go.Vg

end
section
namespace Go.Vg
open Go
section
variable {P:Program} {C:Ctx} {A:Nat→Prop} {β:Nat→Value} {st:St} {a:Act} {w:World} {T:b9}
structure MT (P:Program) (t t' e:TypeId) (size bytes:Nat) (z:Value):Prop where
 under:P.underlying t=some (.slice e)
 apu:∃d,P.underlying t'=some d∧(d= .string∨∃e',d= .slice e')
 info:∃i,P.info? e=some i∧i.size=size∧i.bytes=bytes∧i.zero=some z
 SM:z.cells.size=size
 pos:0<size
theorem kH {t t' ty e:TypeId} {size bytes:Nat} {z:Value}(hE:MT P t t' e size bytes z) {base:Option Addr} {n cap:Nat} {adS:List Value} {x:Value} {m:Nat} {news:List Value}
  (hold:∀w':World,w'.heap=w.heap→(Builtin.firstCells size n (.slice base n cap)).run P w'= .ok adS.toArray w')
  (hlen:(Builtin.lenOf x).run P w= .ok m w) (fR:∀w':World,w'.heap=w.heap→(Builtin.firstCells size m x).run P w'= .ok news.toArray w')
  (hg:cap<n+m) (IQ:n+m≤maxLen) (tZ:(n+m)*bytes≤140737488355328):
  (Builtin.append_ #[t,t'] ty #[.slice base n cap,x]).run P w=
    .ok (.slice (some ⟨w.heap.size,0,none⟩) (n+m) (grownCap w (n+m) cap e))
      (w.drew.alloc (.cells (adS.toArray++(news.toArray++Builtin.zeroCells z.cells (grownCap w (n+m) cap e-(n+m)))) e)):=by
 obtain⟨hu,⟨d',A5,oJ⟩,⟨i,hi,hs,hb,hz⟩,Ed,gy⟩:=hE
 subst hs;subst hb
 have hn:¬(n+m≤cap):=by omega
 have adT:¬(9223372036854775807<((n:Int)+(m:Int))):=by unfold maxLen at IQ;omega
 have h48:=growslice_fits hg tZ
 have adU:¬(281474976710656<Builtin.nextslicecap (n+m) cap*i.bytes):=by omega
 have SE:=hold w.drew rfl
 have hf:=fR w.drew rfl
 rcases oJ with rfl|⟨e',rfl⟩
 · simp [Builtin.append_,run_underlying hu,run_underlying A5,sizeOf,typeInfo,zeroValue,hi,hz,hlen,hn,adT,adU,Question.forced,hf,SE,newRow,grownCap]
 · simp [Builtin.append_,run_underlying hu,run_underlying A5,sizeOf,typeInfo,zeroValue,hi,hz,hlen,hn,adT,adU,Question.forced,hf,SE,newRow,grownCap]
theorem wY {t t' ty e:TypeId} {size bytes:Nat} {z:Value}(hE:MT P t t' e size bytes z) {g n cap:Nat} {cur:Array Value}(hg:w.heap[g]? =some (.cells cur e (0,0))) {x:Value} {m:Nat} {news:List Value}
  (hlen:(Builtin.lenOf x).run P w= .ok m w) (fR:∀w':World,w'.heap=w.heap→(Builtin.firstCells size m x).run P w'= .ok news.toArray w')
  (hl:news.length=m*size) (h1:∀u∈news,u.oneCell'=true) (vL:n+m≤cap) (cQ:cur.size=cap*size):
  (Builtin.append_ #[t,t'] ty #[.slice (some ⟨g,0,none⟩) n cap,x]).run P w=
    .ok (.slice (some ⟨g,0,none⟩) (n+m) cap) (w.setRow g (cur.toList.take (n*size)++news++cur.toList.drop (n*size+news.length)).toArray):=by
 obtain⟨hu,⟨d',A5,oJ⟩,⟨i,hi,hs,hb,hz⟩,Ed,gy⟩:=hE
 subst hs;subst hb
 have oU:n*i.size+news.length≤cur.size:=by rw [hl,cQ,←Nat.add_mul];exact Nat.mul_le_mul_right _ vL
 have kI:=run_storeCells_at P g (n*i.size) e news 0 cur w hg (by simpa using oU) h1
 simp only [Nat.add_zero] at kI
 have hf:=fR w rfl
 rcases oJ with rfl|⟨e',rfl⟩
 · simp [Builtin.append_,run_underlying hu,run_underlying A5,sizeOf,typeInfo,hi,hlen,vL,hf,Addr.add_lit,kI]
 · simp [Builtin.append_,run_underlying hu,run_underlying A5,sizeOf,typeInfo,hi,hlen,vL,hf,Addr.add_lit,kI]
theorem lz {t t' ty e:TypeId} {size bytes:Nat} {z:Value}(hE:MT P t t' e size bytes z) {v:Value} {n:Nat} {xs:List Value}(fj:w.ownsRow 0 e size v n xs) {x:Value} {m:Nat} {news:List Value}
  (hlen:(Builtin.lenOf x).run P w= .ok m w) (fR:∀w':World,w'.heap=w.heap→(Builtin.firstCells size m x).run P w'= .ok news.toArray w')
  (hl:news.length=m*size) (h1:∀u∈news,u.oneCell'=true) (IQ:n+m≤maxLen) (tZ:(n+m)*bytes≤140737488355328):
  ∃v' w',(Builtin.append_ #[t,t'] ty #[v,x]).run P w= .ok v' w'∧w'.ownsRow 0 e size v' (n+m) (xs++news)∧w.grownBy w' v.ownBlock∧∀b,ax v'=some b→ax v=some b∨w.heap.size≤b:=by
 have He:(xs++news).length=(n+m)*size:=by rw [List.length_append,fj.1,hl,Nat.add_mul]
 have grown:∀(old:Nat) (row:Option Nat),
   (w.drew.alloc (.cells (xs.toArray++(news.toArray++Builtin.zeroCells z.cells (grownCap w (n+m) old e-(n+m)))) e)).ownsRow 0 e size
     (.slice (some ⟨w.heap.size,0,none⟩) (n+m) (grownCap w (n+m) old e)) (n+m) (xs++news)∧
   w.grownBy (w.drew.alloc (.cells (xs.toArray++(news.toArray++Builtin.zeroCells z.cells (grownCap w (n+m) old e-(n+m)))) e)) row:=by
  intro old row
  have zZ:=grownCap_ge w (n+m) old e
  have yv:grownCap w (n+m) old e≤maxLen:=grownCap_le_maxLen w (n+m) old e IQ
  refine⟨⟨He, .inr ⟨w.heap.size,_,_,rfl,by omega,heap_alloc_new w.drew _,zZ,yv,?_,?_⟩⟩,⟨rfl,rfl,rfl,by simp,fun k hk _=>heap_alloc_old w.drew _ k hk⟩⟩
  · simp only [Array.size_append,List.size_toArray,size_zeroCells,hE.SM,fj.1,hl,←Nat.add_mul]
    congr 1
    omega
  · simp only [Array.toList_append]
    rw [←List.append_assoc,←He]
    exact List.take_left
 rcases fj.2 with⟨rfl,rfl⟩|⟨g,cap,cur,rfl,hbg,hg,hnc,yv,cQ,ae8⟩
 · have hx:xs= []:=List.eq_nil_of_length_eq_zero (by simpa using fj.1)
   subst hx
   by_cases hm:m=0
   · subst hm
     have hn:news= []:=List.eq_nil_of_length_eq_zero (by simpa using hl)
     subst hn
     refine⟨.slice none 0 0,w,?_,by simpa using World.ownsRow_nil w 0 e size,⟨rfl,rfl,rfl,Nat.le_refl _,fun _ _ _=>rfl⟩,by simp [ax]⟩
     obtain⟨hu,⟨d',A5,oJ⟩,⟨i,hi,hs,hb,hz⟩,Ed,gy⟩:=hE
     subst hs
     have hf:=fR w rfl
     rcases oJ with rfl|⟨e',rfl⟩
     · simp [Builtin.append_,run_underlying hu,run_underlying A5,sizeOf,typeInfo,hi,hlen,hf]
     · simp [Builtin.append_,run_underlying hu,run_underlying A5,sizeOf,typeInfo,hi,hlen,hf]
   · have hold:∀w':World,w'.heap=w.heap→(Builtin.firstCells size 0 (.slice none 0 0)).run P w'= .ok ([]:List Value).toArray w':=fun w' _=>by simp [Builtin.firstCells]
     have hr:=kH (ty:=ty) hE hold hlen fR (by omega) IQ tZ
     have SN:=grown 0 (Value.ownBlock (.slice none 0 0))
     exact⟨_,_,hr,SN.1,SN.2,fun b hb=> .inr (by simp only [ax,Option.some.injEq] at hb;omega)⟩
 · by_cases vL:n+m≤cap
   · have oU:n*size+news.length≤cur.size:=by rw [hl,cQ,←Nat.add_mul];exact Nat.mul_le_mul_right _ vL
     have hr:=wY (ty:=ty) hE hg hlen fR hl h1 vL cQ
     refine⟨_,_,hr,⟨He, .inr ⟨g,cap,_,rfl,hbg,setRow_heap w g cur _ e _ hg,vL,yv,?_,?_⟩⟩,⟨rfl,rfl,rfl,by simp,fun k _ hk=>setRow_other w g k _ (fun e=>hk (by simp [Value.ownBlock,e]))⟩,fun b hb=> .inl hb⟩
     · simp only [List.size_toArray,List.length_append,List.length_take,List.length_drop,Array.length_toList]
       omega
     · rw [ae8,←He]
       exact List.take_left
   · have holds:=fj.cells (g:=g) rfl
     have hold:∀w':World,w'.heap=w.heap→(Builtin.firstCells size n (.slice (some ⟨g,0,none⟩) n cap)).run P w'= .ok xs.toArray w':=fun w' SO=>by
      have :=run_loadCells_list (P:=P) w' ⟨g,0,none⟩ xs (fun j v hv=>by rw [AZ SO];exact holds j v hv)
      rw [fj.1] at this
      simpa [Builtin.firstCells] using this
     have hr:=kH (ty:=ty) hE hold hlen fR (by omega) IQ tZ
     have SN:=grown cap (Value.ownBlock (.slice (some ⟨g,0,none⟩) n cap))
     exact⟨_,_,hr,SN.1,SN.2,fun b hb=> .inr (by simp only [ax,Option.some.injEq] at hb;omega)⟩
theorem aE.newRow(hB:aE C A β st a w) {dst:Option Nat}(hd:∀t,dst=some t→t<st.n) {d e:Nat} {row:List Ty} {l:List (Row row)} {cond:List Prop} {del:List Nat} {v':Value} {w':World} {rw :Option Nat} {xs:List Value}
  (eZ:st.h d=none∧mW d=false) (hg:w.grownBy w' rw) (jx:∀b,rw=some b→∃k,aG del k=true∧(st.h k).isSome∧ax (β k)=some b) (iF:∀b,rw=some b→¬A b)
  (fj:w'.ownsRow 0 e row.length v' l.length xs) (pG:bW (bg w A row) xs l) (hblk:∀b,ax v'=some b→rw=some b∨w.heap.size≤b):
  aE C A (bx β d v') (st.put dst {cond:=cond,res:= .own d,del:=del,new:= [(d, .row e row l false)]}) (a.put dst v') w':=by
 have hK:cy w w' A A:=fun b hb=>⟨hb,hg.block b (hB.bound b hb) (fun h=>iF b h.symm hb)⟩
 have hf:∀k b,ar [(d,AB.row e row l false)] k=some b→k=d∧b= .row e row l false :=by
  intro k b h
  simp only [ar] at h
  by_cases hk:k=d
  · subst hk;simp only [bD,cond_true,Option.some.injEq] at h;exact⟨rfl,h.symm⟩
  · simp [aP hk] at h
 refine hB.step (out:= {cond:=cond,res:= .own d,del:=del,new:= [(d, .row e row l false)]}) hd ?_ (by simp [ar]) ?_ hK hg.os hg.tape hg.output hg.size ?_ (fun b hb=>Nat.lt_of_lt_of_le (hB.bound b hb) hg.size) (fun b hb=> .inl hb) (by simp [ar]) ?_ ?_ ?_ ?_
 · intro k b h;obtain⟨rfl,_⟩:=hf k b h;exact eZ
 · intro k h
   have :k≠d:=by rintro rfl;simp [ar] at h
   simp [bx,this]
 · intro b hb ht
   refine hg.block b hb (fun h=> ?_)
   obtain⟨k,h1,h2,h3⟩:=jx b h.symm
   exact ht k ⟨h2, .inr h1⟩ h3
 · intro k ab h
   obtain⟨rfl,rfl⟩:=hf k ab h
   refine⟨xs,by simpa [bx] using fj,br (fun c x hx=>bt hK row c x hx) l xs pG,fun b hb=> ?_⟩
   simp only [bx,if_true] at hb
   simp only [Bool.false_eq_true,if_false]
   rcases hblk b hb with h|h
   · exact iF b h
   · intro hA;exact absurd (hB.bound b hA) (by omega)
 · intro k b ab h hb
   obtain⟨rfl,_⟩:=hf k ab h
   simp only [bx,if_true] at hb
   rcases hblk b hb with h|h
   · exact .inr (let⟨k,h1,h2,h3⟩:=jx b h;⟨k,h1,h2,h3⟩)
   · exact .inl h
 · intro k k' b h h' _ _
   obtain⟨x,hx⟩:=Option.isSome_iff_exists.1 h
   obtain⟨y,hy⟩:=Option.isSome_iff_exists.1 h'
   rw [(hf k x hx).1,(hf k' y hy).1]
 · simp only [ae,bx,if_true,true_and]
   obtain⟨ad,l',c,rfl⟩:∃ad l c,v'= .slice ad l c:=by
    rcases fj.2 with⟨rfl,_⟩|⟨g,cap,cur,rfl,_⟩
    · exact⟨_,_,_,rfl⟩
    · exact⟨_,_,_,rfl⟩
   rfl
end
end Go.Vg

end
section
namespace Go.Vg
open Go
section
variable {P:Program} {C:Ctx} {A:Nat→Prop} {β:Nat→Value} {st:St} {a:Act} {w:World} {T:b9}
theorem wZ(hT:bw T P) {t e:TypeId} {te:TE}(h1:tW T t=some e)(h2:oN T t=some te):P.underlying t=some (.slice e)∧T.find e=some te∧∃i,P.info? e=some i∧i.size=te.size∧i.bytes=te.bytes∧i.zero=some te.zero:=by
 unfold tW at h1
 unfold oN at h2
 cases ht:T.find t with
 |none=>simp [ht] at h1
 |some tt=>
  simp only [ht] at h1 h2
  cases hd:tt.desc with
  |slice e'=>
   simp only [hd,Option.some.injEq] at h1 h2
   subst h1
   exact⟨by rw [iJ hT ht,hd],h2,(hT.ok _ _ h2).2⟩
  |_=>simp [hd] at h1
theorem sk(z:Value):(ofConst z).cells.length=z.cells.size:=by
 unfold ofConst
 split
 · simp [AV.cells,Value.cells]
 · rename_i h
   have h1:(qz z).cells.length=1:=by
    unfold qz
    split
    · split<;>rfl
    · split<;>rfl
    · rename_i s;cases Nat.ble s.data.toList.length 1000000<;>rfl
    all_goals rfl
   rw [h1]
   cases z<;>first|rfl|exact absurd rfl (h _)
theorem qI {n k x:Nat}(h:n≤x/k):n*k≤x:=Nat.le_trans (Nat.mul_le_mul_right _ h) (Nat.div_mul_le_self x k)
theorem nL(hT:bw T P) {t:TypeId} {f:TypeDesc→Bool}(h:acQ T t f=true):∃d,P.underlying t=some d∧f d=true :=by
 unfold acQ at h
 cases ht:T.find t with
 |none=>simp [ht] at h
 |some te=>simp only [ht] at h;exact⟨te.desc,iJ hT ht,h⟩
theorem K7 {d:TypeDesc}(h:Ao d=true):d= .string∨∃e,d= .slice e:=by
 cases d<;>simp_all [Ao]
theorem A6(hB:aE C A β st a w) {k e:Nat} {row:List Ty} {l:List (Row row)}(h:st.h k=some (.row e row l false)):
  ∃xs,w.ownsRow 0 e row.length (β k) l.length xs∧bW (bg w A row) xs l∧∀b,ax (β k)=some b→¬A b:=by
 obtain⟨xs,h1,h2,h3⟩:=hB.blocks k _ h
 exact⟨xs,h1,h2,fun b hb=>by simpa using h3 b hb⟩
theorem w2 {v:Value}(h:(∃ad l c,v= .slice ad l c)):v.ownBlock=ax v:=by
 obtain⟨ad,l,c,rfl⟩:=h
 cases ad<;>rfl
theorem nM {w:World} {e size n:Nat} {v:Value} {xs:List Value}(h:w.ownsRow 0 e size v n xs):∃ad l c,v= .slice ad l c:=by
 rcases h.2 with⟨rfl,_⟩|⟨g,cap,cur,rfl,_⟩
 · exact⟨_,_,_,rfl⟩
 · exact⟨_,_,_,rfl⟩
theorem Ee(hT:bw T P)(hB:aE C A β st a w) {dst:Option Nat}(hd:∀t,dst=some t→t<st.n) {d:Nat}(eZ:st.h d=none∧mW d=false) {t t' ty:TypeId} {s x:AV} {vs vx:Value}(hs:ae w A β vs s)(hx:ae w A β vx x) {out:Out}
  (h:lq T st.h d t t' s x=some out) (hc:∀p∈out.cond,p):∃v' w',(Builtin.append_ #[t,t'] ty #[vs,vx]).run P w= .ok v' w'∧Rel C (st.put dst out) (a.put dst v') w':=by
 unfold lq at h
 split at h
 · rename_i e te he lv
   split at h
   · rename_i row jx
     obtain⟨hu,Hf,i,hi,mQ,IS,K8⟩:=wZ hT he lv
     cases hq:(Nat.beq row.length te.size&&Nat.blt 0 te.size&&Nat.beq (ofConst te.zero).cells.length te.size&&acQ T t' Ao) with
     |false=>simp [hq] at h
     |true=>
      simp only [hq,cond_true] at h
      simp only [Bool.and_eq_true] at hq
      obtain⟨⟨⟨q1,q2⟩,q3⟩,q4⟩:=hq
      have q1:=Nat.eq_of_beq_eq_true q1
      have q2:=Nat.le_of_ble_eq_true q2
      have q3:=Nat.eq_of_beq_eq_true q3
      obtain⟨d',A5,oJ⟩:=nL hT q4
      have hE:MT P t t' e row.length te.bytes te.zero:=⟨hu,⟨d',A5,K7 oJ⟩,⟨i,hi,by omega,IS,K8⟩,by rw [←sk];omega,by omega⟩
      split at h
      · rename_i m hm
        obtain⟨cs,ew⟩:=Aq (P:=P) hB hx hm
        have hlen:=dP m cs ew.rd
        have gi:=si m cs ew.rd
        have fR:∀w':World,w'.heap=w.heap→(Builtin.firstCells row.length m.length vx).run P w'= .ok cs.toArray w':=fun w' SO=>by
         have :=ew.first w' SO m.length (Nat.le_refl _)
         rwa [←hlen,List.take_length] at this
        split at h
        ·
         simp only [Option.some.injEq] at h;subst h
         have lA:=di hc
         simp only [ae] at hs;subst hs
         have fj:=World.ownsRow_nil w 0 e row.length
         obtain⟨v',w',g1,g2,g3,g4⟩:=lz (ty:=ty) hE fj ew.len fR hlen gi (by have :=Nat.le_trans lA (Nat.div_le_self _ _);unfold maxLen;omega) (by simpa using qI lA)
         refine⟨v',w',g1,Rel.jB (hB.newRow hd eZ (rw :=none) (by simpa [Value.ownBlock] using g3) (by simp) (by simp) (by simpa using g2) ew.rd (fun b hb=> ?_))⟩
         rcases g4 b hb with h|h
         · simp [ax] at h
         · exact .inr h
        · rename_i k
          split at h
          · rename_i e' gO l hk
            cases pE:Nat.beq e' e with
            |false=>simp [pE] at h
            |true=>
             have pE:=Nat.eq_of_beq_eq_true pE
             subst pE
             simp only [bD,cond_true] at h
             split at h
             · rename_i l' iK
               simp only [Option.some.injEq] at h;subst h
               have lA:=di hc
               obtain⟨er,iK⟩:=gz iK
               subst er
               simp only at iK;subst iK
               simp only [ae] at hs;obtain⟨rfl,_⟩:=hs
               obtain⟨xs,o1,o2,o3⟩:=A6 hB hk
               obtain⟨v',w',g1,g2,g3,g4⟩:=lz (ty:=ty) hE o1 ew.len fR hlen gi (by have :=Nat.le_trans lA (Nat.div_le_self _ _);unfold maxLen;omega) (qI lA)
               rw [w2 (nM o1)] at g3
               refine⟨v',w',g1,Rel.jB (hB.newRow hd eZ (rw :=ax (β k)) g3 (fun b hb=>⟨k,by simp [aG],by simp [hk],hb⟩) o3 (by simpa using g2) (fP l m xs cs o2 ew.rd) (fun b hb=>g4 b hb))⟩
             · cases h
          · cases h
        · rename_i k n
          split at h
          · rename_i e' gO l hk
            cases pE:Nat.beq e' e with
            |false=>simp [pE] at h
            |true=>
             have pE:=Nat.eq_of_beq_eq_true pE
             subst pE
             simp only [bD,cond_true] at h
             split at h
             · rename_i l' iK
               simp only [Option.some.injEq] at h;subst h
               have lA:=di hc
               obtain⟨er,iK⟩:=gz iK
               subst er
               simp only at iK;subst iK
               obtain⟨xs,o1,o2,o3⟩:=A6 hB hk
               have vM:=dq l xs n o2
               simp only [ae] at hs
               have fj:w.ownsRow 0 e' gO.length vs n (xs.take (n*gO.length))∧n≤l.length∧ax vs=ax (β k):=by
                rcases hs with⟨h1,h2,h3⟩|⟨b,mm,cap,h1,h2,h3⟩
                · subst h3;subst h2;rw [h1]
                  exact⟨by simpa using World.ownsRow_nil w 0 e' gO.length,by omega,rfl⟩
                · rcases o1.2 with⟨g1,_⟩|⟨g,gx,cur,g1,g2,g3,g4,g5,g6,g7⟩
                  · rw [h1] at g1;cases g1
                  · rw [h1] at g1
                    simp only [Value.slice.injEq,Option.some.injEq,Addr.mk.injEq,and_true] at g1
                    obtain⟨rfl,rfl,rfl⟩:=g1
                    refine⟨⟨?_, .inr ⟨b,cap,cur,h2,by omega,g3,by omega,g5,g6,?_⟩⟩,h3,by rw [h1,h2];rfl⟩
                    · rw [List.length_take,o1.1]
                      exact Nat.min_eq_left (Nat.mul_le_mul_right _ h3)
                    · rw [←g7,List.take_take,Nat.min_eq_left (Nat.mul_le_mul_right _ h3)]
               obtain⟨fj,SP,SQ⟩:=fj
               obtain⟨v',w',g1,g2,g3,g4⟩:=lz (ty:=ty) hE fj ew.len fR hlen gi (by have :=Nat.le_trans lA (Nat.div_le_self _ _);unfold maxLen;omega) (qI lA)
               rw [w2 (nM fj),SQ] at g3
               refine⟨v',w',g1,Rel.jB (hB.newRow hd eZ (rw :=ax (β k)) g3 (fun b hb=>⟨k,by simp [aG],by simp [hk],hb⟩) o3 ?_ (fP _ m _ cs vM.1 ew.rd) (fun b hb=>by rw [←SQ];exact g4 b hb))⟩
               have :(l.take n++m).length=n+m.length:=by simp;omega
               rw [this];exact g2
             · cases h
          · cases h
        · rename_i r l
          split at h
          · rename_i l' iK
            simp only [Option.some.injEq] at h;subst h
            have hc0:=di hc
            have lA:=adR hc
            obtain⟨er,iK⟩:=gz iK
            subst er
            simp only at iK;subst iK
            simp only [ae] at hs
            obtain⟨pG,ad,rfl⟩:=hs
            obtain⟨K9,SR⟩:=aof (P:=P) pG
            have La:=dP l K9 SR.rd
            have hold:∀w':World,w'.heap=w.heap→(Builtin.firstCells r.length l.length (.slice ad l.length l.length)).run P w'= .ok K9.toArray w':=fun w' SO=>by
             have :=SR.first w' SO l.length (Nat.le_refl _)
             rwa [←La,List.take_length] at this
            have IQ:l.length+m.length≤maxLen:=by have :=Nat.le_trans lA (Nat.div_le_self _ _);unfold maxLen;omega
            have hr:=kH (ty:=ty) hE hold ew.len fR (by omega) IQ (qI lA)
            refine⟨_,_,hr,Rel.jB (hB.newRow hd eZ (rw :=none) (xs:=K9++cs) ⟨rfl,rfl,rfl,by simp,fun k hk _=>heap_alloc_old w.drew _ k hk⟩ (by simp) (by simp) ?_ (fP l m K9 cs SR.rd ew.rd) (fun b hb=> .inr (by simp only [ax,Option.some.injEq] at hb;omega)))⟩
            have zZ:=grownCap_ge w (l.length+m.length) l.length e
            have yv:=grownCap_le_maxLen w (l.length+m.length) l.length e IQ
            have QS:(K9++cs).length=(l.length+m.length)*r.length:=by rw [List.length_append,La,hlen,Nat.add_mul]
            rw [List.length_append]
            refine⟨QS, .inr ⟨w.heap.size,_,_,rfl,by omega,heap_alloc_new w.drew _,zZ,yv,?_,?_⟩⟩
            · simp only [Array.size_append,List.size_toArray,size_zeroCells,hE.SM,La,hlen,←Nat.add_mul]
              congr 1
              omega
            · simp only [Array.toList_append]
              rw [←List.append_assoc,←QS]
              exact List.take_left
          · cases h
        · cases h
      · cases h
   · cases h
 · cases h
end
end Go.Vg

end
section
namespace Go.Vg
open Go
section
variable {P:Program} {C:Ctx} {A:Nat→Prop} {β:Nat→Value} {st:St} {a:Act} {w:World} {T:b9}
theorem one_cell {v:Value}:∀(x:AV),x.one=true→ae w A β v x→v.oneCell'=true
 | .cF,h,_=>by simp [AV.one] at h
 | .undef,h,_=>by simp [AV.one] at h
 | .agg _,h,_=>by simp [AV.one] at h
 | .dc _,h,_=>by simp [AV.one] at h
 | .int _ _,_,h=>by simp only [ae] at h;rw [h.1];rfl
 | .bool _,_,h=>by simp only [ae] at h;rw [h];rfl
 | .tt,_,h=>by simp only [ae] at h;rw [h];rfl
 | .ff,_,h=>by simp only [ae] at h;rw [h];rfl
 | .str _,_,h=>by simp only [ae] at h;rw [h.1];rfl
 | .nil,_,h=>by simp only [ae] at h;rw [h];rfl
 | .ir,_,h=>by simp only [ae] at h;rw [h];rfl
 | .mP _ _,_,h=>by simp only [ae] at h;obtain⟨b,h,_⟩:=h;rw [h];rfl
 | .jG,_,h=>by simp only [ae] at h;rw [h];rfl
 | .sl _ _,_,h=>by simp only [ae] at h;exact Hc _ _ _ h
 | .full _ _,_,h=>by simp only [ae] at h;exact Hc _ _ _ h.1
 | .fu _ _ _,_,h=>by simp only [ae] at h;obtain⟨b,o,cs,h,_⟩:=h;rw [h];rfl
 | .nI _ _,_,h=>by simp only [ae] at h;obtain⟨b,o,cs,h,_⟩:=h;rw [h];rfl
 | .own _,_,h=>by simp only [ae] at h;exact h.2
 | .pre _ _,_,h=>by
   simp only [ae] at h
   rcases h with⟨_,h,_⟩|⟨b,m,cap,_,h,_⟩<;>rw [h]<;>rfl
 | .view _ _ _ _,_,h=>by
   simp only [ae] at h
   rcases h with⟨_,ad,c,h,_⟩|⟨b,m,cap,gx,_,h,_⟩<;>rw [h]<;>rfl
 | .ref _ _,_,h=>by simp only [ae] at h;obtain⟨b,_,h⟩:=h;rw [h];rfl
 | .elem _ _ _ _,_,h=>by simp only [ae] at h;obtain⟨b,m,cap,_,h⟩:=h;rw [h];rfl
 | .fn _ _ _,_,h=>by simp only [ae] at h;obtain⟨_,_,h,_⟩:=h;rw [h];rfl
theorem cells_one {v:Value}(h:v.oneCell'=true):v.cells= #[v]:=by
 cases v<;>simp_all [Value.oneCell',Value.cells]
theorem IT:∀(xs:List AV) (vs:List Value),xs.all AV.one=true→ai w A β vs xs→∀v∈vs,v.oneCell'=true
 | [],vs,_,h=>by simp only [ai] at h;subst h;simp
 |x::xs,vs,ho,h=>by
  simp only [ai] at h
  obtain⟨v,bX,rfl,h1,h2⟩:=h
  simp only [List.all_cons,Bool.and_eq_true] at ho
  intro u hu
  rcases List.mem_cons.1 hu with rfl|hu
  · exact one_cell x ho.1 h1
  · exact IT xs bX ho.2 h2 u hu
theorem qJ {x:AV} {v:Value}(ho:x.cells.all AV.one=true)(h:ae w A β v x):ai w A β v.cells.toList x.cells∧(∀u∈v.cells.toList,u.oneCell'=true)∧v.cells.size=x.cells.length:=by
 by_cases hx:∃cs,x= .agg cs
 · obtain⟨cs,rfl⟩:=hx
   simp only [ae] at h
   obtain⟨arr,rfl,h⟩:=h
   have :=cH cs _ h
   exact⟨h,IT cs _ ho h,by simpa [Value.cells,AV.cells] using this⟩
 · have hc:x.cells= [x]:=by cases x<;>first|rfl|exact absurd ⟨_,rfl⟩ hx
   rw [hc] at ho ⊢
   have ho':x.one=true :=by simpa using ho
   have h1:=one_cell x ho' h
   rw [cells_one h1]
   refine⟨by simp only [ai];exact⟨v,[],rfl,h,rfl⟩,by simpa using h1,rfl⟩
theorem dj:∀(xs ys:List AV) (us vs:List Value),ai w A β us xs→ai w A β vs ys→ai w A β (us++vs) (xs++ys)
 | [],ys,us,vs,h,h'=>by simp only [ai] at h;subst h;simpa using h'
 |x::xs,ys,us,vs,h,h'=>by
  simp only [ai] at h
  obtain⟨v,vG,rfl,h1,h2⟩:=h
  simp only [List.cons_append,ai]
  exact⟨v,vG++vs,rfl,h1,dj xs ys vG vs h2 h'⟩
theorem sm {cs vs:List AV} {arr us:List Value} {off:Nat}(h:ai w A β arr cs)(hv:ai w A β us vs):ai w A β (arr.take off++us++arr.drop (off+us.length)) (wE cs off vs):=by
 have hl:=cH vs us hv
 unfold wE
 rw [hl]
 exact dj _ _ _ _ (dj _ _ _ _ (fi cs arr off h).1 hv) (fi cs arr _ h).2
theorem nN(hT:bw T P) {t n:Nat}(h:jb T t n=true):∃i,P.info? t=some i∧i.size=n:=by
 unfold jb at h
 cases ht:T.find t with
 |none=>simp [ht] at h
 |some te=>
  simp only [ht] at h
  obtain⟨_,i,hi,hs,_⟩:=hT.ok t te ht
  exact⟨i,hi,hs.trans (Nat.eq_of_beq_eq_true h)⟩
theorem kJ {t:TypeId} {i:TypeInfo}(hi:P.info? t=some i) {v:Value}(hs:v.cells.size=i.size)(h1:∀u∈v.cells.toList,u.oneCell'=true) {b off:Nat} {arr:Array Value} {e:TypeId}(hg:w.heap[b]? =some (.cells arr e (0,0)))
  (oU:off+v.cells.size≤arr.size):(Instr.storeAt t (.pointer (some ⟨b,off,none⟩)) v).run P w= .ok () (w.setRow b (arr.toList.take off++v.cells.toList++arr.toList.drop (off+v.cells.toList.length)).toArray):=by
 have :=run_storeCells_at P b off e v.cells.toList 0 arr w hg (by simpa using oU) h1
 simp only [Nat.add_zero] at this
 simp [Instr.storeAt,Instr.sureAddr,storeVar,sizeOf,typeInfo,hi,hs,this]
theorem Ef(b:Nat)(cs:Array Value):(w.setRow b cs).os=w.os∧(w.setRow b cs).tape=w.tape∧(w.setRow b cs).output=w.output∧(w.setRow b cs).heap.size=w.heap.size:=⟨rfl,rfl,rfl,by simp⟩
theorem aE.write(hB:aE C A β st a w) {dst:Option Nat}(hd:∀t,dst=some t→t<st.n) {out:Out} {k b:Nat} {ab:AB} {fz:List Nat} {new:Array Value} {e:Nat} {old:Array Value} {v:Value}
  (eu:(st.h k).isSome) (hb:ax (β k)=some b) (iF:¬A b) (hg:w.heap[b]? =some (.cells old e (0,0)))
  (oR:out.new= []∧out.del= []∧out.fH=(k,ab)::b4 st.h fz) (vN:∀j∈fz,j≠k∧∃e row l fr,st.h j=some (.row e row l fr))
  (eV:∀A',(∀b',A b'→A' b')→(∀b',A' b'→A b'∨∃j∈fz,ax (β j)=some b')→(∀j∈fz,∀b',ax (β j)=some b'→A' b')→BR (w.setRow b new) A' β k ab)
  (pZ:ae (w.setRow b new) A β v out.res) (am1:out.raw= []:=by rfl):Rel C (st.put dst out) (a.put dst v) (w.setRow b new):=by
 obtain⟨o1,o2,o3⟩:=oR
 let A':Nat→Prop :=fun b'=>A b'∨∃j∈fz,ax (β j)=some b'
 have dX:∀j b',(st.h j).isSome→ax (β j)=some b'→b'<w.heap.size:=by
  intro j b' hj bu
  obtain⟨ab,eV⟩:=Option.isSome_iff_exists.1 hj
  have fm:=hB.blocks j ab eV
  cases ab with
  |arr row l=>
   obtain⟨b'',arr,e,h1,h2,_⟩:=fm
   rw [h1] at bu
   simp only [ax,Option.some.injEq] at bu
   subst bu
   exact(Array.getElem?_eq_some_iff.1 h2).1
  |cells cs=>
   obtain⟨b'',arr,e,h1,h2,_⟩:=fm
   rw [h1] at bu
   simp only [ax,Option.some.injEq] at bu
   subst bu
   exact(Array.getElem?_eq_some_iff.1 h2).1
  |row e row l fr=>
   obtain⟨xs,h1,_⟩:=fm
   rcases h1.2 with⟨hn,_⟩|⟨g,cap,cur,hv,_,hg,_⟩
   · rw [hn] at bu;simp [ax] at bu
   · rw [hv] at bu
     simp only [ax,Option.some.injEq] at bu
     subst bu
     exact(Array.getElem?_eq_some_iff.1 hg).1
  |fZ e j row l i=>
   obtain⟨xs,v0,h1,_⟩:=fm
   rcases h1.2 with⟨hn,_⟩|⟨g,cap,cur,hv,_,hg,_⟩
   · rw [hn] at bu;simp [ax] at bu
   · rw [hv] at bu
     simp only [ax,Option.some.injEq] at bu
     subst bu
     exact(Array.getElem?_eq_some_iff.1 hg).1
  |views e j n m sz=>
   obtain⟨xs,h1,_⟩:=fm
   rcases h1.2 with⟨hn,_⟩|⟨g,cap,cur,hv,_,hg,_⟩
   · rw [hn] at bu;simp [ax] at bu
   · rw [hv] at bu
     simp only [ax,Option.some.injEq] at bu
     subst bu
     exact(Array.getElem?_eq_some_iff.1 hg).1
 have lU:∀b',b'≠b→(w.setRow b new).heap[b']? =w.heap[b']? :=fun b' h=>setRow_other w b b' new (fun h'=>h h')
 have hK0:cy w (w.setRow b new) A A:=fun b' h=>⟨h,lU b' (fun h'=>iF (h'▸h))⟩
 have hK:cy w (w.setRow b new) A A':=fun b' h=>⟨.inl h,lU b' (fun h'=>iF (h'▸h))⟩
 have Lb:cy (w.setRow b new) (w.setRow b new) A A':=fun b' h=>⟨.inl h,rfl⟩
 have QT:∀(fz:List Nat) j x,ar (b4 st.h fz) j=some x→j∈fz∧∃e row l fr,st.h j=some (.row e row l fr)∧x= .row e row l true :=by
  intro fz
  induction fz with
  |nil=>intro j x h;simp [b4,ar] at h
  |cons i fz ih=>
   intro j x h
   simp only [b4] at h
   split at h
   · rename_i e row l fr hi
     simp only [ar] at h
     by_cases yw:j=i
     · subst yw
       simp only [bD,cond_true,Option.some.injEq] at h
       exact⟨by simp,e,row,l,fr,hi,h.symm⟩
     · simp only [aP yw,cond_false] at h
       obtain⟨h1,h2⟩:=ih j x h
       exact⟨by simp [h1],h2⟩
   · obtain⟨h1,h2⟩:=ih j x h
     exact⟨by simp [h1],h2⟩
 have am2:∀(fz:List Nat) j,j∈fz→(∃e row l fr,st.h j=some (.row e row l fr))→(ar (b4 st.h fz) j).isSome:=by
  intro fz
  induction fz with
  |nil=>intro j h;simp at h
  |cons i fz ih=>
   intro j h hr
   simp only [b4]
   by_cases yw:j=i
   · subst yw
     obtain⟨e,row,l,fr,hr⟩:=hr
     simp [hr,ar]
   · have :=ih j ((List.mem_cons.1 h).resolve_left yw) hr
     split
     · simp only [ar,aP yw,cond_false];exact this
     · exact this
 have wS:∀j x,ar out.fH j=some x→(j=k∧x=ab)∨(j≠k∧j∈fz∧∃e row l fr,st.h j=some (.row e row l fr)∧x= .row e row l true):=by
  intro j x h
  rw [o3] at h
  simp only [ar] at h
  by_cases w7:j=k
  · subst w7;simp only [bD,cond_true,Option.some.injEq] at h;exact .inl ⟨rfl,h.symm⟩
  · simp only [aP w7,cond_false] at h
    obtain⟨h1,h2⟩:=QT fz j x h
    exact .inr ⟨w7,h1,h2⟩
 have IU:jI st out k:=⟨eu, .inl (by rw [o3];simp [ar])⟩
 refine⟨A',β,hB.step hd (by rw [o1];simp [ar]) ?_ (fun _ _=>rfl) hK rfl rfl rfl (by simp) ?_ ?_ ?_ ?_ (by rw [o1];simp [ar]) (by rw [o1];simp [ar]) (by rw [o1];simp [ar]) (gP Lb _ _ pZ) am1⟩
 · intro j x h
   rcases wS j x h with⟨rfl,_⟩|⟨_,_,e,row,l,fr,h,_⟩
   · exact eu
   · simp [h]
 · intro b' _ ht
   exact lU b' (fun h=>ht k IU (h▸hb))
 · intro b' h
   rw [(Ef b new).2.2.2]
   rcases h with h|⟨j,hj,Lc⟩
   · exact hB.bound b' h
   · obtain⟨_,e,row,l,fr,hr⟩:=vN j hj
     exact dX j b' (by simp [hr]) Lc
 · intro b' h
   rcases h with h|⟨j,hj,Lc⟩
   · exact .inl h
   · obtain⟨w7,hr⟩:=vN j hj
     refine .inr (.inr ⟨j,⟨by obtain⟨e,row,l,fr,hr⟩:=hr;simp [hr], .inl ?_⟩,Lc⟩)
     rw [o3]
     simp only [ar,aP w7,cond_false]
     exact am2 fz j hj hr
 · intro j x h _
   rw [o1]
   simp only [ct]
   rcases wS j x h with⟨rfl,rfl⟩|⟨w7,hj,e',row,l,fr,hr,rfl⟩
   · exact eV A' (fun _ h=> .inl h) (fun _ h=>h) (fun j hj b' h=> .inr ⟨j,hj,h⟩)
   · obtain⟨xs,h1,h2,h3⟩:=hB.blocks j _ hr
     have sn:∀b',ax (β j)=some b'→b'≠b:=fun b' h h'=>w7 (hB.apart j k b (by simp [hr]) eu (h'▸h) hb)
     refine⟨xs,fg h1 (fun b' h=>lU b' (sn b' h)),br (fun c x hx=>bt hK row c x hx) l xs h2,fun b' h=> ?_⟩
     simp only [if_true]
     exact .inr ⟨j,hj,h⟩
theorem yx(hT:bw T P)(hB:aE C A β st a w) {dst:Option Nat}(hd:∀t,dst=some t→t<st.n) {t:TypeId} {k off:Nat} {x:AV} {vp vx:Value}(hp:ae w A β vp (.ref k off))(hx:ae w A β vx x) {out:Out}
  (h:gu T st.h t (.ref k off) x=some out):∃w',(Instr.storeAt t vp vx).run P w= .ok () w'∧Rel C (st.put dst out) (a.put dst undef) w':=by
 simp only [gu] at h
 split at h
 · rename_i cs hk
   cases hq:(x.cells.all AV.one&&jb T t x.cells.length&&Nat.ble (off+x.cells.length) cs.length) with
   |false=>simp [hq] at h
   |true=>
    simp only [hq,cond_true,Option.some.injEq] at h
    subst h
    simp only [Bool.and_eq_true] at hq
    obtain⟨⟨q1,q2⟩,q3⟩:=hq
    have q3:=Nat.le_of_ble_eq_true q3
    obtain⟨i,hi,cz⟩:=nN hT q2
    obtain⟨c1,c2,c3⟩:=qJ q1 hx
    simp only [ae] at hp
    obtain⟨b,bT,rfl⟩:=hp
    obtain⟨b',arr,e,h1,h2,h3,h4,h5⟩:=hB.blocks k _ hk
    rw [bT] at h1
    simp only [Value.pointer.injEq,Option.some.injEq,Addr.mk.injEq,and_true] at h1
    subst h1
    have hlen:=cH cs _ h4
    have hb:ax (β k)=some b:=by rw [bT];rfl
    refine⟨_,kJ hi (by omega) c2 h2 (by rw [c3];simp at hlen;omega),?_⟩
    refine hB.write hd (k:=k) (fz:= []) (ab:= .cells (wE cs off x.cells)) (by simp [hk]) hb h3 h2 ⟨rfl,rfl,rfl⟩ (by simp) ?_ (by simp [ae])
    intro A' hA1 A7 hA3
    have hK:cy w (w.setRow b (arr.toList.take off++vx.cells.toList++arr.toList.drop (off+vx.cells.toList.length)).toArray) A A':=fun b' h=>⟨hA1 b' h,setRow_other w b b' _ (fun h'=>h3 (h'▸h))⟩
    refine⟨b,_,e,bT,setRow_heap w b arr _ e _ h2,fun h=> ?_,eY hK _ _ (sm h4 c1),?_⟩
    · rcases A7 b h with h|⟨j,hj,_⟩
      · exact h3 h
      · simp at hj
    · intro v hv
      rcases List.mem_append.1 hv with hv|hv
      · rcases List.mem_append.1 hv with hv|hv
        · exact h5 v (List.mem_of_mem_take hv)
        · exact c2 v hv
      · exact h5 v (List.mem_of_mem_drop hv)
 · cases h
end
end Go.Vg

end
section
namespace Go.Vg
open Go
section
variable {P:Program} {C:Ctx} {A A':Nat→Prop} {β:Nat→Value} {st:St} {a:Act} {w:World} {T:b9}
theorem EL {k:IntKind} {n:Int}(h:lo k≤n∧n≤hi k):DI.toInt k (DI.ofInt k n)=n:=by
 cases k<;>try rfl
 simp [lo,hi] at h
 simp only [DI.toInt,DI.ofInt,UInt8.toNat_ofNat']
 omega
theorem A8:∀(t:Ty) (x:AV) (v:Value) (d:D t),ae w A β v x→IG t x=some d→Rd w A t v d:=by
 intro t x v d h hd
 unfold IG at hd
 split at hd
 · rename_i k k' n
   split at hd
   · rename_i hk
     subst hk
     simp only [Option.some.injEq] at hd;subst hd
     simp only [ae] at h
     simp only [Rd,EL h.2]
     exact h
   · cases hd
 · simp only [Option.some.injEq] at hd;subst hd;simpa only [Rd,ae] using h
 · simp only [Option.some.injEq] at hd;subst hd;simpa only [Rd,ae] using h
 · simp only [Option.some.injEq] at hd;subst hd;simpa only [Rd,ae] using h
 · simp only [Option.some.injEq] at hd;subst hd;simpa only [Rd,ae] using h
 · obtain⟨e,hd⟩:=gz hd
   subst e;simp only at hd;subst hd
   simpa only [ae] using h
 · obtain⟨e,hd⟩:=gz hd
   subst e;simp only at hd;subst hd
   simp only [ae] at h;exact h.1
 · simp only [Option.some.injEq] at hd;subst hd
   simp only [ae] at h
   simp only [Rd]
   exact⟨none,0,[],by simpa using h,by simp,by simp,by simp [bW],by simp⟩
 · cases hd
theorem nO {t:Ty}:∀(ts:List Ty) (x:D t) (y:Row ts),Row.hd (Row.mk x y:Row (t::ts))=x
 | [],_,_=>rfl
 |_::_,_,_=>rfl
theorem so {t:Ty}:∀(ts:List Ty) (x:D t) (y:Row ts),Row.tl (Row.mk x y:Row (t::ts))=y
 | [],_,_=>rfl
 |_::_,_,_=>rfl
theorem nP:∀(ts:List Ty) (xs:List AV) (vs:List Value) (r:Row ts),ai w A β vs xs→jz ts xs=some r→bg w A ts vs r
 | [],[],vs,r,h,_=>by simpa only [ai,bg] using h
 |t::ts,x::xs,vs,r,h,hr=>by
  simp only [ai] at h
  obtain⟨v,bX,rfl,h1,h2⟩:=h
  simp only [jz] at hr
  split at hr
  · rename_i d y hd hy
    simp only [Option.some.injEq] at hr;subst hr
    simp only [bg]
    exact⟨v,bX,rfl,by rw [nO];exact A8 t x v d h1 hd,by rw [so];exact nP ts xs bX y h2 hy⟩
  · cases hr
 | [],_::_,_,_,_,hr=>by simp [jz] at hr
 |_::_,[],_,_,_,hr=>by simp [jz] at hr
theorem zm:∀(ts:List Ty) (r:Row ts) (j:Nat) (x:AV) (cs:List Value) (v:Value) (r':Row ts),bg w A ts cs r→ae w A β v x→setRow ts r j x=some r'→bg w A ts (cs.set j v) r'∧j<cs.length
 | [],_,_,_,_,_,_,_,_,hr=>by simp [setRow] at hr
 |t::ts,r,0,x,cs,v,r',h,hx,hr=>by
  simp only [bg] at h
  obtain⟨u,ei,rfl,h1,h2⟩:=h
  simp only [setRow] at hr
  split at hr
  · rename_i d hd
    simp only [Option.some.injEq] at hr;subst hr
    simp only [bg,List.set_cons_zero]
    exact⟨⟨v,ei,rfl,by rw [nO];exact A8 t x v d hx hd,by rw [so];exact h2⟩,by simp⟩
  · cases hr
 |t::ts,r,j+1,x,cs,v,r',h,hx,hr=>by
  simp only [bg] at h
  obtain⟨u,ei,rfl,h1,h2⟩:=h
  simp only [setRow] at hr
  split at hr
  · rename_i y hy
    simp only [Option.some.injEq] at hr;subst hr
    obtain⟨g1,g2⟩:=zm ts _ j x ei v y h2 hx hy
    simp only [bg,List.set_cons_succ]
    exact⟨⟨u,_,rfl,by rw [nO];exact h1,by rw [so];exact g1⟩,by simp [g2]⟩
  · cases hr
theorem IV(cs:List Value)(j:Nat)(v:Value)(us:List Value)(h:j<cs.length):(cs.set j v).take (j+1)++us++(cs.set j v).drop (j+1+us.length)=cs.take j++(v::us)++cs.drop (j+(v::us).length):=by
 have e1:(cs.set j v).take (j+1)=cs.take j++ [v]:=by
  rw [List.take_succ_eq_append_getElem (by simpa using h)]
  simp [List.take_set_of_le]
 have e2:(cs.set j v).drop (j+1+us.length)=cs.drop (j+(us.length+1)):=by
  rw [List.drop_set_of_lt (by omega)]
  congr 1;omega
 rw [e1,e2];simp
theorem qK(ts:List Ty):∀(xs:List AV) (r:Row ts) (j:Nat) (cs us:List Value) (r':Row ts),bg w A ts cs r→ai w A β us xs→me ts r j xs=some r'→bg w A ts (cs.take j++us++cs.drop (j+us.length)) r'∧(us≠ []→j+us.length≤cs.length)
 | [],r,j,cs,us,r',h,hx,hr=>by
   simp only [ai] at hx;subst hx
   simp only [me,Option.some.injEq] at hr;subst hr
   simpa using h
 |x::xs,r,j,cs,us,r',h,hx,hr=>by
  simp only [ai] at hx
  obtain⟨v,vG,rfl,h1,h2⟩:=hx
  simp only [me] at hr
  split at hr
  · rename_i y hy
    obtain⟨g1,g2⟩:=zm ts r j x cs v y h h1 hy
    obtain⟨f1,f2⟩:=qK ts xs y (j+1) (cs.set j v) vG r' g1 h2 hr
    rw [IV cs j v vG g2] at f1
    refine⟨f1,fun _=> ?_⟩
    by_cases hu:vG= []
    · subst hu;simp;omega
    · have :=f2 hu;simp at this ⊢;omega
  · cases hr
theorem nz(hB:aE C A β st a w) {x:AV} {v:Value}(h:ae w A β v x)(hA:∀b,A b→A' b)(kK:∀k∈(eT st.h x).2,∀b,ax (β k)=some b→A' b):
  ae w A' β v (eT st.h x).1∧∀k∈(eT st.h x).2,∃e row l fr,st.h k=some (.row e row l fr):=by
 have hK:cy w w A A':=fun b hb=>⟨hA b hb,rfl⟩
 unfold eT at kK ⊢
 split at kK
 · rename_i k
   simp only [ae] at h
   split at kK
   · rename_i e row l fr hk
     refine⟨?_,fun j hj=>by simp at hj;subst hj;exact⟨e,row,l,fr,hk⟩⟩
     simp only [ae,Rd]
     rcases j4 hB hk with⟨g1,g2⟩|⟨b,cap,cs,g1,g2,g3,g4,g5⟩
     · subst g2;rw [h.1,g1];exact⟨none,0,[],rfl,by simp,by simp,by simp [bW],by simp⟩
     · rw [h.1,g1]
       exact⟨_,cap,cs,rfl,g2,g3,br (fun c x hx=>bt hK row c x hx) l cs g4,fun _=>⟨b,0,rfl,kK k (by simp) b (by rw [g1];rfl),g5⟩⟩
   · exact⟨by simp [ae],by simp⟩
 · rename_i k n
   simp only [ae] at h
   split at kK
   · rename_i e row l fr hk
     refine⟨?_,fun j hj=>by simp at hj;subst hj;exact⟨e,row,l,fr,hk⟩⟩
     simp only [ae,Rd]
     rcases h with⟨h1,h2,h3⟩|⟨b',m,gx,h1,h2,h3⟩
     · subst h3;rw [h2];exact⟨none,0,[],by simp,by simp,by simp,by simp [bW],by simp⟩
     · rcases j4 hB hk with⟨g1,g2⟩|⟨b,cap,cs,g1,g2,g3,g4,g5⟩
       · rw [g1] at h1;cases h1
       · rw [g1] at h1
         simp only [Value.slice.injEq,Option.some.injEq,Addr.mk.injEq,and_true] at h1
         obtain⟨rfl,rfl,rfl⟩:=h1
         have hl:(l.take n).length=n:=by simp;omega
         refine⟨_,cap,cs.take (n*row.length),by rw [h2,hl],by rw [hl];omega,g3,br (fun c x hx=>bt hK row c x hx) _ _ (dq l cs n g4).1,fun _=>⟨b,0,rfl,kK k (by simp) b (by rw [g1];rfl),gd g5⟩⟩
   · exact⟨by simp [ae],by simp⟩
 · rename_i k sz off n
   simp only [ae] at h
   split at kK
   · rename_i e row l fr hk
     cases cz:Nat.beq sz row.length with
     |false=>exact⟨by simp [ae],by simp⟩
     |true=>
      simp only [cz,cond_true] at kK ⊢
      have cz:=Nat.eq_of_beq_eq_true cz
      subst cz
      refine⟨?_,fun j hj=>by simp at hj;subst hj;exact⟨e,row,l,fr,hk⟩⟩
      simp only [ae,Rd]
      rcases h with⟨hn,ad,cap,h2,yv⟩|⟨b',m,gx,sc,h1,h2,h3,h4,h5⟩
      · subst hn;rw [h2];exact⟨ad,cap,[],by simp,by simp,yv,by simp [bW],by simp⟩
      · rcases j4 hB hk with⟨g1,g2⟩|⟨b,cap,cs,g1,g2,g3,g4,g5⟩
        · rw [g1] at h1;cases h1
        · rw [g1] at h1
          simp only [Value.slice.injEq,Option.some.injEq,Addr.mk.injEq,and_true] at h1
          obtain⟨rfl,rfl,rfl⟩:=h1
          have hl:((l.drop off).take n).length=n:=by simp;omega
          refine⟨_,sc,(cs.drop (off*row.length)).take (n*row.length),by rw [h2,hl],by rw [hl];omega,by omega,br (fun c x hx=>bt hK row c x hx) _ _ (dq _ _ n (dq l cs off g4).2).1,fun _=>⟨b,_,rfl,kK k (by simp) b (by rw [g1];rfl),?_⟩⟩
          have :=gd (n:=n*row.length) (lS (n:=off*row.length) g5)
          simpa using this
   · exact⟨by simp [ae],by simp⟩
 · exact⟨gP hK _ _ h,by simp⟩
end
end Go.Vg

end
section
namespace Go.Vg
open Go
section
variable {P:Program} {C:Ctx} {A A':Nat→Prop} {β:Nat→Value} {st:St} {a:Act} {w:World} {T:b9}
theorem EM(hB:aE C A β st a w)(hA:∀b,A b→A' b):∀(xs:List AV) (vs:List Value),ai w A β vs xs→(∀k∈(kB st.h xs).2,∀b,ax (β k)=some b→A' b)→
  ai w A' β vs (kB st.h xs).1∧∀k∈(kB st.h xs).2,∃e row l fr,st.h k=some (.row e row l fr)
 | [],vs,h,_=>by simp only [ai] at h;subst h;simp [kB,ai]
 |x::xs,vs,h,kK=>by
  simp only [ai] at h
  obtain⟨v,bX,rfl,h1,h2⟩:=h
  simp only [kB] at kK ⊢
  obtain⟨p1,p2⟩:=nz hB h1 hA (fun k hk=>kK k (by simp [hk]))
  obtain⟨q1,q2⟩:=EM hB hA xs bX h2 (fun k hk=>kK k (by simp [hk]))
  refine⟨by simp only [ai];exact⟨v,bX,rfl,p1,q1⟩,fun k hk=> ?_⟩
  rcases List.mem_append.1 hk with hk|hk
  · exact p2 k hk
  · exact q2 k hk
theorem sq(hB:aE C A β st a w)(hA:∀b,A b→A' b)(x:AV)(v:Value)(h:ae w A β v x)(kK:∀k∈(lb st.h x).2,∀b,ax (β k)=some b→A' b):
  ae w A' β v (lb st.h x).1∧∀k∈(lb st.h x).2,∃e row l fr,st.h k=some (.row e row l fr):=by
 unfold lb at kK ⊢
 split at kK
 · rename_i cs
   simp only [ae] at h
   obtain⟨arr,rfl,h⟩:=h
   obtain⟨p1,p2⟩:=EM hB hA cs _ h kK
   exact⟨by simp only [ae];exact⟨arr,rfl,p1⟩,p2⟩
 · exact nz hB h hA kK
theorem yy(hB:aE C A β st a w)(hA:∀b,A b→A' b):∀(xs:List AV) (vs:List Value),ai w A β vs xs→(∀k∈(iH st.h xs).2,∀b,ax (β k)=some b→A' b)→
  ai w A' β vs (iH st.h xs).1∧∀k∈(iH st.h xs).2,∃e row l fr,st.h k=some (.row e row l fr)
 | [],vs,h,_=>by simp only [ai] at h;subst h;simp [iH,ai]
 |x::xs,vs,h,kK=>by
  simp only [ai] at h
  obtain⟨v,bX,rfl,h1,h2⟩:=h
  simp only [iH] at kK ⊢
  obtain⟨p1,p2⟩:=sq hB hA x v h1 (fun k hk=>kK k (by simp [hk]))
  obtain⟨q1,q2⟩:=yy hB hA xs bX h2 (fun k hk=>kK k (by simp [hk]))
  refine⟨by simp only [ai];exact⟨v,bX,rfl,p1,q1⟩,fun k hk=> ?_⟩
  rcases List.mem_append.1 hk with hk|hk
  · exact p2 k hk
  · exact q2 k hk
theorem w8 {h:aQ}:∀(xs:List AV),(kB h xs).1.length=xs.length
 | []=>rfl
 |x::xs=>by simp [kB,w8 xs]
theorem oV {h:aQ}(x:AV):(lb h x).1.cells.length=x.cells.length:=by
 unfold lb
 split
 · simp [AV.cells,w8]
 · rename_i hna
   have hz:x.cells.length=1:=by cases x<;>first|rfl|exact absurd rfl (hna _)
   rw [hz]
   unfold eT
   split
   · split<;>rfl
   · split<;>rfl
   · split
     · rename_i sz _ _ _ _ rr _ _ _;cases Nat.beq sz rr.length<;>rfl
     · rfl
   · exact hz
theorem A9 {x:AV} {v:Value}(h:ae w A β v x) {row:List Ty} {r r':Row row} {cs:List Value} {j:Nat}(hr:bg w A row cs r)(hs:me row r j x.cells=some r'):
  ai w A β v.cells.toList x.cells∧bg w A row (cs.take j++v.cells.toList++cs.drop (j+v.cells.toList.length)) r'∧(∀u∈v.cells.toList,u.oneCell'=true)∧(v.cells.toList≠ []→j+v.cells.toList.length≤cs.length)∧v.cells.size=x.cells.length:=by
 have key:∀us,ai w A β us x.cells→bg w A row (cs.take j++us++cs.drop (j+us.length)) r'∧(∀u∈us,u.oneCell'=true)∧(us≠ []→j+us.length≤cs.length):=by
  intro us mK
  obtain⟨f1,f2⟩:=qK row x.cells r j cs us r' hr mK hs
  exact⟨f1,fun u hu=>sh row _ r' f1 u (by simp [hu]),f2⟩
 by_cases hx:∃cs,x= .agg cs
 · obtain⟨xs,rfl⟩:=hx
   simp only [ae] at h
   obtain⟨arr,rfl,h⟩:=h
   obtain⟨k1,k2,k3⟩:=key arr.toList h
   exact⟨h,k1,k2,k3,by simpa [Value.cells,AV.cells] using cH xs _ h⟩
 · have hc:x.cells= [x]:=by cases x<;>first|rfl|exact absurd ⟨_,rfl⟩ hx
   have mK:ai w A β [v] x.cells:=by rw [hc];simp only [ai];exact⟨v,[],rfl,h,rfl⟩
   obtain⟨k1,k2,k3⟩:=key [v] mK
   have h1:=k2 v (by simp)
   rw [cells_one h1]
   exact⟨mK,k1,k2,k3,by rw [hc];rfl⟩
theorem Ba {row:List Ty} {l:List (Row row)} {i j:Nat} {cur:Array Value} {us:List Value} {y:Row row}(hi:i<l.length)(hL:bW (bg w A row) (cur.toList.take (l.length*row.length)) l)
  (hy:∀c,bg w A row c l[i]→bg w A row (c.take j++us++c.drop (j+us.length)) y∧(us≠ []→j+us.length≤c.length)) (cQ:l.length*row.length≤cur.size):
  let new:=(cur.toList.take (i*row.length+j)++us++cur.toList.drop (i*row.length+j+us.length)).toArray
  new.size=cur.size∧bW (bg w A row) (new.toList.take (l.length*row.length)) (l.set i y)∧i*row.length+j+us.length≤cur.size∨us= []:=by
 intro new
 by_cases mK:us= []
 · exact .inr mK
 left
 obtain⟨c1,c,c2,e1,e2,e3,e4,e5⟩:=nK l _ i hi hL
 obtain⟨f1,f2⟩:=hy c e3
 have f2:=f2 mK
 have hc:=fh row c _ e3
 have fS:(cur.toList.take (l.length*row.length)).length=l.length*row.length:=by rw [List.length_take];simp;omega
 have dX:i*row.length+row.length≤l.length*row.length:=by
  have :(i+1)*row.length≤l.length*row.length:=Nat.mul_le_mul_right _ hi
  rwa [Nat.add_mul,Nat.one_mul] at this
 have oU:i*row.length+j+us.length≤cur.size:=by omega
 refine⟨by simp [new];omega,?_,oU⟩
 have Ar:cur.toList=c1++(c++c2)++cur.toList.drop (l.length*row.length):=by rw [←e1,List.take_append_drop]
 have cR:new.toList=c1++((c.take j++us++c.drop (j+us.length))++c2)++cur.toList.drop (l.length*row.length):=by
  have t1:cur.toList.take (i*row.length+j)=c1++c.take j:=by
   rw [Ar,←e2,List.append_assoc,List.take_length_add_append,List.append_assoc,List.take_append_of_le_length (by omega)]
  have t2:cur.toList.drop (i*row.length+j+us.length)=c.drop (j+us.length)++c2++cur.toList.drop (l.length*row.length):=by
   conv=>lhs;rw [Ar]
   rw [show i*row.length+j+us.length=c1.length+(j+us.length) by omega,List.append_assoc,List.drop_length_add_append,List.append_assoc,List.drop_append_of_le_length (by omega),List.append_assoc]
  simp only [new,t1,t2]
  simp
 rw [cR]
 have afc:(c1++((c.take j++us++c.drop (j+us.length))++c2)).length=l.length*row.length:=by
  have :=congrArg List.length e1
  rw [fS] at this
  simp at this ⊢
  omega
 rw [←afc,List.take_left]
 have uV:l.set i y=l.take i++(y::l.drop (i+1)):=by
  rw [List.set_eq_take_append_cons_drop,if_pos hi]
 rw [uV]
 exact fP _ _ _ _ e4 ⟨_,c2,rfl,f1,e5⟩
theorem w9(hT:bw T P)(hB:aE C A β st a w) {dst:Option Nat}(hd:∀t,dst=some t→t<st.n) {t:TypeId} {k sz i j:Nat} {x:AV} {vp vx:Value}(hp:ae w A β vp (.elem k sz i j))(hx:ae w A β vx x) {out:Out}
  (h:gu T st.h t (.elem k sz i j) x=some out) (hc:∀p∈out.cond,p):∃w',(Instr.storeAt t vp vx).run P w= .ok () w'∧Rel C (st.put dst out) (a.put dst undef) w':=by
 simp only [gu] at h
 split at h
 · rename_i e row l hk
   cases hq:(Nat.beq sz row.length&&jb T t x.cells.length&&Nat.blt 0 x.cells.length) with
   |false=>simp [hq] at h
   |true=>
    simp only [hq,cond_true] at h
    simp only [Bool.and_eq_true] at hq
    obtain⟨⟨q1,q2⟩,q3⟩:=hq
    have q3:=Nat.le_of_ble_eq_true q3
    have q1:=Nat.eq_of_beq_eq_true q1
    subst q1
    split at h
    · rename_i y hy
      cases Bb:(lb st.h x).2.elem k with
      |true=>rw [Bb] at h;simp at h
      |false=>
       rw [Bb] at h
       simp only [cond_false,Option.some.injEq] at h
       subst h
       have hi:i<l.length:=di hc
       rw [getD_eq l _ _ hi] at hy
       simp only [ae] at hp
       obtain⟨b,m,cap,bT,rfl⟩:=hp
       rcases dI hB hk with⟨_,hl⟩|⟨b',gx,cur,hv,hg,hle,rU,cQ,hL,iF⟩
       · subst hl;simp at hi
       · rw [bT] at hv
         simp only [Value.slice.injEq,Option.some.injEq,Addr.mk.injEq,and_true] at hv
         obtain⟨rfl,rfl,rfl⟩:=hv
         simp only [Bool.false_eq_true,if_false] at iF
         have hb:ax (β k)=some b:=by rw [bT];rfl
         obtain⟨ii,gk,mQ⟩:=nN hT q2
         let A1:Nat→Prop :=fun b'=>A b'∨∃j∈(lb st.h x).2,ax (β j)=some b'
         obtain⟨px,pk⟩:=sq (A':=A1) hB (fun b h=> .inl h) x vx hx (fun k hk b hb=> .inr ⟨k,hk,hb⟩)
         have hKA:cy w w A A1:=fun b h=>⟨.inl h,rfl⟩
         have ĕ:bW (bg w A1 row) (cur.toList.take (l.length*row.length)) l:=br (fun c x hx=>bt hKA row c x hx) l _ hL
         have xa:l.length*row.length≤cur.size:=by rw [cQ];exact Nat.mul_le_mul_right _ hle
         have hyy:∀c,bg w A1 row c l[i]→bg w A1 row (c.take j++vx.cells.toList++c.drop (j+vx.cells.toList.length)) y∧(vx.cells.toList≠ []→j+vx.cells.toList.length≤c.length):=
          fun c hc=>let h:=A9 px hc hy;⟨h.2.1,h.2.2.2.1⟩
         obtain⟨c1,c,c2,e1,e2,e3,e4,e5⟩:=nK l _ i hi ĕ
         have xb:=A9 px e3 hy
         have mI:vx.cells.size=ii.size:=by
          have h1:=xb.2.2.2.2
          have h2:=oV (h:=st.h) x
          omega
         rcases Ba hi ĕ hyy xa with⟨g1,g2,g3⟩|mK
         · refine⟨_,kJ gk mI xb.2.2.1 hg (by simpa using g3),?_⟩
           refine hB.write hd (k:=k) (fz:=(lb st.h x).2) (ab:= .row e row (l.set i y) false) (by simp [hk]) hb iF hg ⟨rfl,rfl,rfl⟩ (fun q hq=>⟨?_,pk q hq⟩) ?_ (by simp [ae])
           · rintro rfl;rw [List.elem_eq_mem] at Bb;simp [hq] at Bb
           · intro A2 h1 h2 h3
             have hK:cy w (w.setRow b (cur.toList.take (i*row.length+j)++vx.cells.toList++cur.toList.drop (i*row.length+j+vx.cells.toList.length)).toArray) A1 A2:=by
              intro b' bu
              rcases bu with bu|⟨q,hq,uD⟩
              · exact⟨h1 b' bu,setRow_other w b b' _ (fun h'=>iF (h'▸bu))⟩
              · refine⟨h3 q hq b' uD,setRow_other w b b' _ (fun h'=> ?_)⟩
                subst h'
                obtain⟨e',gO,l',yj,lf⟩:=pk q hq
                have :q=k:=hB.apart q k b' (by simp [lf]) (by simp [hk]) uD hb
                subst this
                rw [List.elem_eq_mem] at Bb;simp [hq] at Bb
             refine⟨_,⟨?_, .inr ⟨b,cap,_,by rw [bT];simp,by omega,setRow_heap w b cur _ e _ hg,by simpa using hle,rU,g1.trans cQ,rfl⟩⟩,?_,fun b' bu=> ?_⟩
             · rw [List.length_take]
               refine Nat.min_eq_left ?_
               rw [List.length_set]
               exact Nat.le_trans xa (Nat.le_of_eq g1.symm)
             · simp only [List.length_set]
               exact br (fun c x hx=>bt hK row c x hx) _ _ g2
             · rw [hb] at bu;simp only [Option.some.injEq] at bu;subst bu
               simp only [Bool.false_eq_true,if_false]
               intro A7
               rcases h2 _ A7 with h|⟨q,hq,uD⟩
               · exact iF h
               · obtain⟨e',gO,l',yj,lf⟩:=pk q hq
                 have :q=k:=hB.apart q k _ (by simp [lf]) (by simp [hk]) uD hb
                 subst this
                 rw [List.elem_eq_mem] at Bb;simp [hq] at Bb
         · exfalso
           have h1:=xb.2.2.2.2
           have h2:=oV (h:=st.h) x
           have h3:vx.cells.size=0:=by simpa using congrArg List.length mK
           omega
    · cases h
 · cases h
end
end Go.Vg

end
section
namespace Go.Vg
open Go
section
variable {P:Program} {C:Ctx} {A A':Nat→Prop} {β:Nat→Value} {st:St} {a:Act} {w:World} {T:b9}
theorem cX {d k:Nat} {ab b:AB}(h:ar [(d,ab)] k=some b):k=d∧b=ab:=by
 simp only [ar] at h
 by_cases hk:k=d
 · subst hk;simp only [bD,cond_true,Option.some.injEq] at h;exact⟨rfl,h.symm⟩
 · simp [aP hk] at h
theorem nQ(o:Obj)(k:Nat)(hk:k<w.heap.size):(w.alloc o).heap[k]? =w.heap[k]? :=heap_alloc_old w o k hk
theorem aE.EN(hB:aE C A β st a w) {dst:Option Nat}(hd:∀t,dst=some t→t<st.n) {d e:Nat} {cs:List AV} {arr:Array Value} {cond:List Prop}
  (eZ:st.h d=none∧mW d=false) (hrel:ai w A β arr.toList cs) (gi:∀v∈arr.toList,v.oneCell'=true):
  aE C A (bx β d (.pointer (some ⟨w.heap.size,0,none⟩))) (st.put dst {cond:=cond,res:= .ref d 0,new:= [(d, .cells (eH d cs))]}) (a.put dst (.pointer (some ⟨w.heap.size,0,none⟩))) (w.alloc (.cells arr e)):=by
 have hK:cy w (w.alloc (.cells arr e)) A A:=fun b hb=>⟨hb,nQ _ b (hB.bound b hb)⟩
 have bT:∀k,ar [(d,AB.cells (eH d cs))] k=none→bx β d (.pointer (some ⟨w.heap.size,0,none⟩)) k=β k:=by
  intro k h
  have :k≠d:=by rintro rfl;simp [ar] at h
  simp [bx,this]
 refine hB.step (out:= {cond:=cond,res:= .ref d 0,new:= [(d, .cells (eH d cs))]}) hd ?_ (by simp [ar]) bT hK rfl rfl rfl (by simp) (fun b hb _=>nQ _ b hb) (fun b hb=>by have :=hB.bound b hb;simp;omega) (fun b hb=> .inl hb) (by simp [ar]) ?_ ?_ ?_ ?_
 · intro k b h;obtain⟨rfl,_⟩:=cX h;exact eZ
 · intro k ab h
   obtain⟨rfl,rfl⟩:=cX h
   refine⟨w.heap.size,arr,e,by simp [bx],heap_alloc_new w _,fun h=>absurd (hB.bound _ h) (by omega),ga k _ _ _ (eY hK _ _ hrel),gi⟩
 · intro k b ab h hb
   obtain⟨rfl,_⟩:=cX h
   simp only [bx,if_true,ax,Option.some.injEq] at hb
   exact .inl (by omega)
 · intro k k' b h h' _ _
   obtain⟨x,hx⟩:=Option.isSome_iff_exists.1 h
   obtain⟨y,hy⟩:=Option.isSome_iff_exists.1 h'
   rw [(cX hx).1,(cX hy).1]
 · simp only [ae]
   exact⟨w.heap.size,by simp [bx],rfl⟩
theorem gf {h:aQ}:∀(fz:List Nat) j x,ar (b4 h fz) j=some x→j∈fz∧∃e row l fr,h j=some (.row e row l fr)∧x= .row e row l true :=by
 intro fz
 induction fz with
 |nil=>intro j x h;simp [b4,ar] at h
 |cons i fz ih=>
  intro j x h
  simp only [b4] at h
  split at h
  · rename_i e row l fr hi
    simp only [ar] at h
    by_cases yw:j=i
    · subst yw
      simp only [bD,cond_true,Option.some.injEq] at h
      exact⟨by simp,e,row,l,fr,hi,h.symm⟩
    · simp only [aP yw,cond_false] at h
      obtain⟨h1,h2⟩:=ih j x h
      exact⟨by simp [h1],h2⟩
  · obtain⟨h1,h2⟩:=ih j x h
    exact⟨by simp [h1],h2⟩
theorem lV {h:aQ}:∀(fz:List Nat) j,j∈fz→(∃e row l fr,h j=some (.row e row l fr))→(ar (b4 h fz) j).isSome:=by
 intro fz
 induction fz with
 |nil=>intro j h;simp at h
 |cons i fz ih=>
  intro j h hr
  simp only [b4]
  by_cases yw:j=i
  · subst yw
    obtain⟨e,row,l,fr,hr⟩:=hr
    simp [hr,ar]
  · have :=ih j ((List.mem_cons.1 h).resolve_left yw) hr
    split
    · simp only [ar,aP yw,cond_false];exact this
    · exact this
def bG(A:Nat→Prop)(β:Nat→Value)(fz:List Nat):Nat→Prop :=fun b=>A b∨∃j∈fz,ax (β j)=some b
theorem jK(hB:aE C A β st a w) {j b':Nat}(hj:(st.h j).isSome)(bu:ax (β j)=some b'):b'<w.heap.size:=by
 obtain⟨ab,eV⟩:=Option.isSome_iff_exists.1 hj
 have fm:=hB.blocks j ab eV
 cases ab with
 |arr row l=>
  obtain⟨b'',arr,e,h1,h2,_⟩:=fm
  rw [h1] at bu
  simp only [ax,Option.some.injEq] at bu
  subst bu
  exact(Array.getElem?_eq_some_iff.1 h2).1
 |cells cs=>
  obtain⟨b'',arr,e,h1,h2,_⟩:=fm
  rw [h1] at bu
  simp only [ax,Option.some.injEq] at bu
  subst bu
  exact(Array.getElem?_eq_some_iff.1 h2).1
 |row e row l fr=>
  obtain⟨xs,h1,_⟩:=fm
  rcases h1.2 with⟨hn,_⟩|⟨g,cap,cur,hv,_,hg,_⟩
  · rw [hn] at bu;simp [ax] at bu
  · rw [hv] at bu
    simp only [ax,Option.some.injEq] at bu
    subst bu
    exact(Array.getElem?_eq_some_iff.1 hg).1
 |fZ e j row l i=>
  obtain⟨xs,v0,h1,_⟩:=fm
  rcases h1.2 with⟨hn,_⟩|⟨g,cap,cur,hv,_,hg,_⟩
  · rw [hn] at bu;simp [ax] at bu
  · rw [hv] at bu
    simp only [ax,Option.some.injEq] at bu
    subst bu
    exact(Array.getElem?_eq_some_iff.1 hg).1
 |views e j n m sz=>
  obtain⟨xs,h1,_⟩:=fm
  rcases h1.2 with⟨hn,_⟩|⟨g,cap,cur,hv,_,hg,_⟩
  · rw [hn] at bu;simp [ax] at bu
  · rw [hv] at bu
    simp only [ax,Option.some.injEq] at bu
    subst bu
    exact(Array.getElem?_eq_some_iff.1 hg).1
theorem aE.IW(hB:aE C A β st a w) {dst:Option Nat}(hd:∀t,dst=some t→t<st.n) {d e:Nat} {row:List Ty} {l:List (Row row)} {cond:List Prop} {fz:List Nat} {v':Value} {w':World} {xs:List Value}
  (eZ:st.h d=none∧mW d=false) (hg:w.grownBy w' none) (vN:∀j∈fz,∃e row l fr,st.h j=some (.row e row l fr))
  (fj:w'.ownsRow 0 e row.length v' l.length xs) (pG:bW (bg w (bG A β fz) row) xs l) (hblk:∀b,ax v'=some b→w.heap.size≤b):
  aE C (bG A β fz) (bx β d v') (st.put dst {cond:=cond,res:= .own d,fH:=b4 st.h fz,new:= [(d, .row e row l false)]}) (a.put dst v') w':=by
 have Ld:∀b,bG A β fz b→b<w.heap.size:=by
  intro b h
  rcases h with h|⟨j,hj,hb⟩
  · exact hB.bound b h
  · obtain⟨e',r',l',f',hr⟩:=vN j hj
    exact jK hB (by simp [hr]) hb
 have hK:cy w w' A (bG A β fz):=fun b hb=>⟨.inl hb,hg.block b (hB.bound b hb) (by simp)⟩
 have Ė:cy w w' (bG A β fz) (bG A β fz):=fun b hb=>⟨hb,hg.block b (Ld b hb) (by simp)⟩
 have bT:∀k,ar [(d,AB.row e row l false)] k=none→bx β d v' k=β k:=by
  intro k h
  have :k≠d:=by rintro rfl;simp [ar] at h
  simp [bx,this]
 refine hB.step (out:= {cond:=cond,res:= .own d,fH:=b4 st.h fz,new:= [(d, .row e row l false)]}) hd ?_ ?_ bT hK hg.os hg.tape hg.output hg.size (fun b hb _=>hg.block b hb (by simp)) (fun b hb=>Nat.lt_of_lt_of_le (Ld b hb) hg.size) ?_ ?_ ?_ ?_ ?_ ?_
 · intro k b h;obtain⟨rfl,_⟩:=cX h;exact eZ
 · intro k b h;obtain⟨_,_,_,_,_,h,_⟩:=gf fz k b h;simp [h]
 · intro b h
   rcases h with h|⟨j,hj,hb⟩
   · exact .inl h
   · have hr:=vN j hj
     exact .inr (.inr ⟨j,⟨by obtain⟨_,_,_,_,hr⟩:=hr;simp [hr], .inl (lV fz j hj hr)⟩,hb⟩)
 · intro k ab h _
   obtain⟨hk,e',gO,l',yj,hr,rfl⟩:=gf fz k ab h
   rw [jc]
   have G7:k≠d:=by rintro rfl;rw [eZ.1] at hr;cases hr
   have vF:bx β d v' k=β k:=by simp [bx,G7]
   obtain⟨xs',h1,h2,h3⟩:=hB.blocks k _ hr
   simp only [BR,vF]
   refine⟨xs',fg h1 (fun b hb=>hg.block b (jK hB (by simp [hr]) hb) (by simp)),br (fun c x hx=>bt hK gO c x hx) l' xs' h2,fun b hb=> ?_⟩
   simp only [if_true]
   exact .inr ⟨k,hk,hb⟩
 · intro k ab h
   obtain⟨rfl,rfl⟩:=cX h
   refine⟨xs,by simpa [bx] using fj,br (fun c x hx=>bt Ė row c x hx) l xs pG,fun b hb=> ?_⟩
   simp only [bx,if_true] at hb
   simp only [Bool.false_eq_true,if_false]
   intro hA;exact absurd (Ld b hA) (by have :=hblk b hb;omega)
 · intro k b ab h hb
   obtain⟨rfl,_⟩:=cX h
   simp only [bx,if_true] at hb
   exact .inl (hblk b hb)
 · intro k k' b h h' _ _
   obtain⟨x,hx⟩:=Option.isSome_iff_exists.1 h
   obtain⟨y,hy⟩:=Option.isSome_iff_exists.1 h'
   rw [(cX hx).1,(cX hy).1]
 · simp only [ae,bx,if_true,true_and]
   obtain⟨ad,l',c,rfl⟩:=nM fj
   rfl
theorem Hg(hT:bw T P)(hB:aE C A β st a w) {dst:Option Nat}(hd:∀t,dst=some t→t<st.n) {d:Nat}(eZ:st.h d=none∧mW d=false) {t:TypeId} {te:TE}(ht:T.find t=some te)(gi:(ofConst te.zero).cells.all AV.one=true):
  ∃v' w',(Instr.alloc t true (.tuple #[])).run P w= .ok v' w'∧Rel C (st.put dst {cond:= [],res:= .ref d 0,new:= [(d, .cells (eH d (ofConst te.zero).cells))]}) (a.put dst v') w':=by
 obtain⟨hu,i,hi,hs,hb,hz⟩:=hT.ok t te ht
 obtain⟨c1,c2,c3⟩:=qJ gi (qD (w:=w) (A:=A) (β:=β) te.zero)
 refine⟨.pointer (some ⟨w.heap.size,0,none⟩),w.alloc (.cells te.zero.cells t),?_,Rel.jB (hB.EN hd eZ c1 c2)⟩
 simp [Instr.alloc,zeroValue,typeInfo,hi,hz,newVar,newRow]
theorem Le(hB:aE C A β st a w) {dst:Option Nat}(hd:∀t,dst=some t→t<st.n) {d:Nat}(eZ:st.h d=none∧mW d=false) {t:TypeId} {x:AV} {v:Value}(hx:ae w A β v x)(gi:x.cells.all AV.one=true):
  ∃v' w',(Instr.box t v).run P w= .ok v' w'∧Rel C (st.put dst {cond:= [],res:= .ref d 0,new:= [(d, .cells (eH d x.cells))]}) (a.put dst v') w':=by
 obtain⟨c1,c2,c3⟩:=qJ gi hx
 refine⟨.pointer (some ⟨w.heap.size,0,none⟩),w.alloc (.cells v.cells t),?_,Rel.jB (hB.EN hd eZ c1 c2)⟩
 simp [Instr.box,newVar,newRow]
theorem zn(off:Nat):∀(l:List Value) (k:Nat) (arr:Array Value),off+k+l.length≤arr.size→
  ((l.zipIdx k).foldl (fun cs (x:Value×Nat)=>cs.setIfInBounds (off+x.2) x.1) arr).toList=arr.toList.take (off+k)++l++arr.toList.drop (off+k+l.length)
 | [],k,arr,_=>by simp
 |v::l,k,arr,h=>by
  simp only [List.zipIdx_cons,List.foldl_cons]
  rw [zn off l (k+1) _ (by simp at h ⊢;omega)]
  have e:=list_seg_step arr.toList (off+k) v l (by simp at h ⊢;omega)
  simpa [Array.toList_setIfInBounds,Nat.add_assoc] using e
theorem ua(place:Nat→Option (Nat×Nat)):∀(parts:List (Nat×AV)) (fT:List (Nat×Value)) (cs:List AV) (arr:Array Value) (r:List AV),ai w A β arr.toList cs→
  fT.map (·.1)=parts.map (·.1)→ai w A β (fT.map (·.2)) (parts.map (·.2))→vC place cs parts=some r→
  ∃oW,Instr.fill place arr fT=some oW∧ai w A β oW.toList r
 | [],[],cs,arr,r,h,_,_,hr=>by
   simp only [vC,Option.some.injEq] at hr;subst hr
   exact⟨arr,rfl,h⟩
 |(i,x)::parts,(i',v)::fT,cs,arr,r,h,hk,hv,hr=>by
  simp only [List.map_cons,List.cons.injEq] at hk
  obtain⟨hi,hk⟩:=hk
  subst hi
  simp only [List.map_cons,ai] at hv
  obtain⟨v0,Bc,h0,h1,h2⟩:=hv
  simp only [List.cons.injEq] at h0
  obtain⟨rfl,rfl⟩:=h0
  simp only [vC] at hr
  split at hr
  · cases hr
  · rename_i off size hp
    cases hq:(Nat.beq x.cells.length size&&Nat.ble (off+size) cs.length&&x.cells.all AV.one) with
    |false=>simp [hq] at hr
    |true=>
     simp only [hq,cond_true] at hr
     simp only [Bool.and_eq_true] at hq
     obtain⟨⟨q1,q2⟩,q3⟩:=hq
     have q1:=Nat.eq_of_beq_eq_true q1
     have q2:=Nat.le_of_ble_eq_true q2
     obtain⟨c1,c2,c3⟩:=qJ q3 h1
     have hlen:=cH cs _ h
     have vM:=sm (off:=off) h c1
     have afe:(v.cells.zipIdx.foldl (fun cs (x:Value×Nat)=>cs.setIfInBounds (off+x.2) x.1) arr).toList=arr.toList.take off++v.cells.toList++arr.toList.drop (off+v.cells.toList.length):=by
      have :=zn off v.cells.toList 0 arr (by simp;simp at hlen;omega)
      simp only [Nat.add_zero] at this
      rw [←this,←Array.foldl_toList,Array.toList_zipIdx]
     obtain⟨oW,g1,g2⟩:=ua place parts fT _ (v.cells.zipIdx.foldl (fun cs (x:Value×Nat)=>cs.setIfInBounds (off+x.2) x.1) arr) r (by rw [afe];exact vM) hk h2 hr
     refine⟨oW,?_,g2⟩
     simp only [Instr.fill,hp]
     rw [if_neg (by simp;simp at hlen;omega)]
     exact g1
 | [],_::_,_,_,_,_,hk,_,_=>by simp at hk
 |_::_,[],_,_,_,_,hk,_,_=>by simp at hk
end
end Go.Vg

end
section
namespace Go.Vg
open Go
section
variable {P:Program} {C:Ctx} {A A':Nat→Prop} {β:Nat→Value} {st:St} {a:Act} {w:World} {T:b9}
theorem run_places(hT:bw T P):∀(fs:List Field) (ps:List (Nat×Nat)),placesOf T fs=some ps→
  (List.mapM (m:=Sem) (fun(f:Field)=>do pure (f.offset,←sizeOf f.type)) fs).run P w= .ok ps w
 | [],ps,h=>by simp only [placesOf,Option.some.injEq] at h;subst h;simp
 |f::fs,ps,h=>by
  simp only [placesOf] at h
  split at h
  · rename_i te ps' ht hp
    simp only [Option.some.injEq] at h;subst h
    obtain⟨_,i,hi,hs,_⟩:=hT.ok _ _ ht
    have ih:=run_places hT fs ps' hp
    have h1:(sizeOf f.type).run P w= .ok te.size w:=by simp [sizeOf,typeInfo,hi,hs]
    simp only [List.mapM_cons,Sem.run_bind,h1,Result.andThen_ok,Sem.run_pure]
    rw [ih]
    rfl
  · cases h
theorem je(z:Value):ai w A β z.cells.toList (ofConst z).cells:=by
 have h:=qD (w:=w) (A:=A) (β:=β) z
 by_cases hx:∃cs,ofConst z= .agg cs
 · obtain⟨cs,hc⟩:=hx
   rw [hc] at h ⊢
   simp only [ae] at h
   obtain⟨arr,rfl,h⟩:=h
   exact h
 · have hc:(ofConst z).cells= [ofConst z]:=by
    cases hz:ofConst z<;>first|rfl|exact absurd ⟨_,hz⟩ hx
   have hz:z.cells= #[z]:=by
    cases z<;>first|rfl|exact absurd ⟨_,rfl⟩ hx
   rw [hc,hz]
   simp only [ai]
   exact⟨z,[],rfl,h,rfl⟩
theorem Hh(hT:bw T P) {t:TypeId} {parts:List (Nat×AV)} {fT:Array (Nat×Value)}(hk:fT.toList.map (·.1)=parts.map (·.1))(hv:ai w A β (fT.toList.map (·.2)) (parts.map (·.2))) {out:Out}
  (h:yi T t parts=some out):Reads P A β w (Instr.build t fT) out:=by
 unfold yi at h
 split at h
 · rename_i te ht
   obtain⟨hu,i,hi,hs,hb,hz⟩:=hT.ok t te ht
   split at h
   · rename_i fs hd
     split at h
     · rename_i ps hp
       split at h
       · rename_i cs hf
         simp only [Option.some.injEq] at h;subst h
         obtain⟨oW,g1,g2⟩:=ua (fun i=>ps[i]?) parts fT.toList _ te.zero.cells cs (je te.zero) hk hv hf
         refine⟨⟨rfl,rfl,rfl⟩, .agg oW,?_,by simp only [ae];exact⟨oW,rfl,g2⟩⟩
         have hm:=run_places (w:=w) hT fs.toList ps hp
         rw [hd] at hu
         simp only [Instr.build,zeroValue,typeInfo,Sem.run_bind,run_program,Result.andThen_ok,hi,hz,Sem.run_pure,run_underlying hu,Array.mapM_eq_mapM_toList,Sem.run_map,hm]
         have e:(fun(x:Nat)=>ps.toArray[x]?)=(fun(x:Nat)=>ps[x]?):=by funext x;simp
         simp [g1]
       · cases h
     · cases h
   · rename_i n e hd
     split at h
     · rename_i ee he
       split at h
       · rename_i cs hf
         simp only [Option.some.injEq] at h;subst h
         obtain⟨_,i2,z6,G9,_⟩:=hT.ok e ee he
         obtain⟨oW,g1,g2⟩:=ua (fun i=>some (i*ee.size,ee.size)) parts fT.toList _ te.zero.cells cs (je te.zero) hk hv hf
         refine⟨⟨rfl,rfl,rfl⟩, .agg oW,?_,by simp only [ae];exact⟨oW,rfl,g2⟩⟩
         rw [hd] at hu
         simp [Instr.build,zeroValue,typeInfo,hi,hz,run_underlying hu,sizeOf,z6,G9,g1]
       · cases h
     · cases h
   · cases h
 · cases h
theorem mY(z:Array Value)(hz:0<z.size):∀n,(List.range (n*z.size)).map (fun i=>z[i%z.size]!)=(List.replicate n z.toList).flatten
 |0=>by simp
 |n+1=>by
  rw [Nat.add_mul,Nat.one_mul,List.range_add,List.map_append,mY z hz n,List.replicate_succ',List.flatten_append]
  congr 1
  simp only [List.map_map,List.flatten_cons,List.flatten_nil,List.append_nil]
  apply List.ext_getElem
  · simp
  · intro i h1 h2
    simp at h1
    simp [Nat.add_mod,Nat.mod_eq_of_lt h1,h1]
theorem oX {vs:List Value} {xs:List AV}(h:ai w A β vs xs):∀n,ai w A β (List.replicate n vs).flatten (List.replicate n xs).flatten
 |0=>by simp [ai]
 |n+1=>by
  simp only [List.replicate_succ,List.flatten_cons]
  exact dj _ _ _ _ h (oX h n)
theorem sr(ts:List Ty):∀(n:Nat) (xs:List AV) (vs:List Value) (l:List (Row ts)),ai w A β vs xs→qy ts n xs=some l→bW (bg w A ts) vs l∧l.length=n
 |0,[],vs,l,h,hl=>by
  simp only [qy,Option.some.injEq] at hl;subst hl
  simp only [ai] at h;subst h
  simp [bW]
 |0,_::_,_,_,_,hl=>by simp [qy] at hl
 |n+1,xs,vs,l,h,hl=>by
  simp only [qy] at hl
  split at hl
  · rename_i x l' hx iK
    simp only [Option.some.injEq] at hl;subst hl
    obtain⟨s1,s2⟩:=fi xs vs ts.length h
    obtain⟨g1,g2⟩:=sr ts n _ _ l' s2 iK
    exact⟨⟨_,_,(List.take_append_drop _ _).symm,nP ts _ _ x s1 hx,g1⟩,by simp [g2]⟩
  · cases hl
theorem EO(hB:aE C A β st a w)(hA:∀b,A b→A' b):∀(ps:List (Nat×AV)) (vs:List Value),ai w A β vs (ps.map (·.2))→(∀k∈(kC st.h ps).2,∀b,ax (β k)=some b→A' b)→
  ai w A' β vs ((kC st.h ps).1.map (·.2))∧(kC st.h ps).1.map (·.1)=ps.map (·.1)∧∀k∈(kC st.h ps).2,∃e row l fr,st.h k=some (.row e row l fr)
 | [],vs,h,_=>by simp only [List.map_nil,ai] at h;subst h;simp [kC,ai]
 |(i,x)::ps,vs,h,kK=>by
  simp only [List.map_cons,ai] at h
  obtain⟨v,bX,rfl,h1,h2⟩:=h
  simp only [kC] at kK ⊢
  obtain⟨p1,p2⟩:=sq hB hA x v h1 (fun k hk=>kK k (by simp [hk]))
  obtain⟨q1,q2,q3⟩:=EO hB hA ps bX h2 (fun k hk=>kK k (by simp [hk]))
  refine⟨by simp only [List.map_cons,ai];exact⟨v,bX,rfl,p1,q1⟩,by simp [q2],fun k hk=> ?_⟩
  rcases List.mem_append.1 hk with hk|hk
  · exact p2 k hk
  · exact q3 k hk
theorem xc(hT:bw T P)(hB:aE C A β st a w) {dst:Option Nat}(hd:∀t,dst=some t→t<st.n) {d:Nat}(eZ:st.h d=none∧mW d=false) {t:TypeId} {len:Nat} {parts:List (Nat×AV)} {fT:Array (Nat×Value)}
  (hk:fT.toList.map (·.1)=parts.map (·.1)) (hv:ai w A β (fT.toList.map (·.2)) (parts.map (·.2))) {out:Out}
  (h:gv T st.h d t len parts=some out):∃v' w',(Instr.buildSlice t len fT).run P w= .ok v' w'∧Rel C (st.put dst out) (a.put dst v') w':=by
 unfold gv at h
 split at h
 · rename_i e te he lv
   split at h
   · rename_i row jx
     obtain⟨hu,Hf,i,hi,mQ,IS,K8⟩:=wZ hT he lv
     cases hq:(Nat.beq row.length te.size&&Nat.blt 0 te.size&&Nat.beq (ofConst te.zero).cells.length te.size&&Nat.ble (len*te.size) 16777216) with
     |false=>simp [hq] at h
     |true=>
      simp only [hq,cond_true] at h
      simp only [Bool.and_eq_true] at hq
      obtain⟨⟨⟨q1,q2⟩,q3⟩,q4⟩:=hq
      have q1:=Nat.eq_of_beq_eq_true q1
      have q2:=Nat.le_of_ble_eq_true q2
      have q3:=Nat.eq_of_beq_eq_true q3
      have q4:=Nat.le_of_ble_eq_true q4
      split at h
      · rename_i cs hf
        split at h
        · rename_i l hl
          simp only [Option.some.injEq] at h;subst h
          have Ed:te.zero.cells.size=te.size:=by rw [←sk];exact q3
          obtain⟨p1,p2,p3⟩:=EO (A':=bG A β (kC st.h parts).2) hB (fun b h=> .inl h) parts _ hv (fun k hk b hb=> .inr ⟨k,hk,hb⟩)
          have jf:(((Array.range (len*i.size)).map (te.zero.cells[· %te.zero.cells.size]!)).toList)=(List.replicate len te.zero.cells.toList).flatten:=by
           have :=mY te.zero.cells (by omega) len
           rw [Ed] at this
           simp [mQ,Ed,this]
          obtain⟨oW,g1,g2⟩:=ua (w:=w) (A:=bG A β (kC st.h parts).2) (β:=β) (fun i=>some (i*te.size,te.size)) _ fT.toList _ ((Array.range (len*i.size)).map (te.zero.cells[· %te.zero.cells.size]!)) cs
           (by rw [jf];exact oX (je te.zero) len) (hk.trans p2.symm) p1 hf
          obtain⟨f1,f2⟩:=sr row len cs _ l g2 hl
          have hlen:=dP l _ f1
          have fQ:(Instr.buildSlice t len fT).run P w= .ok (.slice (some ⟨w.heap.size,0,none⟩) len len) (w.alloc (.cells oW e)):=by
           have h24:¬(16777216<len*i.size):=by rw [mQ];omega
           by_cases hz:len*i.size=0
           · have hln:len=0:=by
              rcases Nat.mul_eq_zero.1 hz with h|h
              · exact h
              · omega
             subst hln
             rw [mQ] at g1
             simp only [Nat.zero_mul] at g1
             simp [Instr.buildSlice,run_underlying hu,sizeOf,typeInfo,hi,mQ,newRow]
             have e0:∀f:Nat→Value,(Array.range 0).map f= #[]:=fun f=>by apply Array.eq_empty_of_size_eq_zero;simp
             rw [e0] at g1
             rw [e0,g1]
             simp
           · rw [←mQ] at g1
             simp [Instr.buildSlice,run_underlying hu,sizeOf,typeInfo,zeroValue,hi,K8,h24,hz,g1,newRow]
          refine⟨_,_,fQ,Rel.jB (hB.IW hd eZ (xs:=oW.toList) ⟨rfl,rfl,rfl,by simp,fun k hk _=>heap_alloc_old w _ k hk⟩ p3 ?_ f1 (fun b hb=>by simp only [ax,Option.some.injEq] at hb;omega))⟩
          refine⟨hlen, .inr ⟨w.heap.size,len,oW,by rw [f2],by omega,heap_alloc_new w _,by omega,?_,?_,?_⟩⟩
          · have :len≤len*te.size:=Nat.le_mul_of_pos_right _ (by omega)
            unfold maxLen;omega
          · simp at hlen;rw [hlen,f2]
          · rw [←hlen];exact List.take_length
        · cases h
      · cases h
   · cases h
 · cases h
end
end Go.Vg

end
section
namespace Go.Vg
open Go
section
variable {P:Program} {C:Ctx} {A A':Nat→Prop} {β:Nat→Value} {st:St} {a:Act} {w:World} {T:b9}
theorem gA:∀(row:List Ty) (vs:List Value),ck.bL row vs=true→bg w A row vs (Row.zero row)
 | [],[],_=>by simp [bg]
 | .int k::ts, .int k' n::vs,h=>by
   simp only [ck.bL,Bool.and_eq_true,decide_eq_true_eq] at h
   obtain⟨⟨h1,h2⟩,h3⟩:=h
   subst h1;subst h2
   simp only [bg,Row.zero,nO,so]
   refine⟨_,vs,rfl,?_,gA ts vs h3⟩
   simp only [Rd,D.zero]
   cases k<;>simp [DI.zero,DI.toInt,lo,hi]
 | .bool::ts, .bool b::vs,h=>by
   cases b with
   |true=>simp [ck.bL] at h
   |false=>
    simp only [ck.bL] at h
    simp only [bg,Row.zero,nO,so]
    exact⟨_,vs,rfl,by simp [Rd,D.zero],gA ts vs h⟩
 | .str::ts, .string s::vs,h=>by
   simp only [ck.bL,Bool.and_eq_true] at h
   simp only [bg,Row.zero,nO,so]
   refine⟨_,vs,rfl,?_,gA ts vs h.2⟩
   simp only [Rd,D.zero]
   refine⟨?_,by simp⟩
   have :s.data.toList= []:=by simpa using h.1
   have hs:s=⟨#[]⟩:=by
    apply ByteArray.ext
    apply Array.ext'
    exact this
   rw [hs]
 | .slice r::ts, .slice ad l c::vs,h=>by
   cases ad with
   |some p=>simp [ck.bL] at h
   |none=>
    cases l with
    |succ l=>simp [ck.bL] at h
    |zero=>
     cases c with
     |succ c=>simp [ck.bL] at h
     |zero=>
      simp only [ck.bL] at h
      simp only [bg,Row.zero,nO,so]
      refine⟨_,vs,rfl,?_,gA ts vs h⟩
      simp only [Rd,D.zero]
      exact⟨none,0,[],by simp,by simp,by simp,by simp [bW],by simp⟩
 | [],_::_,h=>by simp [ck.bL] at h
 | .int _::_,[],h=>by simp [ck.bL] at h
 | .bool::_,[],h=>by simp [ck.bL] at h
 | .str::_,[],h=>by simp [ck.bL] at h
 | .slice _::_,[],h=>by simp [ck.bL] at h
 | .int _::_, .bool _::_,h| .int _::_, .string _::_,h| .int _::_, .slice .. ::_,h| .int _::_, .float .. ::_,h| .int _::_, .complex .. ::_,h| .int _::_, .pointer _::_,h
 | .int _::_, .map _::_,h| .int _::_, .chan _::_,h| .int _::_, .func .. ::_,h| .int _::_, .nilFunc::_,h| .int _::_, .iface .. ::_,h| .int _::_, .nilIface::_,h| .int _::_, .agg _::_,h| .int _::_, .tuple _::_,h=>by simp [ck.bL] at h
 | .bool::_, .int .. ::_,h| .bool::_, .string _::_,h| .bool::_, .slice .. ::_,h| .bool::_, .float .. ::_,h| .bool::_, .complex .. ::_,h| .bool::_, .pointer _::_,h
 | .bool::_, .map _::_,h| .bool::_, .chan _::_,h| .bool::_, .func .. ::_,h| .bool::_, .nilFunc::_,h| .bool::_, .iface .. ::_,h| .bool::_, .nilIface::_,h| .bool::_, .agg _::_,h| .bool::_, .tuple _::_,h=>by simp [ck.bL] at h
 | .str::_, .int .. ::_,h| .str::_, .bool _::_,h| .str::_, .slice .. ::_,h| .str::_, .float .. ::_,h| .str::_, .complex .. ::_,h| .str::_, .pointer _::_,h
 | .str::_, .map _::_,h| .str::_, .chan _::_,h| .str::_, .func .. ::_,h| .str::_, .nilFunc::_,h| .str::_, .iface .. ::_,h| .str::_, .nilIface::_,h| .str::_, .agg _::_,h| .str::_, .tuple _::_,h=>by simp [ck.bL] at h
 | .slice _::_, .int .. ::_,h| .slice _::_, .bool _::_,h| .slice _::_, .string .. ::_,h| .slice _::_, .float .. ::_,h| .slice _::_, .complex .. ::_,h| .slice _::_, .pointer _::_,h
 | .slice _::_, .map _::_,h| .slice _::_, .chan _::_,h| .slice _::_, .func .. ::_,h| .slice _::_, .nilFunc::_,h| .slice _::_, .iface .. ::_,h| .slice _::_, .nilIface::_,h| .slice _::_, .agg _::_,h| .slice _::_, .tuple _::_,h=>by simp [ck.bL] at h
theorem pH {row:List Ty} {z:Value}(h:ck row z=true):bg w A row z.cells.toList (Row.zero row):=by
 unfold ck at h
 split at h
 · exact gA row _ h
 · rename_i hna
   have hz:z.cells= #[z]:=by cases z<;>first|rfl|exact absurd rfl (hna _)
   rw [hz];exact gA row _ h
theorem nR {row:List Ty} {vs:List Value} {x:Row row}(h:bg w A row vs x):∀n,bW (bg w A row) (List.replicate n vs).flatten (List.replicate n x)
 |0=>by simp [bW]
 |n+1=>by
  simp only [List.replicate_succ,List.flatten_cons]
  exact⟨vs,_,rfl,h,nR h n⟩
theorem yz(hT:bw T P)(hB:aE C A β st a w) {dst:Option Nat}(hd:∀t,dst=some t→t<st.n) {d:Nat}(eZ:st.h d=none∧mW d=false) {t:TypeId} {x y:AV} {vx vy:Value}(hx:ae w A β vx x)(hy:ae w A β vy y) {out:Out}
  (h:pz T d t x y=some out) (hc:∀p∈out.cond,p):∃v' w',(Instr.makeSlice t vx vy).run P w= .ok v' w'∧Rel C (st.put dst out) (a.put dst v') w':=by
 unfold pz at h
 split at h
 · rename_i k n k' c
   split at h
   · rename_i e te he lv
     split at h
     · rename_i row jx
       obtain⟨hu,Hf,i,hi,mQ,IS,K8⟩:=wZ hT he lv
       cases hq:(Nat.beq row.length te.size&&Nat.blt 0 te.size&&ck row te.zero) with
       |false=>simp [hq] at h
       |true=>
        simp only [hq,cond_true,Option.some.injEq] at h
        subst h
        simp only [Bool.and_eq_true] at hq
        obtain⟨⟨q1,q2⟩,q3⟩:=hq
        have q1:=Nat.eq_of_beq_eq_true q1
        have q2:=Nat.le_of_ble_eq_true q2
        obtain⟨c0,c1,c2⟩:=di hc
        simp only [ae] at hx hy
        obtain⟨rfl,_⟩:=hx
        obtain⟨rfl,xb⟩:=hy
        have hz:=pH (w:=w) (A:=A) q3
        have Lf:=fh row _ _ hz
        have Ed:te.zero.cells.size=te.size:=by simp at Lf;omega
        have am4:(te.bytes:Int)*c≤281474976710656:=by
         rcases Nat.eq_zero_or_pos te.bytes with AT|AT
         · rw [AT];simp
         · have :=(Int.le_ediv_iff_mul_le (show(0:Int)<te.bytes by omega)).1 c2
           rw [Int.mul_comm];omega
        have yv:c≤9223372036854775807:=by
         have :=Int.ediv_le_self (te.bytes:Int) (show(0:Int)≤140737488355328 by omega)
         omega
        have hr:=run_make (P:=P) w t e i te.zero hu hi K8 k k' n c c0 c1 (by rw [IS];exact am4) yv
        refine⟨_,_,hr,Rel.jB (hB.IW hd eZ (fz:= []) (xs:=(List.replicate n.toNat te.zero.cells.toList).flatten) ⟨rfl,rfl,rfl,by simp,fun k hk _=>heap_alloc_old w _ k hk⟩ (by simp) ?_ ?_ (fun b hb=>by simp only [ax,Option.some.injEq] at hb;omega))⟩
        · have jf:(madeCells te.zero.cells (c.toNat*i.size)).toList=(List.replicate c.toNat te.zero.cells.toList).flatten:=by
           have :=mY te.zero.cells (by omega) c.toNat
           rw [Ed] at this
           simp [madeCells,mQ,Ed,this]
          have Lg:∀m,(List.replicate m te.zero.cells.toList).flatten.length=m*te.size:=by
           intro m;simp [Ed]
          simp only [List.length_replicate]
          refine⟨by rw [Lg,q1], .inr ⟨w.heap.size,c.toNat,_,rfl,by omega,heap_alloc_new w _,by omega,by unfold maxLen;omega,?_,?_⟩⟩
          · have :=congrArg List.length jf
            rw [Lg,Array.length_toList] at this
            rw [this,q1]
          · rw [jf]
            have vM:c.toNat=n.toNat+(c.toNat-n.toNat):=by omega
            rw [vM,←List.replicate_append_replicate,List.flatten_append,q1,←Lg n.toNat,List.take_left]
        · exact nR (pH q3) _
     · cases h
   · cases h
 · cases h
theorem Bd {t t' ty e:TypeId} {i:TypeInfo}(hu:P.underlying t=some (.slice e))(hi:P.info? e=some i) {b off dLen dCap:Nat} {cur:Array Value} {be:TypeId}(hg:w.heap[b]? =some (.cells cur be (0,0))) {x:Value} {m:Nat} {cs:List Value}
  (hlen:(Builtin.lenOf x).run P w= .ok m w) (fR:(Builtin.firstCells i.size (min m dLen) x).run P w= .ok cs.toArray w) (h1:∀u∈cs,u.oneCell'=true) (oU:off+cs.length≤cur.size):
  (Builtin.copy_ #[t,t'] ty #[.slice (some ⟨b,off,none⟩) dLen dCap,x]).run P w= .ok (.int .i64 ((min m dLen:Nat):Int)) (w.setRow b (cur.toList.take off++cs++cur.toList.drop (off+cs.length)).toArray):=by
 have kI:=run_storeCells_at P b off be cs 0 cur w hg (by simpa using oU) h1
 simp only [Nat.add_zero] at kI
 have hm:Nat.min m dLen=min m dLen:=rfl
 simp [Builtin.copy_,run_underlying hu,sizeOf,typeInfo,hi,hlen,hm,fR,kI,goInt]
theorem su {t t' ty e:TypeId} {i:TypeInfo}(hu:P.underlying t=some (.slice e))(hi:P.info? e=some i) {ad:Option Addr} {dCap:Nat} {x:Value} {m:Nat}
  (hlen:(Builtin.lenOf x).run P w= .ok m w) (fR:(Builtin.firstCells i.size 0 x).run P w= .ok #[] w):
  (Builtin.copy_ #[t,t'] ty #[.slice ad 0 dCap,x]).run P w= .ok (.int .i64 0) w:=by
 have hm:Nat.min m 0=0:=Nat.min_eq_right (Nat.zero_le _)
 cases ad<;>simp [Builtin.copy_,run_underlying hu,sizeOf,typeInfo,hi,hlen,fR,goInt,storeCells]
theorem aE.same(hB:aE C A β st a w) {dst:Option Nat}(hd:∀t,dst=some t→t<st.n) {c:List Prop} {r:AV} {k:Nat} {ab:AB}(hk:st.h k=some ab) {v:Value}(h:ae w A β v r):
  aE C A β (st.put dst {cond:=c,res:=r,fH:= [(k,ab)]}) (a.put dst v) w:=by
 refine hB.step (out:= {cond:=c,res:=r,fH:= [(k,ab)]}) hd (by simp [ar]) ?_ (fun _ _=>rfl) (cy.refl w A) rfl rfl rfl (Nat.le_refl _) (fun _ _ _=>rfl) hB.bound (fun b h=> .inl h) ?_ (by simp [ar]) (by simp [ar]) (by simp [ar]) h
 · intro j b h;obtain⟨rfl,_⟩:=cX h;simp [hk]
 · intro j b h _
   obtain⟨rfl,rfl⟩:=cX h
   simp only [ct]
   exact hB.blocks _ _ hk
theorem sv(n:Nat)(h:n≤maxLen):ae w A β (.int .i64 (n:Int)) (.int .i64 (n:Int)):=by
 simp only [ae,lo,hi,true_and]
 unfold maxLen at h;omega
theorem yA(hB:aE C A β st a w) {dst:Option Nat}(hd:∀t,dst=some t→t<st.n) {k e:Nat} {row:List Ty} {l m':List (Row row)}(hk:st.h k=some (.row e row l false)) {b cap off:Nat}(bT:β k= .slice (some ⟨b,0,none⟩) l.length cap)
  {cs:List Value} (cQ:bW (bg w A row) cs m') (oU:off+m'.length≤l.length) {c:List Prop} {r:AV} {v:Value} (pZ:∀w',ae w' A β v r) {cur:Array Value} (hg:w.heap[b]? =some (.cells cur e (0,0)))
  (cz:cur.size=cap*row.length) (hle:l.length≤cap) (rU:cap≤maxLen) (hL:bW (bg w A row) (cur.toList.take (l.length*row.length)) l) (iF:¬A b):
  Rel C (st.put dst {cond:=c,res:=r,fH:= [(k, .row e row (l.take off++m'++l.drop (off+m'.length)) false)]}) (a.put dst v)
   (w.setRow b (cur.toList.take (off*row.length)++cs++cur.toList.drop (off*row.length+cs.length)).toArray):=by
 have hb:ax (β k)=some b:=by rw [bT];rfl
 have hlen:=dP m' cs cQ
 have SS:l.length*row.length≤cur.size:=by rw [cz];exact Nat.mul_le_mul_right _ hle
 have QT:off*row.length+cs.length≤l.length*row.length:=by rw [hlen,←Nat.add_mul];exact Nat.mul_le_mul_right _ oU
 refine hB.write hd (k:=k) (fz:= []) (ab:= .row e row _ false) (by simp [hk]) hb iF hg ⟨rfl,rfl,rfl⟩ (by simp) ?_ (pZ _)
 intro A2 h1 h2 h3
 have hK:cy w (w.setRow b (cur.toList.take (off*row.length)++cs++cur.toList.drop (off*row.length+cs.length)).toArray) A A2:=fun b' bu=>⟨h1 b' bu,setRow_other w b b' _ (fun h'=>iF (h'▸bu))⟩
 have QS:(l.take off++m'++l.drop (off+m'.length)).length=l.length:=by simp;omega
 have QU:(cur.toList.take (off*row.length)++cs++cur.toList.drop (off*row.length+cs.length)).toArray.size=cur.size:=by simp;omega
 refine⟨_,⟨?_, .inr ⟨b,cap,_,by rw [bT,QS],by omega,setRow_heap w b cur _ e _ hg,by omega,rU,QU.trans cz,rfl⟩⟩,?_,fun b' bu=> ?_⟩
 · rw [List.length_take,QS]
   refine Nat.min_eq_left (Nat.le_trans SS (Nat.le_of_eq QU.symm))
 · rw [QS]
   have Ar:(cur.toList.take (off*row.length)++cs++cur.toList.drop (off*row.length+cs.length)).take (l.length*row.length)=
     (cur.toList.take (l.length*row.length)).take (off*row.length)++cs++(cur.toList.take (l.length*row.length)).drop ((off+m'.length)*row.length):=by
    rw [List.take_take,Nat.min_eq_left (by omega),List.take_append,List.take_of_length_le (by simp;omega),Nat.add_mul,←hlen,List.drop_take]
    congr 1
    congr 1
    simp;omega
   have e1:(cur.toList.take (off*row.length)++cs++cur.toList.drop (off*row.length+cs.length)).toArray.toList=cur.toList.take (off*row.length)++cs++cur.toList.drop (off*row.length+cs.length):=by simp
   rw [e1,Ar]
   have s1:=dq l _ off hL
   have s2:=dq l _ (off+m'.length) hL
   exact br (fun c x hx=>bt hK row c x hx) _ _ (fP _ _ _ _ (fP _ _ _ _ s1.1 cQ) s2.2)
 · rw [hb] at bu;simp only [Option.some.injEq] at bu;subst bu
   simp only [Bool.false_eq_true,if_false]
   intro A7
   rcases h2 _ A7 with h|⟨q,hq,_⟩
   · exact iF h
   · simp at hq
theorem IX(hT:bw T P)(hB:aE C A β st a w) {dst:Option Nat}(hd:∀t,dst=some t→t<st.n) {t t' ty:TypeId} {s x:AV} {vs vx:Value}(hs:ae w A β vs s)(hx:ae w A β vx x) {out:Out}
  (h:mg T st.h t t' s x=some out) (hc:∀p∈out.cond,p):∃v' w',(Builtin.copy_ #[t,t'] ty #[vs,vx]).run P w= .ok v' w'∧Rel C (st.put dst out) (a.put dst v') w':=by
 unfold mg at h
 split at h
 · rename_i k
   split at h
   · rename_i e row l hk
     cases hq:bk T t row.length with
     |false=>simp [hq] at h
     |true=>
      simp only [hq,cond_true] at h
      obtain⟨el,i,hu,hi,cz,gy⟩:=dH hT hq
      split at h
      · rename_i m hm
        simp only [Option.some.injEq] at h;subst h
        obtain⟨cs,ew⟩:=Aq (P:=P) hB hx hm
        simp only [ae] at hs
        obtain⟨rfl,_⟩:=hs
        rcases dI hB hk with⟨g1,g2⟩|⟨b,cap,cur,g1,g2,g3,g4,g5,g6,g7⟩
        · subst g2
          have hf:=ew.first w rfl 0 (Nat.zero_le _)
          simp only [Nat.zero_mul,List.take_zero] at hf
          rw [g1]
          refine⟨_,_,su (ty:=ty) hu hi ew.len (by rw [cz];exact hf),?_⟩
          have :=hB.same (dst:=dst) hd (c:= []) (r:= .int .i64 0) (v:= .int .i64 0) hk (by simp [ae,lo,Vg.hi])
          simpa using Rel.jB this
        · simp only [Bool.false_eq_true,if_false] at g7
          have hn:min m.length l.length≤m.length:=Nat.min_le_left _ _
          have hf:=ew.first w rfl _ hn
          have sw:=(dq m cs (min m.length l.length) ew.rd).1
          have hlen:=dP _ _ sw
          have wW:(m.take (min m.length l.length)).length=min m.length l.length:=by simp
          have hr:=Bd (P:=P) (ty:=ty) (t':=t') (dLen:=l.length) (dCap:=cap) (off:=0) hu hi g2 ew.len (by rw [cz];exact hf) (si _ _ sw) (by
           rw [hlen,wW,g5]
           have :min m.length l.length*row.length≤cap*row.length:=Nat.mul_le_mul_right _ (by omega)
           omega)
          rw [g1]
          refine⟨_,_,hr,?_⟩
          have xd:=yA hB hd hk g1 (off:=0) (c:= []) sw (by rw [wW];omega) (fun w'=>sv (w:=w') (min m.length l.length) (by unfold maxLen;unfold maxLen at g4;omega)) g2 g5 g3 g4 g6 g7
          have e1:m.take l.length++l.drop m.length=l.take 0++m.take (min m.length l.length)++l.drop (0+(m.take (min m.length l.length)).length):=by
           rw [wW]
           simp only [List.take_zero,List.nil_append,Nat.zero_add]
           rcases Nat.le_total m.length l.length with hh|hh
           · rw [Nat.min_eq_left hh,List.take_of_length_le hh,List.take_length]
           · rw [Nat.min_eq_right hh,List.drop_length,List.drop_of_length_le hh]
          rw [e1]
          simpa using xd
      · cases h
   · cases h
 · rename_i k sz off n
   split at h
   · rename_i e row l hk
     cases hq:(bk T t row.length&&Nat.beq sz row.length) with
     |false=>simp [hq] at h
     |true=>
      simp only [hq,cond_true] at h
      simp only [Bool.and_eq_true] at hq
      obtain⟨q1,q2⟩:=hq
      have q2:=Nat.eq_of_beq_eq_true q2
      subst q2
      obtain⟨el,i,hu,hi,cz,gy⟩:=dH hT q1
      split at h
      · rename_i m hm
        simp only [Option.some.injEq] at h;subst h
        obtain⟨cs,ew⟩:=Aq (P:=P) hB hx hm
        have hon:=di hc
        simp only [ae] at hs
        rcases hs with⟨hn0,ad,cap,hv,yv⟩|⟨b',mm,gx,sc,hv,vH,am6,am7,am8⟩
        · subst hn0
          have hf:=ew.first w rfl 0 (Nat.zero_le _)
          simp only [Nat.zero_mul,List.take_zero] at hf
          rw [hv]
          refine⟨_,_,su (ty:=ty) hu hi ew.len (by rw [cz];exact hf),?_⟩
          have :=hB.same (dst:=dst) hd (c:= [off+0≤l.length]) (r:= .int .i64 0) (v:= .int .i64 0) hk (by simp [ae,lo,Vg.hi])
          simpa using Rel.jB this
        · rcases dI hB hk with⟨g1,g2⟩|⟨b,cap,cur,g1,g2,g3,g4,g5,g6,g7⟩
          · rw [g1] at hv;cases hv
          · rw [g1] at hv
            simp only [Value.slice.injEq,Option.some.injEq,Addr.mk.injEq,and_true] at hv
            obtain⟨rfl,rfl,rfl⟩:=hv
            simp only [Bool.false_eq_true,if_false] at g7
            have hn:min m.length n≤m.length:=Nat.min_le_left _ _
            have hf:=ew.first w rfl _ hn
            have sw:=(dq m cs (min m.length n) ew.rd).1
            have hlen:=dP _ _ sw
            have wW:(m.take (min m.length n)).length=min m.length n:=by simp
            have hr:=Bd (P:=P) (ty:=ty) (t':=t') (dLen:=n) (dCap:=sc) (off:=off*row.length) hu hi g2 ew.len (by rw [cz];exact hf) (si _ _ sw) (by
             rw [hlen,wW,g5,←Nat.add_mul]
             exact Nat.mul_le_mul_right _ (by omega))
            rw [vH]
            refine⟨_,_,hr,?_⟩
            have xd:=yA hB hd hk g1 (off:=off) (c:= [off+n≤l.length]) sw (by rw [wW];omega) (fun w'=>sv (w:=w') (min m.length n) (by unfold maxLen;unfold maxLen at g4;omega)) g2 g5 g3 g4 g6 g7
            have e1:m.take n=m.take (min m.length n):=by
             rcases Nat.le_total m.length n with hh|hh
             · rw [Nat.min_eq_left hh,List.take_of_length_le hh,List.take_length]
             · rw [Nat.min_eq_right hh]
            rw [e1]
            rw [wW] at xd
            exact xd
      · cases h
   · cases h
 · cases h
end
end Go.Vg

end
section
namespace Go.Vg
open Go
section
variable {P:Program} {C:Ctx} {A A':Nat→Prop} {β:Nat→Value} {st:St} {a:Act} {w:World} {T:b9}
theorem IY {t ty e:TypeId} {i:TypeInfo}(hu:P.underlying t=some (.slice e))(hi:P.info? e=some i) {z:Value}(hz:i.zero=some z) {b off n cap:Nat} {cur:Array Value} {be:TypeId}(hg:w.heap[b]? =some (.cells cur be (0,0)))
  {cs:List Value} (cQ:(Builtin.zeroCells z.cells n).toList=cs) (h1:∀u∈cs,u.oneCell'=true) (oU:off+cs.length≤cur.size) (hn:0<n):
  (Builtin.clear_ #[t] ty #[.slice (some ⟨b,off,none⟩) n cap]).run P w= .ok (.tuple #[]) (w.setRow b (cur.toList.take off++cs++cur.toList.drop (off+cs.length)).toArray):=by
 have kI:=run_storeCells_at P b off be cs 0 cur w hg (by simpa using oU) h1
 simp only [Nat.add_zero] at kI
 obtain⟨m,rfl⟩:∃m,n=m+1:=⟨n-1,by omega⟩
 simp [Builtin.clear_,run_underlying hu,zeroValue,typeInfo,hi,hz,cQ,kI]
theorem Hi(hT:bw T P)(hB:aE C A β st a w) {dst:Option Nat}(hd:∀t,dst=some t→t<st.n) {t ty:TypeId} {x:AV} {vx:Value}(hx:ae w A β vx x) {out:Out}
  (h:lr T st.h t x=some out) (hc:∀p∈out.cond,p):∃v' w',(Builtin.clear_ #[t] ty #[vx]).run P w= .ok v' w'∧Rel C (st.put dst out) (a.put dst v') w':=by
 have SU:∀w',ae w' A β (.tuple #[]) (.dc []):=fun w'=>by simp only [ae];exact⟨#[],rfl,by simp [ai]⟩
 unfold lr at h
 split at h
 · rename_i k sz off n
   split at h
   · rename_i e row l hk
     split at h
     · rename_i el te he lv
       obtain⟨hu,Hf,i,hi,mQ,IS,K8⟩:=wZ hT he lv
       cases hq:(bk T t row.length&&Nat.beq sz row.length&&Nat.beq row.length te.size&&ck row te.zero) with
       |false=>simp [hq] at h
       |true=>
        simp only [hq,cond_true,Option.some.injEq] at h
        subst h
        simp only [Bool.and_eq_true] at hq
        obtain⟨⟨⟨q0,q1⟩,q2⟩,q3⟩:=hq
        have q1:=Nat.eq_of_beq_eq_true q1
        have q2:=Nat.eq_of_beq_eq_true q2
        subst q1
        obtain⟨el',i',A5,iE,arj,gy⟩:=dH hT q0
        have hon:=di hc
        have hz:=pH (w:=w) (A:=A) q3
        have Lf:=fh row _ _ hz
        have Ed:te.zero.cells.size=te.size:=by simp at Lf;omega
        simp only [ae] at hx
        rcases hx with⟨hn0,ad,cap,hv,yv⟩|⟨b',mm,gx,sc,hv,vH,am6,am7,am8⟩
        · subst hn0
          rw [hv]
          refine⟨.tuple #[],w,by cases ad<;>simp [Builtin.clear_,run_underlying hu],?_⟩
          have :=hB.same (dst:=dst) hd (c:= [off+0≤l.length]) (r:= .dc []) (v:= .tuple #[]) hk (SU w)
          simpa using Rel.jB this
        · rcases dI hB hk with⟨g1,g2⟩|⟨b,cap,cur,g1,g2,g3,g4,g5,g6,g7⟩
          · rw [g1] at hv;cases hv
          · rw [g1] at hv
            simp only [Value.slice.injEq,Option.some.injEq,Addr.mk.injEq,and_true] at hv
            obtain⟨rfl,rfl,rfl⟩:=hv
            simp only [Bool.false_eq_true,if_false] at g7
            have jf:(Builtin.zeroCells te.zero.cells n).toList=(List.replicate n te.zero.cells.toList).flatten:=by
             have :=mY te.zero.cells (by omega) n
             simp [Builtin.zeroCells,this]
            have sw:=nR hz n
            have hlen:=dP _ _ sw
            rw [List.length_replicate] at hlen
            rw [vH]
            by_cases hn:n=0
            · subst hn
              refine⟨.tuple #[],w,by simp [Builtin.clear_,run_underlying hu],?_⟩
              have :=hB.same (dst:=dst) hd (c:= [off+0≤l.length]) (r:= .dc []) (v:= .tuple #[]) hk (SU w)
              simpa using Rel.jB this
            · have hr:=IY (P:=P) (ty:=ty) (n:=n) (cap:=sc) (off:=off*row.length) hu hi K8 g2 jf (si _ _ sw) (by
               rw [hlen,g5,←Nat.add_mul]
               exact Nat.mul_le_mul_right _ (by omega)) (by omega)
              refine⟨_,_,hr,?_⟩
              have xd:=yA hB hd hk g1 (off:=off) (c:= [off+n≤l.length]) (r:= .dc []) (v:= .tuple #[]) sw (by rw [List.length_replicate];omega) SU g2 g5 g3 g4 g6 g7
              rw [List.length_replicate] at xd
              exact xd
     · cases h
   · cases h
 · cases h
end
end Go.Vg

end
section
namespace Go.Vg
open Go
section
variable {P:Program} {C:Ctx} {A A':Nat→Prop} {β:Nat→Value} {st:St} {a:Act} {w:World} {T:b9}
theorem xe:∀(u:List UInt8) (cs:List Value),bW (bg w A [.int .u8]) cs u→cs=u.map fun b=>Value.int .u8 (b.toNat:Int)
 | [],cs,h=>by simp only [bW] at h;simp [h]
 |b::u,cs,⟨c1,c2,hc,h1,h2⟩=>by
  subst hc
  simp only [bg] at h1
  obtain⟨v,vs,rfl,h3,rfl⟩:=h1
  simp only [Rd] at h3
  rw [xe u c2 h2]
  simp only [List.map_cons,List.cons_append,List.nil_append,List.cons.injEq,and_true]
  exact h3.1
theorem foldl_push:∀(u:List UInt8) (r:ByteArray),(u.map fun b=>(b.toNat:Int)).foldl (fun r n=>r.push (UInt8.ofNat n.toNat)) r=⟨(r.data.toList++u).toArray⟩
 | [],r=>by simp
 |b::u,r=>by
  simp only [List.map_cons,List.foldl_cons]
  rw [foldl_push u]
  simp
theorem sx(hB:aE C A β st a w) {x:AV} {v:Value}(hx:ae w A β v x) {u:List UInt8}(h:jA st.h [.int .u8] x=some u)(IZ:∀n c,v= .slice none n c→n=0)(vO:∃ad n c,v= .slice ad n c):
  (Conv.bytesToString v).run P w= .ok (.string ⟨u.toArray⟩) w∧u.length≤maxLen:=by
 obtain⟨cs,ew⟩:=Aq (P:=P) hB hx h
 have cQ:=xe u cs ew.rd
 obtain⟨ad,n,c,rfl⟩:=vO
 have hn:n=u.length:=by
  have :=ew.len
  simpa [Builtin.lenOf] using this
 refine⟨?_,ew.max⟩
 cases ad with
 |none=>
  have :=IZ n c rfl
  have hu:u= []:=List.eq_nil_of_length_eq_zero (by omega)
  subst hu
  simp [Conv.bytesToString]
  rfl
 |some p=>
  have hf:=ew.first w rfl u.length (Nat.le_refl _)
  have hl:=dP (row:= [.int .u8]) u cs ew.rd
  simp only [List.length_singleton,Nat.mul_one] at hf hl
  rw [←hl,List.take_length] at hf
  have afi:(loadCells p n).run P w= .ok ((u.map fun b=>(b.toNat:Int)).map (Value.int .u8)).toArray w:=by
   simp only [Builtin.firstCells,Nat.mul_one] at hf
   rw [hn,←hl,hf,cQ]
   simp
  rw [run_bytesToString w p n c _ afi,foldl_push]
  simp
theorem sy(hB:aE C A β st a w) {dst:Option Nat}(hd:∀t,dst=some t→t<st.n) {e:TypeId} {u:List UInt8}(hu:u.length≤maxLen) {c:List Prop}:
  ∃v' w',(Conv.stringToBytes e ⟨u.toArray⟩).run P w= .ok v' w'∧Rel C (st.put dst {cond:=c,res:= .sl [.int .u8] u}) (a.put dst v') w':=by
 let cap:=grownCap w u.length 0 e
 have I0:u.length≤cap:=grownCap_ge w u.length 0 e
 have yv:cap≤maxLen:=grownCap_le_maxLen w u.length 0 e hu
 let arr:Array Value:=(u.map fun b=>Value.int .u8 (b.toNat:Int)).toArray++Array.replicate (cap-u.length) (.int .u8 0)
 let w':World:=(w.drew.alloc (.cells arr e)).freeze ⟨w.heap.size,arr.size,none⟩ 1
 have fQ:(Conv.stringToBytes e ⟨u.toArray⟩).run P w= .ok (.slice (some ⟨w.heap.size,0,none⟩) u.length cap) w':=by
  have Eg:(w.drew.alloc (.cells arr e)).shape? w.heap.size=some (e,arr.size):=by
   have :=heap_alloc_new w.drew (.cells arr e)
   unfold World.shape?
   rw [show(w.drew.alloc (.cells arr e)).heap[w.heap.size]? =some (.cells arr e) from this]
  have h1:(⟨u.toArray⟩:ByteArray).size=u.length:=af2 u
  simp only [Conv.stringToBytes,Sem.run_bind,run_choose,Question.forced,Bool.false_eq_true,if_false,Result.andThen_ok,h1,newRow,run_newObj,Sem.run_pure,markStringish,run_shape]
  have hg:(Question.appendCap u.length 0 e).cut (w.tape w.drawn (Question.appendCap u.length 0 e))=cap:=rfl
  rw [hg]
  have SV:Array.map (fun b:UInt8=>Value.int IntKind.u8 (b.toNat:Int)) u.toArray++Array.replicate (cap-u.length) (Value.int IntKind.u8 0)=arr:=by
   simp [arr]
  rw [SV]
  have hw2:({heap:=w.heap.push (Obj.cells arr e),tape:=w.tape,drawn:=w.drawn+1,os:=w.os,output:=w.output}:World)=w.drew.alloc (.cells arr e):=rfl
  simp only [hw2,Eg,run_freeze,Result.andThen_ok]
  rfl
 have lU:∀b,b<w.heap.size→w'.heap[b]? =w.heap[b]? :=by
  intro b hb
  have h2:(w.drew.alloc (.cells arr e)).heap[b]? =w.heap[b]? :=nQ (w:=w.drew) _ b hb
  simp only [w',World.freeze,Nat.one_ne_zero,if_false,Array.getElem?_modify]
  rw [if_neg (by omega)]
  exact h2
 have cR:∃fz,w'.heap[w.heap.size]? =some (.cells arr e fz):=by
  have h2:(w.drew.alloc (.cells arr e)).heap[w.heap.size]? =some (.cells arr e):=heap_alloc_new w.drew _
  simp only [w',World.freeze,Nat.one_ne_zero,if_false,Array.getElem?_modify,if_true,h2,Option.map_some]
  exact⟨_,rfl⟩
 obtain⟨fz,cR⟩:=cR
 have mI:w'.heap.size=w.heap.size+1:=by
  have :(w.drew.alloc (.cells arr e)).heap.size=w.heap.size+1:=by simp
  simp only [w',World.freeze,Nat.one_ne_zero,if_false,Array.size_modify]
  exact this
 let A':Nat→Prop :=fun b=>A b∨b=w.heap.size
 have hK:cy w w' A A':=fun b hb=>⟨.inl hb,lU b (hB.bound b hb)⟩
 refine⟨_,w',fQ,A',β,?_⟩
 refine hB.step (out:= {cond:=c,res:= .sl [.int .u8] u}) hd (by simp [ar]) (by simp [ar]) (fun _ _=>rfl) hK rfl rfl rfl (by omega) (fun b hb _=>lU b hb) ?_ ?_ (by simp [ar]) (by simp [ar]) (by simp [ar]) (by simp [ar]) ?_
 · intro b hb
   rcases hb with hb|rfl
   · have :=hB.bound b hb;omega
   · omega
 · intro b hb
   rcases hb with hb|rfl
   · exact .inl hb
   · exact .inr (.inl (Nat.le_refl _))
 · simp only [ae,Rd]
   refine⟨_,cap,_,rfl,I0,yv,A4 u,fun _=>⟨w.heap.size,0,rfl, .inr rfl,fun j v hj=> ?_⟩⟩
   simp only [World.cell?,cR,Nat.zero_add]
   have dX:j<(u.map fun b=>Value.int .u8 (b.toNat:Int)).length:=by
    rcases Nat.lt_or_ge j (u.map fun b=>Value.int .u8 (b.toNat:Int)).length with h|h
    · exact h
    · rw [List.getElem?_eq_none h] at hj;cases hj
   simp only [arr,Option.isSome_none,Bool.false_eq_true,if_false]
   rw [Array.getElem?_append_left (by simpa using dX)]
   simpa using hj
theorem SX {row:List Ty} {n c:Nat} {l:List (Row row)}(h:Rd w A (.slice row) (.slice none n c) l)(hp:0<row.length):n=0:=by
 simp only [Rd] at h
 obtain⟨ad,cap,cs,h1,h2,h3,h4,h5⟩:=h
 simp only [Value.slice.injEq] at h1
 obtain⟨rfl,rfl,rfl⟩:=h1
 have hl:=dP l cs h4
 by_cases hc:cs= []
 · subst hc
   simp only [List.length_nil] at hl
   rcases Nat.mul_eq_zero.1 hl.symm with h|h
   · exact h
   · omega
 · obtain⟨b,o,h,_⟩:=h5 hc
   cases h
theorem Lh(hB:aE C A β st a w) {x:AV} {v:Value}(hx:ae w A β v x)(hn:qA x=true) {u:List UInt8}(h:jA st.h [.int .u8] x=some u):
  (∃ad n c,v= .slice ad n c)∧∀n c,v= .slice none n c→n=0:=by
 have vO:∀ {row:List Ty} {l:List (Row row)},row= [.int .u8]→Rd w A (.slice row) v l→(∃ad n c,v= .slice ad n c)∧∀n c,v= .slice none n c→n=0:=by
  intro row l hr h
  obtain⟨ad,cap,rfl,_⟩:=qH h
  refine⟨⟨_,_,_,rfl⟩,fun n c he=> ?_⟩
  simp only [Value.slice.injEq] at he
  obtain⟨rfl,rfl,rfl⟩:=he
  exact SX h (by subst hr;simp)
 unfold jA at h
 split at h
 · simp [qA] at hn
 · simp only [ae] at hx;subst hx
   exact⟨⟨_,_,_,rfl⟩,fun n c h=>by simp only [Value.slice.injEq] at h;omega⟩
 · rename_i h1 h2
   cases x with
   |sl r l=>
    simp only [eT] at h
    obtain⟨e,_⟩:=gz h
    exact vO e hx
   |full r l=>
    simp only [eT] at h
    obtain⟨e,_⟩:=gz h
    simp only [ae] at hx
    exact vO e hx.1
   |own k=>
    simp only [eT] at h
    simp only [ae] at hx
    cases hk:st.h k with
    |none=>simp [hk] at h
    |some ab=>
     cases ab with
     |cells cs=>simp [hk] at h
     |arr _ _=>simp [hk] at h
     |views e j n m sz=>simp [hk] at h
     |fZ _ _ _ _ _=>simp [hk] at h
     |row e row l fr=>
      rcases j4 hB hk with⟨g1,g2⟩|⟨b,cap,cs,g1,_⟩
      · rw [hx.1,g1];exact⟨⟨_,_,_,rfl⟩,fun n c h=>by simp only [Value.slice.injEq] at h;omega⟩
      · rw [hx.1,g1];exact⟨⟨_,_,_,rfl⟩,fun n c h=>by simp only [Value.slice.injEq] at h;cases h.1⟩
   |pre k n=>
    simp only [ae] at hx
    rcases hx with⟨_,h,_⟩|⟨b,m,cap,_,h,_⟩
    · rw [h];exact⟨⟨_,_,_,rfl⟩,fun n c h=>by simp only [Value.slice.injEq] at h;omega⟩
    · rw [h];exact⟨⟨_,_,_,rfl⟩,fun n c h=>by simp only [Value.slice.injEq] at h;cases h.1⟩
   |view k sz off n=>
    simp only [ae] at hx
    rcases hx with⟨_,ad,c,h,_⟩|⟨b,m,cap,gx,_,h,_⟩
    · rw [h];exact⟨⟨_,_,_,rfl⟩,fun n c h=>by simp only [Value.slice.injEq] at h;omega⟩
    · rw [h];exact⟨⟨_,_,_,rfl⟩,fun n c h=>by simp only [Value.slice.injEq] at h;cases h.1⟩
   |_=>simp [eT] at h
def SY(P:Program)(C:Ctx)(st:St)(a:Act)(w:World)(d:Option Nat)(out:Out)(s:Sem Value):Prop :=∃v w',s.run P w= .ok v w'∧Rel C (st.put d out) (a.put d v) w'
theorem Reads.oY(hB:aE C A β st a w) {dst:Option Nat}(hd:∀t,dst=some t→t<st.n) {s:Sem Value} {out:Out}(h:Reads P A β w s out):SY P C st a w dst out s:=
 let⟨hq,v,h1,h2⟩:=h
 ⟨v,w,h1,Rel.jB (hB.quiet hd hq h2)⟩
theorem Li(hT:bw T P)(hB:aE C A β st a w) {dst:Option Nat}(hd:∀t,dst=some t→t<st.n) {s d:TypeId} {k:Nat} {v:Value}(hx:ae w A β v (.own k)) {out:Out}
  (h:tX T st.h s d k=some out) (hc:∀p∈out.cond,p):SY P C st a w dst out (convert s d v):=by
 unfold tX at h
 cases ė:Nat.beq s d with
 |false=>simp [ė] at h
 |true=>
  have ė:=Nat.eq_of_beq_eq_true ė
  subst ė
  simp only [Nat.beq_refl,cond_true] at h
  split at h
  · rename_i ts vP
    have mK:=iJ hT vP
    split at h
    · rename_i e z7
      rw [z7] at mK
      split at h
      · rename_i te e0 row l lv hk
        have I1:=iJ hT lv
        split at h
        · rename_i l' SZ fS
          rw [SZ] at I1
          obtain⟨he,hl⟩:=gz fS
          subst he
          simp only at hl
          subst hl
          simp only [Option.some.injEq] at h
          subst h
          have gy:0<l.length:=di hc
          obtain⟨xs,ho,pG,iF⟩:=hB.blocks k _ hk
          simp only [ae] at hx
          rcases ho.2 with⟨_,h0⟩|⟨g,cap,cur,hv,_,hg,hn,I0,cz,IU⟩
          · omega
          · have vF:ax (β k)=some g:=by rw [hv];rfl
            have am9:¬A g:=by have :=iF g vF;simpa using this
            have ark:g<w.heap.size:=(Array.getElem?_eq_some_iff.1 hg).1
            rw [hx.1,hv]
            let w':World:=w.freeze ⟨g,cur.size,none⟩ 1
            have Eg:w.shape? g=some (e0,cur.size):=by simp [World.shape?,hg]
            have fQ:(convert s s (.slice (some ⟨g,0,none⟩) l.length cap)).run P w= .ok (.slice (some ⟨g,0,none⟩) l.length cap) w':=by
             simp only [convert,Sem.run_bind,run_underlying mK,run_underlying I1,Result.andThen_ok,beq_self_eq_true,markStringish,run_shape,Eg,run_freeze,Sem.run_pure]
             rfl
            have lU:∀b,b≠g→w'.heap[b]? =w.heap[b]? :=by
             intro b hb
             simp only [w',World.freeze,Nat.one_ne_zero,if_false,Array.getElem?_modify]
             rw [if_neg (Ne.symm hb)]
            have cR:∃fz,w'.heap[g]? =some (.cells cur e0 fz):=by
             simp only [w',World.freeze,Nat.one_ne_zero,if_false,Array.getElem?_modify,if_true,hg,Option.map_some]
             exact⟨_,rfl⟩
            obtain⟨fz,cR⟩:=cR
            have mI:w'.heap.size=w.heap.size:=by simp only [w',World.freeze,Nat.one_ne_zero,if_false,Array.size_modify]
            have hK:cy w w' A (fun b=>A b∨b=g):=fun b hb=>⟨.inl hb,lU b (fun h=>am9 (h▸hb))⟩
            have adV:jI st {cond:= [0<l.length],res:= .sl [.int .u8] l,del:= [k]} k:=⟨by simp [hk], .inr (by simp [aG])⟩
            refine⟨_,w',fQ,fun b=>A b∨b=g,β,?_⟩
            refine hB.step (out:= {cond:= [0<l.length],res:= .sl [.int .u8] l,del:= [k]}) hd (by simp [ar]) (by simp [ar]) (fun _ _=>rfl) hK rfl rfl rfl (by omega) (fun b hb đ=>lU b (fun h=>đ k adV (by rw [h];exact vF))) ?_ ?_ (by simp [ar]) (by simp [ar]) (by simp [ar]) (by simp [ar]) ?_
            · intro b hb
              rcases hb with hb|rfl
              · have :=hB.bound b hb;omega
              · omega
            · intro b hb
              rcases hb with hb|rfl
              · exact .inl hb
              · exact .inr (.inr ⟨k,adV,vF⟩)
            · simp only [ae,Rd]
              refine⟨_,cap,xs,rfl,hn,I0,br (fun c x hx=>bt hK _ c x hx) _ _ pG,fun _=>⟨g,0,rfl, .inr rfl,fun j u hj=> ?_⟩⟩
              rw [←IU,List.getElem?_take] at hj
              split at hj
              · simp only [World.cell?,cR,Nat.zero_add,Option.isSome_none,Bool.false_eq_true,if_false]
                simpa using hj
              · cases hj
        · cases h
      · cases h
    · cases h
  · cases h
theorem Be(hT:bw T P)(hB:aE C A β st a w) {dst:Option Nat}(hd:∀t,dst=some t→t<st.n) {s d:TypeId} {x:AV} {v:Value}(hx:ae w A β v x) {out:Out}
  (h:kn T st.h s d x=some out) (hc:∀p∈out.cond,p):SY P C st a w dst out (convert s d v):=by
 unfold kn at h
 split at h
 · rename_i ts td vP htd
   have mK:=iJ hT vP
   have I2:=iJ hT htd
   split at h
   · rename_i k0 k k' n z7 se
     rw [z7] at mK;rw [se] at I2
     simp only [ae] at hx
     obtain⟨rfl,hn⟩:=hx
     have fQ:(convert s d (.int k' n)).run P w= .ok (.int k (k.wrap n)) w:=by
      simp [convert,run_underlying mK,run_underlying I2,Conv.intToInt]
     split at h
     · rename_i hr
       simp only [Option.some.injEq] at h;subst h
       have hin:lo k≤n∧n≤hi k:=by omega
       rw [sd hin] at fQ
       exact Reads.oY hB hd ⟨⟨rfl,rfl,rfl⟩,_,fQ,by simp only [ae];exact⟨trivial,hin⟩⟩
     · obtain⟨hq,hr,_⟩:=lx (w:=w) (A:=A) (β:=β) h hc
       exact Reads.oY hB hd ⟨hq,_,fQ,hr⟩
   · rename_i u z7 se
     rw [z7] at mK;rw [se] at I2
     simp only [Option.some.injEq] at h;subst h
     have wX:=hx
     simp only [ae] at hx
     obtain⟨rfl,hn⟩:=hx
     exact Reads.oY hB hd ⟨⟨rfl,rfl,rfl⟩,_,by simp [convert,run_underlying mK,run_underlying I2],wX⟩
   · rename_i e u z7 se
     rw [z7] at mK;rw [se] at I2
     simp only [ae] at hx
     obtain⟨rfl,hn⟩:=hx
     split at h
     · rename_i te lv
       have I1:=iJ hT lv
       split at h
       · rename_i SZ
         rw [SZ] at I1
         simp only [Option.some.injEq] at h;subst h
         obtain⟨v',w',h1,h2⟩:=sy (P:=P) hB hd (e:=e) hn (c:= [])
         exact⟨v',w',by simp [convert,run_underlying mK,run_underlying I2,run_underlying I1,h1],h2⟩
       · cases h
     · cases h
   · rename_i e z7 se
     rw [z7] at mK;rw [se] at I2
     split at h
     · rename_i te lv
       have I1:=iJ hT lv
       split at h
       · rename_i SZ
         rw [SZ] at I1
         split at h
         · rename_i u QU hu
           simp only [Option.some.injEq] at h;subst h
           have hvs:=Lh hB hx QU hu
           obtain⟨h1,h2⟩:=sx (P:=P) hB hx hu hvs.2 hvs.1
           obtain⟨ad,n,c,rfl⟩:=hvs.1
           refine Reads.oY hB hd ⟨⟨rfl,rfl,rfl⟩, .string ⟨u.toArray⟩,?_,by simp only [ae];exact⟨trivial,h2⟩⟩
           simp [convert,run_underlying mK,run_underlying I2,run_underlying I1,h1]
         · cases h
       · cases h
     · cases h
   · exact Li hT hB hd hx h hc
   · cases h
 · cases h
end
end Go.Vg

end
section
namespace Go.Vg
open Go
structure jg (w:World) (A:Nat→Prop) (w':World) (v:Value) (res:AV) (bs:List AB) (A':Nat→Prop) (aJ:Nat→Value):Prop where
 os:w'.os=w.os
 tape:w'.tape=w.tape
 output:w'.output=w.output
 size:w.heap.size≤w'.heap.size
 same:∀b,b<w.heap.size→w'.heap[b]? =w.heap[b]?
 mono:∀b,A b→A' b
 old:∀b,b<w.heap.size→A' b→A b
 bound:∀b,A' b→b<w'.heap.size
 res:ae w' A' aJ v res
 rows:∀i ab,bs[i]? =some ab→BR w' A' aJ i ab∧∀b,ax (aJ i)=some b→w.heap.size≤b
 apart:∀i j b,i<bs.length→j<bs.length→ax (aJ i)=some b→ax (aJ j)=some b→i=j
def Valid(P:Program)(G:Nat→Option GD)(f:FuncId)(s:bc):Prop :=
 ∀(w:World) (A:Nat→Prop) (β:Nat→Value) (args:List Value) (cd:List AV) (pre:Prop) (res:AV) (bs:List AB),
  (∀b,A b→b<w.heap.size)→(∀i d,G i=some d→mH w A i d)→ai w A β args cd→s cd=some (pre,res,bs)→pre→
  Calls P f args.toArray w fun e w'=>∃v,e= .returned v∧∃A' aJ,jg w A w' v res bs A' aJ
def HM(β:Nat→Value)(n:Nat)(b:Nat):Prop :=∃i,i<n∧ax (β (50000+i))=some b
def Lj(r:fe)(k:Nat):Prop :=(∃i ab,k=50000+i∧i<10000∧r.heap[i]? =some (some ab))∨∃j,k=60000+j∧j<r.new.length
structure Hj (w:World) (A:Nat→Prop) (β:Nat→Value) (n:Nat) (w':World) (v:Value) (r:fe) (A':Nat→Prop) (aJ:Nat→Value):Prop where
 os:w'.os=w.os
 tape:w'.tape=w.tape
 output:w'.output=w.output
 size:w.heap.size≤w'.heap.size
 same:∀b,b<w.heap.size→¬HM β n b→w'.heap[b]? =w.heap[b]?
 mono:∀b,A b→A' b∧w'.heap[b]? =w.heap[b]?
 old:∀b,b<w.heap.size→A' b→A b∨HM β n b
 bound:∀b,A' b→b<w'.heap.size
 res:ae w' A' aJ v r.res
 kept:∀i ab,r.heap[i]? =some (some ab)→BR w' A' aJ (50000+i) ab∧aJ (50000+i)=β (50000+i)
 rows:∀j ab,r.new[j]? =some ab→BR w' A' aJ (60000+j) ab∧∀b,ax (aJ (60000+j))=some b→w.heap.size≤b∨HM β n b
 apart:∀k k' b,Lj r k→Lj r k'→ax (aJ k)=some b→ax (aJ k')=some b→k=k'
def ca(P:Program)(G:Nat→Option GD)(f:FuncId)(s:eU):Prop :=
 ∀(w:World) (A:Nat→Prop) (β:Nat→Value) (args:List Value) (cd:List AV) (hs:List AB) (r:fe),
  (∀b,A b→b<w.heap.size)→(∀i d,G i=some d→mH w A i d)→ai w A β args cd→
  (∀i ab,hs[i]? =some ab→BR w A β (50000+i) ab)→(∀i j b,i<hs.length→j<hs.length→ax (β (50000+i))=some b→ax (β (50000+j))=some b→i=j)→
  s cd hs=some r→r.pre→r.heap.length=hs.length→hs.length≤100→
  Calls P f args.toArray w fun e w'=>∃v,e= .returned v∧∃A' aJ,Hj w A β hs.length w' v r A' aJ
section
variable {P:Program} {C:Ctx} {A A':Nat→Prop} {β aJ:Nat→Value} {st:St} {a:Act} {w:World} {T:b9}
mutual
theorem qL(base n:Nat)(bT:∀i,i<n→aJ (base+i)=β i):∀(x:AV) (v:Value),ij n x=true→ae w A β v x→ae w A aJ v (cV base x)
 | .own k,v,ho,h=>by
   simp only [ij] at ho
   have :=Nat.le_of_ble_eq_true ho
   simp only [cV,ae] at h ⊢
   rw [bT k (by omega)];exact h
 | .agg cs,v,ho,h=>by
   simp only [ij] at ho
   simp only [cV,ae] at h ⊢
   obtain⟨arr,h1,h2⟩:=h
   exact⟨arr,h1,sA base n bT cs _ ho h2⟩
 | .dc cs,v,ho,h=>by
   simp only [ij] at ho
   simp only [cV,ae] at h ⊢
   obtain⟨arr,h1,h2⟩:=h
   exact⟨arr,h1,sA base n bT cs _ ho h2⟩
 | .cF,v,ho,h=>by simp [ij] at ho
 | .pre _ _,v,ho,h=>by simp [ij] at ho
 | .view _ _ _ _,v,ho,h=>by simp [ij] at ho
 | .ref _ _,v,ho,h=>by simp [ij] at ho
 | .elem _ _ _ _,v,ho,h=>by simp [ij] at ho
 | .fn _ _ _,v,ho,h=>by simp [ij] at ho
 | .fu _ _ _,v,ho,h=>by simp [ij] at ho
 | .undef,v,_,h=>by simpa only [cV,ae] using h
 | .int _ _,v,_,h=>by simpa only [cV,ae] using h
 | .bool _,v,_,h=>by simpa only [cV,ae] using h
 | .tt,v,_,h=>by simpa only [cV,ae] using h
 | .ff,v,_,h=>by simpa only [cV,ae] using h
 | .str _,v,_,h=>by simpa only [cV,ae] using h
 | .nil,v,_,h=>by simpa only [cV,ae] using h
 | .ir,v,_,h=>by simpa only [cV,ae] using h
 | .mP _ _,v,_,h=>by simpa only [cV,ae] using h
 | .jG,v,_,h=>by simpa only [cV,ae] using h
 | .sl _ _,v,_,h=>by simpa only [cV,ae] using h
 | .full _ _,v,_,h=>by simpa only [cV,ae] using h
theorem sA(base n:Nat)(bT:∀i,i<n→aJ (base+i)=β i):∀(xs:List AV) (vs:List Value),wI n xs=true→ai w A β vs xs→ai w A aJ vs (ny base xs)
 | [],vs,_,h=>by simpa only [ny,ai] using h
 |x::xs,vs,ho,h=>by
  simp only [wI,Bool.and_eq_true] at ho
  simp only [ai] at h
  obtain⟨v,bX,rfl,h1,h2⟩:=h
  simp only [ny,ai]
  exact⟨v,bX,rfl,qL base n bT x v ho.1 h1,sA base n bT xs bX ho.2 h2⟩
end
mutual
theorem Bf:∀(x:AV) (v:Value),x.dG=true→ae w A β v x→ae w A' β v x
 | .own _,v,_,h=>by simpa only [ae] using h
 | .agg cs,v,ho,h=>by
   simp only [AV.dG] at ho
   simp only [ae] at h ⊢
   obtain⟨arr,h1,h2⟩:=h
   exact⟨arr,h1,sB cs _ ho h2⟩
 | .dc cs,v,ho,h=>by
   simp only [AV.dG] at ho
   simp only [ae] at h ⊢
   obtain⟨arr,h1,h2⟩:=h
   exact⟨arr,h1,sB cs _ ho h2⟩
 | .cF,v,ho,h=>by simp [AV.dG] at ho
 | .pre _ _,v,ho,h=>by simp [AV.dG] at ho
 | .view _ _ _ _,v,ho,h=>by simp [AV.dG] at ho
 | .ref _ _,v,ho,h=>by simp [AV.dG] at ho
 | .elem _ _ _ _,v,ho,h=>by simp [AV.dG] at ho
 | .fn _ _ _,v,ho,h=>by simp [AV.dG] at ho
 | .fu _ _ _,v,ho,h=>by simp [AV.dG] at ho
 | .ir,v,ho,h=>by simp [AV.dG] at ho
 | .mP _ _,v,ho,h=>by simp [AV.dG] at ho
 | .jG,v,ho,h=>by simp [AV.dG] at ho
 | .sl _ _,v,ho,h=>by simp [AV.dG] at ho
 | .full _ _,v,ho,h=>by simp [AV.dG] at ho
 | .undef,v,_,h=>by simpa only [ae] using h
 | .int _ _,v,_,h=>by simpa only [ae] using h
 | .bool _,v,_,h=>by simpa only [ae] using h
 | .tt,v,_,h=>by simpa only [ae] using h
 | .ff,v,_,h=>by simpa only [ae] using h
 | .str _,v,_,h=>by simpa only [ae] using h
 | .nil,v,_,h=>by simpa only [ae] using h
theorem sB:∀(xs:List AV) (vs:List Value),wH xs=true→ai w A β vs xs→ai w A' β vs xs
 | [],vs,_,h=>by simpa only [ai] using h
 |x::xs,vs,ho,h=>by
  simp only [wH,Bool.and_eq_true] at ho
  simp only [ai] at h ⊢
  obtain⟨v,bX,rfl,h1,h2⟩:=h
  exact⟨v,bX,rfl,Bf x v ho.1 h1,sB xs bX ho.2 h2⟩
end
theorem I3:∀(row:List Ty) (vs:List Value) (x:Row row),row.all Ap=true→bg w A row vs x→bg w A' row vs x
 | [],vs,_,_,h=>by simpa only [bg] using h
 |t::ts,vs,x,hf,h=>by
  simp only [List.all_cons,Bool.and_eq_true] at hf
  simp only [bg] at h ⊢
  obtain⟨v,bX,rfl,h1,h2⟩:=h
  refine⟨v,bX,rfl,?_,I3 ts bX _ hf.2 h2⟩
  cases t with
  |slice r=>simp [Ap] at hf
  |int k=>simpa only [Rd] using h1
  |bool=>simpa only [Rd] using h1
  |str=>simpa only [Rd] using h1
theorem oZ(base:Nat):∀(bs:List AB) (n k:Nat),ar (eh (base+n) bs) k=(if base+n≤k then bs[k-(base+n)]? else none)
 | [],n,k=>by simp [eh,ar]
 |b::bs,n,k=>by
  simp only [eh,ar]
  by_cases hk:k=base+n
  · subst hk;simp
  · simp only [aP hk,cond_false]
    have :=oZ base bs (n+1) k
    rw [show base+(n+1)=base+n+1 by omega] at this
    rw [this]
    by_cases h1:base+n≤k
    · rw [if_pos h1,if_pos (by omega)]
      have :k-(base+n)=(k-(base+n+1))+1:=by omega
      rw [this,List.getElem?_cons_succ]
    · rw [if_neg h1,if_neg (by omega)]
theorem uW:∀(bs:List AB) (i:Nat) (ab:AB),gw bs=true→bs[i]? =some ab→∃e row l,ab= .row e row l false
 | [],i,ab,_,h=>by simp at h
 | .cells _::bs,_,_,h,_=>by simp [gw] at h
 | .arr _ _::bs,_,_,h,_=>by simp [gw] at h
 | .fZ _ _ _ _ _::bs,_,_,h,_=>by simp [gw] at h
 | .views _ _ _ _ _::bs,_,_,h,_=>by simp [gw] at h
 | .row e row l true ::bs,_,_,h,_=>by simp [gw] at h
 | .row e row l false ::bs,0,ab,_,h=>by simp at h;exact⟨e,row,l,h.symm⟩
 | .row e row l false ::bs,i+1,ab,ho,h=>uW bs i ab (by simpa [gw] using ho) (by simpa using h)
theorem uX:∀(bs:List AB) (i:Nat) (e:Nat) (row:List Ty) (l:List (Row row)) (fr:Bool),cK bs=true→bs[i]? =some (.row e row l fr)→row.all Ap=true
 | [],i,_,_,_,_,_,h=>by simp at h
 | .cells _::bs,_,_,_,_,_,h,_=>by simp [cK] at h
 | .arr _ _::bs,_,_,_,_,_,h,_=>by simp [cK] at h
 | .fZ _ _ _ _ _::bs,_,_,_,_,_,h,_=>by simp [cK] at h
 | .views _ _ _ _ _::bs,_,_,_,_,_,h,_=>by simp [cK] at h
 | .row e row l fr::bs,0,e',gO,l',yj,ho,h=>by
   simp only [cK,Bool.and_eq_true] at ho
   simp only [List.getElem?_cons_zero,Option.some.injEq,AB.row.injEq] at h
   obtain⟨_,rfl,_⟩:=h
   exact ho.1
 | .row e row l fr::bs,i+1,e',gO,l',yj,ho,h=>by
   simp only [cK,Bool.and_eq_true] at ho
   exact uX bs i e' gO l' yj ho.2 (by simpa using h)
theorem gQ {h:aQ}:∀(new:List (Nat×AB)) (k:Nat) (b:AB),gU h new=true→ar new k=some b→h k=none∧mW k=false
 | [],k,b,_,hf=>by simp [ar] at hf
 |(j,x)::r,k,b,ho,hf=>by
  simp only [gU,Bool.and_eq_true] at ho
  simp only [ar] at hf
  by_cases hk:k=j
  · subst hk
    cases hh:h k with
    |none=>rw [hh] at ho;exact⟨rfl,by simpa using ho.1⟩
    |some y=>simp [hh] at ho
  · simp only [aP hk,cond_false] at hf
    exact gQ r k b ho.2 hf
theorem aE.call(hB:aE C A β st a w) {dst:Option Nat}(hd:∀t,dst=some t→t<st.n) {base:Nat} {res:AV} {bs:List AB} {fz:List Nat} {cond:List Prop} {v:Value} {w':World} {A1:Nat→Prop} {j5:Nat→Value}
  (vN:∀j∈fz,∃e row l fr,st.h j=some (.row e row l fr)) (cR:gU st.h (eh base bs)=true) (Ę:ij bs.length res=true) (hor:gw bs=true)
  (hp:jg w (bG A β fz) w' v res bs A1 j5):
  Rel C (st.put dst {cond:=cond,res:=cV base res,fH:=bif res.dG&&cK bs then [] else b4 st.h fz,new:=eh base bs}) (a.put dst v) w':=by
 let aJ:Nat→Value:=fun k=>if base≤k∧k<base+bs.length then j5 (k-base) else β k
 have Bg:∀i,i<bs.length→aJ (base+i)=j5 i:=by
  intro i hi
  simp only [aJ]
  rw [if_pos (by omega)]
  congr 1;omega
 have o0:∀k,ar (eh base bs) k=(if base≤k then bs[k-base]? else none):=fun k=>by simpa using oZ base bs 0 k
 have bT:∀k,ar (eh base bs) k=none→aJ k=β k:=by
  intro k h
  rw [o0 k] at h
  simp only [aJ]
  rw [if_neg]
  rintro⟨h1,h2⟩
  rw [if_pos h1,List.getElem?_eq_none_iff] at h
  omega
 have lk:∀k ab,ar (eh base bs) k=some ab→base≤k∧bs[k-base]? =some ab∧k-base<bs.length:=by
  intro k ab h
  rw [o0 k] at h
  split at h
  · rename_i hb
    exact⟨hb,h,(List.getElem?_eq_some_iff.1 h).1⟩
  · cases h
 have uY:∀k ab,ar (eh base bs) k=some ab→aJ k=j5 (k-base):=by
  intro k ab h
  obtain⟨h1,h2,h3⟩:=lk k ab h
  have :=Bg (k-base) h3
  rwa [show base+(k-base)=k by omega] at this
 let A2:Nat→Prop :=bif res.dG&&cK bs then A else A1
 have anb:∀b,A b→A2 b:=by
  intro b hb
  simp only [A2]
  cases res.dG&&cK bs with
  |true=>exact hb
  |false=>exact hp.mono b (.inl hb)
 have hK:cy w w' A A2:=fun b hb=>⟨anb b hb,hp.same b (hB.bound b hb)⟩
 have wS:∀k ab,ar (bif res.dG&&cK bs then [] else b4 st.h fz) k=some ab→(res.dG&&cK bs)=false∧k∈fz∧∃e row l fr,st.h k=some (.row e row l fr)∧ab= .row e row l true :=by
  intro k ab h
  cases hl:res.dG&&cK bs with
  |true=>simp [hl,ar] at h
  |false=>
   rw [hl] at h
   obtain⟨h1,h2⟩:=gf fz k ab h
   exact⟨rfl,h1,h2⟩
 refine⟨A2,aJ,?_⟩
 refine hB.step (out:= {cond:=cond,res:=cV base res,fH:=bif res.dG&&cK bs then [] else b4 st.h fz,new:=eh base bs}) hd (fun k b h=>gQ _ k b cR h) ?_ bT hK hp.os hp.tape hp.output hp.size (fun b hb _=>hp.same b hb) ?_ ?_ ?_ ?_ ?_ ?_ ?_
 · intro k b h
   obtain⟨_,_,e,row,l,fr,h,_⟩:=wS k b h
   simp [h]
 · intro b hb
   simp only [A2] at hb
   cases hl:res.dG&&cK bs with
   |true=>rw [hl] at hb;exact Nat.lt_of_lt_of_le (hB.bound b hb) hp.size
   |false=>rw [hl] at hb;exact hp.bound b hb
 · intro b hb
   simp only [A2] at hb
   cases hl:res.dG&&cK bs with
   |true=>rw [hl] at hb;exact .inl hb
   |false=>
    rw [hl] at hb
    rcases Nat.lt_or_ge b w.heap.size with dX|zZ
    · rcases hp.old b dX hb with h|⟨j,hj,Lc⟩
      · exact .inl h
      · have hr:=vN j hj
        refine .inr (.inr ⟨j,⟨by obtain⟨_,_,_,_,hr⟩:=hr;simp [hr], .inl ?_⟩,Lc⟩)
        simp only [cond_false]
        exact lV fz j hj hr
    · exact .inr (.inl zZ)
 · intro k ab h _
   obtain⟨hl,hk,e,row,l,fr,hr,rfl⟩:=wS k ab h
   rw [jc]
   have hkn:ar (eh base bs) k=none:=by
    cases hh:ar (eh base bs) k with
    |none=>rfl
    |some y=>have :=(gQ _ k y cR hh).1;rw [hr] at this;cases this
   obtain⟨xs,h1,h2,h3⟩:=hB.blocks k _ hr
   simp only [BR,bT k hkn]
   refine⟨xs,fg h1 (fun b hb=>hp.same b (jK hB (by simp [hr]) hb)),br (fun c x hx=>bt hK row c x hx) l xs h2,fun b hb=> ?_⟩
   simp only [if_true,A2,hl,cond_false]
   exact hp.mono b (.inr ⟨k,hk,hb⟩)
 · intro k ab h
   obtain⟨h1,h2,h3⟩:=lk k ab h
   obtain⟨e,row,l,rfl⟩:=uW bs _ ab hor h2
   obtain⟨⟨xs,g1,g2,g3⟩,g4⟩:=hp.rows _ _ h2
   simp only [BR,uY k _ h]
   have pG:bW (bg w' A2 row) xs l:=by
    simp only [A2]
    cases hl:res.dG&&cK bs with
    |true=>
     simp only [Bool.and_eq_true] at hl
     exact br (fun c x hx=>I3 row c x (uX bs _ e row l false hl.2 h2) hx) l xs g2
    |false=>exact g2
   refine⟨xs,g1,pG,fun b hb=> ?_⟩
   have ę:=g3 b hb
   simp only [Bool.false_eq_true,if_false] at ę ⊢
   simp only [A2]
   cases hl:res.dG&&cK bs with
   |true=>intro hA;exact absurd (hB.bound b hA) (by have :=g4 b hb;omega)
   |false=>exact ę
 · intro k b ab h hb
   obtain⟨h1,h2,h3⟩:=lk k ab h
   rw [uY k _ h] at hb
   exact .inl ((hp.rows _ _ h2).2 b hb)
 · intro k k' b h h' hb bu
   obtain⟨x,hx⟩:=Option.isSome_iff_exists.1 h
   obtain⟨y,hy⟩:=Option.isSome_iff_exists.1 h'
   obtain⟨h1,h2,h3⟩:=lk k x hx
   obtain⟨g1,g2,g3⟩:=lk k' y hy
   rw [uY k _ hx] at hb
   rw [uY k' _ hy] at bu
   have :=hp.apart _ _ b h3 g3 hb bu
   omega
 · have pZ:=qL (aJ:=aJ) base bs.length Bg res v Ę hp.res
   simp only [A2]
   cases hl:res.dG&&cK bs with
   |false=>exact pZ
   |true=>
    simp only [Bool.and_eq_true] at hl
    exact qL (aJ:=aJ) base bs.length Bg res v Ę (Bf res v hl.1 hp.res)
end
end Go.Vg

end
section
namespace Go.Vg
open Go
def aB(P:Program)(f:FuncId):Prop :=∀(args:Array Value) (w:World),(callFunc f args).run P w= .ok (.enter f args) w
structure ak (P:Program) (E:Env):Prop where
 fU:bw E.T P
 sig:∀f s,E.sig f=some s→Valid P E.kD f s∧aB P f
 pX:∀f m s,E.pX f=some (m,s)→ca P E.kD f s∧aB P f
structure e6 (P:Program) (C:Ctx) (E:Env):Prop where
 ok:ak P E
 g:C.G=E.kD
theorem e6.fU {P:Program} {C:Ctx} {E:Env}(h:e6 P C E):bw E.T P:=h.ok.fU
theorem e6.pX {P:Program} {C:Ctx} {E:Env}(h:e6 P C E):∀f m s,E.pX f=some (m,s)→ca P E.kD f s∧aB P f:=h.ok.pX
theorem e6.sig {P:Program} {C:Ctx} {E:Env}(h:e6 P C E):∀f s,E.sig f=some s→Valid P E.kD f s∧aB P f:=h.ok.sig
def gB(st:St)(o:Oper):Bool:=match o.dst with
 |some d=>Nat.blt d st.n
 |none=>true
section
variable {P:Program} {C:Ctx} {A A':Nat→Prop} {β aJ:Nat→Value} {st:St} {a:Act} {w:World} {E:Env}
theorem mj(hB:aE C A β st a w):∀(xs:List Operand),ai w A β (xs.map a.eval) (xs.map (ev st))
 | []=>by simp [ai]
 |x::xs=>by
  simp only [List.map_cons,ai]
  exact⟨_,_,rfl,aW hB x,mj hB xs⟩
theorem cn {dst:Option Tmp} {op:Op} {type:TypeId} {pos:String} {after:Array Edge} {guard:Option (Nat×Bool)} {s:Sem Value} {out:Out}
  (hs:∀w,(execOp a.eval ⟨dst,op,type,pos,after,guard⟩).run P w=(s.run P w).andThen fun v w'=> .ok (.value v) w') (h:∃v w',s.run P w= .ok v w'∧Rel C (st.put dst out) (a.put dst v) w')
  {K:Act→World→Prop} {Q:Exit→Act→World→Prop} (hK:∀a' w',Rel C (st.put dst out) a' w'→K a' w'):Oper.wp P ⟨dst,op,type,pos,after,guard⟩ a w K Q:=by
 obtain⟨v,w',h1,h2⟩:=h
 refine cL (v:=v) (w':=w') ?_ (hK _ _ h2)
 rw [hs,h1];rfl
theorem Bh(hB:aE C A β st a w):∀(x:Option Operand),lT w A β (x.map (ev st)) (x.map a.eval)
 |none=>by simp [lT]
 |some x=>by simp only [Option.map_some,lT];exact aW hB x
theorem Bi {d:Nat} {b:AB}(h:gU st.h [(d,b)]=true):st.h d=none∧mW d=false :=gQ _ d b h (by simp [ar])
theorem yB {h:aQ} {k:Nat}(hf:fresh h k=true):h k=none∧mW k=false :=by
 unfold fresh at hf
 cases hk:h k with
 |none=>rw [hk] at hf;exact⟨rfl,by simpa using hf⟩
 |some b=>simp [hk] at hf
theorem I4(hE:e6 P C E)(hB:aE C A β st a w) {o:Oper} {out:Out}(h:cG E st o=some out)(iu:gB st o=true)(cR:gU st.h out.new=true)(hc:∀p∈out.cond,p)
  {K:Act→World→Prop} {Q:Exit→Act→World→Prop} (hK:∀a' w',Rel C (st.put o.dst out) a' w'→K a' w'):o.wp P a w K Q:=by
 have hd:∀t,o.dst=some t→t<st.n:=by
  intro t ht
  unfold gB at iu
  rw [ht] at iu
  exact Nat.le_of_ble_eq_true iu
 obtain⟨dst,op,type,pos,after,guard⟩:=o
 simp only at hd hK
 cases op with
 |move x=>
  simp only [cG,Option.some.injEq] at h;subst h
  exact cL (by simp [execOp]) (hK _ _ (Rel.jB (hB.quiet hd ⟨rfl,rfl,rfl⟩ (aW hB x))))
 |assign x=>
  simp only [cG,Option.some.injEq] at h;subst h
  exact cL (by simp [execOp]) (hK _ _ (Rel.jB (hB.quiet hd ⟨rfl,rfl,rfl⟩ (aW hB x))))
 |pick c x y=>
  simp only [cG] at h
  have xb:=aW hB c
  have hx:=aW hB x
  have hy:=aW hB y
  split at h
  · rename_i Eh
    simp only [Option.some.injEq] at h;subst h
    rw [Eh] at xb;simp only [ae] at xb
    exact cL (v:=a.eval x) (by simp [execOp,xb,asBool]) (hK _ _ (Rel.jB (hB.quiet hd ⟨rfl,rfl,rfl⟩ hx)))
  · rename_i Eh
    simp only [Option.some.injEq] at h;subst h
    rw [Eh] at xb;simp only [ae] at xb
    exact cL (v:=a.eval y) (by simp [execOp,xb,asBool]) (hK _ _ (Rel.jB (hB.quiet hd ⟨rfl,rfl,rfl⟩ hy)))
  · rename_i p Eh
    simp only [Option.some.injEq] at h;subst h
    rw [Eh] at xb;simp only [ae] at xb
    refine cL (v:=if p then a.eval x else a.eval y) (by simp [execOp,xb,asBool]) (hK _ _ (Rel.jB (hB.quiet hd ⟨rfl,rfl,rfl⟩ ?_)))
    refine uR p _ _ ?_
    cases p
    · simpa using hy
    · simpa using hx
  · cases h
 |alloc t=>
  simp only [cG] at h
  split at h
  · rename_i te d ht
    cases Ě:Nat.ble te.size 40 with
    |false=>rw [Ě] at h;cases h
    |true=>
    rw [Ě] at h
    simp only [cond_true] at h
    cases gi:(ofConst te.zero).cells.all AV.one with
    |false=>simp [gi] at h
    |true=>
     simp only [gi,cond_true,Option.some.injEq] at h;subst h
     exact cn (fun w=>by simp [execOp]) (Hg hE.fU hB hd (Bi cR) ht gi) hK
  · cases h
 |box t x=>
  simp only [cG] at h
  split at h
  · rename_i d
    cases gi:(ev st x).cells.all AV.one with
    |false=>simp [gi] at h
    |true=>
     simp only [gi,cond_true,Option.some.injEq] at h;subst h
     exact cn (fun w=>by simp [execOp]) (Le (t:=t) hB hd (Bi cR) (aW hB x) gi) hK
  · cases h
 |build t parts=>
  simp only [cG] at h
  refine cn (s:=Instr.build t (parts.map fun(i,x)=>(i,a.eval x))) (fun w=>by simp [execOp]) (Reads.oY hB hd (Hh hE.fU ?_ ?_ h)) hK
  · simp [Function.comp_def]
  · have :=mj hB (parts.toList.map (·.2))
    simpa [Function.comp_def] using this
 |buildSlice t len parts=>
  simp only [cG] at h
  split at h
  · rename_i d
    cases hf:fresh st.h (st.kb+d) with
    |false=>simp [hf] at h
    |true=>
    simp only [hf,cond_true] at h
    have hn:=yB hf
    refine cn (s:=Instr.buildSlice t len (parts.map fun(i,x)=>(i,a.eval x))) (fun w=>by simp [execOp]) (xc hE.fU hB hd hn ?_ ?_ h) hK
    · simp [Function.comp_def]
    · have :=mj hB (parts.toList.map (·.2))
      simpa [Function.comp_def] using this
  · cases h
 |load t x=>
  simp only [cG] at h
  exact cn (fun w=>by simp [execOp]) (Reads.oY hB hd (zk hE.fU hB (aW hB x) h hc)) hK
 |store t x y=>
  simp only [cG] at h
  have hx:=aW hB x
  have hy:=aW hB y
  have key:∃w',(Instr.storeAt t (a.eval x) (a.eval y)).run P w= .ok () w'∧Rel C (st.put dst out) (a.put dst undef) w':=by
   cases yC:ev st x with
   |ref k off=>rw [yC] at h hx;exact yx hE.fU hB hd hx hy h
   |elem k sz i j=>rw [yC] at h hx;exact w9 hE.fU hB hd hx hy h hc
   |_=>rw [yC] at h;simp [gu] at h
  obtain⟨w',h1,h2⟩:=key
  exact tY (w':=w') (by simp [execOp,h1]) (hK _ _ h2)
 |nilCheck x=>
  simp only [cG] at h
  have hx:=aW hB x
  have fin:∀r,ev st x=r→out= {cond:= [],res:=r}→(execOp a.eval {dst,op:= .nilCheck x,type,pos,after,guard}).run P w= .ok (.value (a.eval x)) w→Oper.wp P {dst,op:= .nilCheck x,type,pos,after,guard} a w K Q:=by
   intro r hr ho fQ
   subst ho
   exact cL fQ (hK _ _ (Rel.jB (hB.quiet hd ⟨rfl,rfl,rfl⟩ (by rw [←hr];exact hx))))
  split at h
  · rename_i k off hv
    simp only [Option.some.injEq] at h
    refine fin _ hv h.symm ?_
    rw [hv] at hx;simp only [ae] at hx
    obtain⟨b,_,hx⟩:=hx
    simp [execOp,hx]
  · rename_i r y j hv
    simp only [Option.some.injEq] at h
    refine fin _ hv h.symm ?_
    rw [hv] at hx;simp only [ae] at hx
    obtain⟨b,o,cs,hx,_⟩:=hx
    simp [execOp,hx]
  · rename_i k sz i j hv
    simp only [Option.some.injEq] at h
    refine fin _ hv h.symm ?_
    rw [hv] at hx;simp only [ae] at hx
    obtain⟨b,m,cap,_,hx⟩:=hx
    simp [execOp,hx]
  · rename_i f first bf hv
    simp only [Option.some.injEq] at h
    refine fin _ hv h.symm ?_
    rw [hv] at hx;simp only [ae] at hx
    obtain⟨a1,a2,hx,_⟩:=hx
    simp [execOp,hx]
  · cases h
 |binOp op t x y yt=>
  simp only [cG] at h
  exact cn (s:=do eqGuard op t x y (a.eval x) (a.eval y);binOp op t (a.eval x) (a.eval y)) (fun w=>by
   simp only [execOp,Sem.run_bind]
   cases (eqGuard op t x y (a.eval x) (a.eval y)).run P w<;>simp) (Reads.oY hB hd (K5 hE.fU (aW hB x) (aW hB y) h hc)) hK
 |unOp op t x=>
  simp only [cG] at h
  exact cn (fun w=>by simp [execOp]) (Reads.oY hB hd (QQ (aW hB x) h hc)) hK
 |convert s d x=>
  simp only [cG] at h
  exact cn (fun w=>by simp [execOp]) (Be hE.fU hB hd (aW hB x) h hc) hK
 |makeFunc f first bf=>
  simp only [cG,Option.some.injEq] at h;subst h
  refine cL (v:= .func f (first.map a.eval) (bf.map a.eval)) (by simp [execOp,Instr.makeFunc]) (hK _ _ (Rel.jB (hB.quiet hd ⟨rfl,rfl,rfl⟩ ?_)))
  simp only [ae]
  exact⟨_,_,rfl,by simpa using mj hB first.toList,by simpa using mj hB bf.toList⟩
 |makeSlice t l c=>
  simp only [cG] at h
  split at h
  · rename_i d
    cases hf:fresh st.h (st.kb+d) with
    |false=>simp [hf] at h
    |true=>
    simp only [hf,cond_true] at h
    exact cn (fun w=>by simp [execOp]) (yz hE.fU hB hd (yB hf) (aW hB l) (aW hB c) h hc) hK
  · cases h
 |slice t x l hi mx=>
  simp only [cG] at h
  exact cn (fun w=>by simp [execOp]) (Reads.oY hB hd (Hb hE.fU hB (aW hB x) (Bh hB l) (Bh hB hi) (Bh hB mx) h hc)) hK
 |fieldAddr s x f=>
  simp only [cG] at h
  exact cn (fun w=>by simp [execOp]) (Reads.oY hB hd (yn hE.fU (aW hB x) h)) hK
 |field s x f=>
  simp only [cG] at h
  have hx:=aW hB x
  split at h
  · rename_i ft off cs hf hv
    split at h
    · rename_i te ht
      split at h
      · rename_i r hp
        simp only [Option.some.injEq] at h;subst h
        rw [hv] at hx;simp only [ae] at hx
        obtain⟨arr,hx,hr⟩:=hx
        obtain⟨fs,fd,hu,SD,e1,e2⟩:=zl hE.fU hf
        obtain⟨v,g1,g2⟩:=p0 hE.fU ht hr hp
        refine cL (v:=v) (w':=w) ?_ (hK _ _ (Rel.jB (hB.quiet hd ⟨rfl,rfl,rfl⟩ g2)))
        rw [←e1,←e2] at g1
        simp [execOp,Instr.field,run_underlying hu,SD,hx,asAgg,g1]
      · cases h
    · cases h
  · cases h
 |indexAddr t x i=>
  simp only [cG,oT] at h
  exact cn (fun w=>by simp [execOp]) (Reads.oY hB hd (ym hE.fU hB (aW hB x) (aW hB i) h hc)) hK
 |extract x i=>
  simp only [cG] at h
  have hx:=aW hB x
  split at h
  · rename_i vs hv
    split at h
    · rename_i r hr
      simp only [Option.some.injEq] at h;subst h
      rw [hv] at hx;simp only [ae] at hx
      obtain⟨arr,hx,hrel⟩:=hx
      obtain⟨v,g1,g2⟩:=oS vs _ i r hrel hr
      have g1':arr[i]? =some v:=by simpa using g1
      exact cL (v:=v) (w':=w) (by simp [execOp,Instr.extract,hx,g1']) (hK _ _ (Rel.jB (hB.quiet hd ⟨rfl,rfl,rfl⟩ g2)))
    · cases h
  · cases h
 |index t x i=>
  simp only [cG] at h
  have hx:=aW hB x
  have hi:=aW hB i
  split at h
  · rename_i s k n yC hiv
    cases se:acQ E.T t mV with
    |false=>simp [se] at h
    |true=>
    simp only [se,cond_true,Option.some.injEq] at h;subst h
    obtain⟨h0,h1⟩:=di hc
    obtain⟨dd,hu,arl⟩:=nL hE.fU se
    have hu:P.underlying t=some .string:=by rw [hu];cases dd<;>simp_all [mV]
    rw [yC] at hx;rw [hiv] at hi;simp only [ae] at hx hi
    have dX:n.toNat<s.length:=by omega
    refine cL (v:= .int .u8 ((s.getD n.toNat 0).toNat:Int)) (w':=w) ?_ (hK _ _ (Rel.jB (hB.quiet hd ⟨rfl,rfl,rfl⟩ ?_)))
    · have hg:(⟨s.toArray⟩:ByteArray)[n.toNat]? =some (s.getD n.toNat 0):=by
       rw [getElem?_pos _ _ (by rw [af2];exact dX)]
       simp [List.getD,List.getElem?_eq_getElem dX]
       rfl
      simp [execOp,Instr.index,hx.1,hi.1,asIntOf,run_underlying hu,h0,hg]
    · simp only [ae,true_and]
      have :=(s.getD n.toNat 0).toNat_lt
      simp only [lo,Vg.hi];omega
  · rename_i cs k n yC hiv
    rw [yC] at hx;rw [hiv] at hi;simp only [ae] at hx hi
    obtain⟨arr,hxe,uE⟩:=hx
    exact cn (s:=Instr.index t (.agg arr) (a.eval i)) (fun w=>by simp [execOp,hxe]) (Reads.oY hB hd (zY hE.fU uE hi.1 h hc)) hK
  · cases h
 |call c=>
  obtain⟨callee,args,argTypes⟩:=c
  simp only [cG] at h
  split at h
  · rename_i b
    split at h
    · rename_i x t bp vP
      have hx:=aW hB x
      split at h
      · rename_i n hn
        cases hq:(bif qA (ev st x) then acQ E.T t fN else acQ E.T t mV) with
        |false=>simp [hq] at h
        |true=>
         simp only [hq,cond_true,Option.some.injEq] at h;subst h
         have ea:args= #[x]:=by apply Array.ext';simpa using bp
         have et:argTypes= #[t]:=by apply Array.ext';simpa using vP
         subst ea;subst et
         rcases K1 hB hx hn with⟨ad,l,c,hv,hl,hm⟩|⟨s,hs,hl⟩
         · have QU:qA (ev st x)=true :=by
            cases yC:ev st x<;>first|rfl|skip
            rw [yC] at hx;simp only [ae] at hx;rw [hv] at hx;cases hx.1
           rw [QU] at hq;simp only [cond_true] at hq
           obtain⟨d,hu,se⟩:=nL hE.fU hq
           obtain⟨e,rfl⟩:∃e,d= .slice e:=by cases d<;>simp_all [fN]
           refine cL (v:= .int .i64 (l:Int)) (w':=w) ?_ (hK _ _ (Rel.jB (hB.quiet hd ⟨rfl,rfl,rfl⟩ (by rw [hl];exact sv l hm))))
           simp [execOp,resolve,invoke,builtin,hv,Builtin.len_,run_underlying hu,goInt]
         · rw [hs] at hx hq
           simp only [qA,cond_false] at hq
           obtain⟨d,hu,se⟩:=nL hE.fU hq
           have hu:P.underlying t=some .string:=by rw [hu];cases d<;>simp_all [mV]
           simp only [ae] at hx
           refine cL (v:= .int .i64 (s.length:Int)) (w':=w) ?_ (hK _ _ (Rel.jB (hB.quiet hd ⟨rfl,rfl,rfl⟩ (by rw [hl];exact sv _ hx.2))))
           simp [execOp,resolve,invoke,builtin,hx.1,Builtin.len_,run_underlying hu,goInt,af2]
      · cases h
    · rename_i x y t t' bp vP
      split at h
      · rename_i d
        cases hf:fresh st.h (st.kb+d) with
        |false=>simp [hf] at h
        |true=>
         simp only [hf,cond_true] at h
         have ea:args= #[x,y]:=by apply Array.ext';simpa using bp
         have et:argTypes= #[t,t']:=by apply Array.ext';simpa using vP
         subst ea;subst et
         exact cn (s:=Builtin.append_ #[t,t'] type #[a.eval x,a.eval y]) (fun w=>by simp [execOp,resolve,invoke,builtin]) (Ee hE.fU hB hd (yB hf) (aW hB x) (aW hB y) h hc) hK
      · cases h
    · rename_i x y t t' bp vP
      have ea:args= #[x,y]:=by apply Array.ext';simpa using bp
      have et:argTypes= #[t,t']:=by apply Array.ext';simpa using vP
      subst ea;subst et
      exact cn (s:=Builtin.copy_ #[t,t'] type #[a.eval x,a.eval y]) (fun w=>by simp [execOp,resolve,invoke,builtin]) (IX hE.fU hB hd (aW hB x) (aW hB y) h hc) hK
    · rename_i x t bp vP
      have ea:args= #[x]:=by apply Array.ext';simpa using bp
      have et:argTypes= #[t]:=by apply Array.ext';simpa using vP
      subst ea;subst et
      exact cn (s:=Builtin.clear_ #[t] type #[a.eval x]) (fun w=>by simp [execOp,resolve,invoke,builtin]) (Hi hE.fU hB hd (aW hB x) h hc) hK
    · rename_i x y bp
      have ea:args= #[x,y]:=by apply Array.ext';simpa using bp
      subst ea
      have hx:=aW hB x
      have hy:=aW hB y
      split at h
      · rename_i k n k' m yC hyv
        split at h
        · rename_i hk
          subst hk
          simp only [Option.some.injEq] at h;subst h
          rw [yC] at hx;rw [hyv] at hy;simp only [ae] at hx hy
          refine cL (v:= .int k (min n m)) (w':=w) ?_ (hK _ _ (Rel.jB (hB.quiet hd ⟨rfl,rfl,rfl⟩ (by simp only [ae,true_and];omega))))
          have e:(if m<n then m else n)=min n m:=by split<;>omega
          simp [execOp,resolve,invoke,builtin,hx.1,hy.1,run_min_int2,e]
        · cases h
      · cases h
    · rename_i x y bp
      have ea:args= #[x,y]:=by apply Array.ext';simpa using bp
      subst ea
      have hx:=aW hB x
      have hy:=aW hB y
      split at h
      · rename_i k n k' m yC hyv
        split at h
        · rename_i hk
          subst hk
          simp only [Option.some.injEq] at h;subst h
          rw [yC] at hx;rw [hyv] at hy;simp only [ae] at hx hy
          refine cL (v:= .int k (max n m)) (w':=w) ?_ (hK _ _ (Rel.jB (hB.quiet hd ⟨rfl,rfl,rfl⟩ (by simp only [ae,true_and];omega))))
          have e:(if m>n then m else n)=max n m:=by split<;>omega
          simp [execOp,resolve,invoke,builtin,hx.1,hy.1,run_max_int2,e]
        · cases h
      · cases h
    · cases h
  · rename_i f
    have hf:=aW hB f
    have key:∀(iL:FuncId) (first bf:List AV) (base:Nat),ev st f= .fn (.func iL) first bf→kE E st.h base iL (first++(args.toList.map (ev st))++bf)=some out→
      Oper.wp P {dst,op:= .call {callee:= .value f,args,argTypes},type,pos,after,guard} a w K Q:=by
     intro iL first bf base nS hU
     rw [nS] at hf;simp only [ae] at hf
     obtain⟨a1,a2,Hf,r1,r2⟩:=hf
     unfold kE at hU
     split at hU
     · rename_i s hs
       split at hU
       · rename_i pre res bs QV
         cases hq:(Nat.ble bs.length 100&&ij bs.length res&&gw bs) with
         |false=>simp [hq] at hU
         |true=>
          simp only [hq,cond_true,Option.some.injEq] at hU
          subst hU
          simp only [Bool.and_eq_true] at hq
          obtain⟨hv,Lk⟩:=hE.sig iL s hs
          have bp:=dj _ _ _ _ (dj _ _ _ _ r1 (mj hB args.toList)) r2
          obtain⟨p1,p2⟩:=yy (A':=bG A β (iH st.h (first++(args.toList.map (ev st))++bf)).2) hB (fun b h=> .inl h) _ _ bp (fun k hk b hb=> .inr ⟨k,hk,hb⟩)
          have Ld:∀b,bG A β (iH st.h (first++(args.toList.map (ev st))++bf)).2 b→b<w.heap.size:=by
           intro b h
           rcases h with h|⟨j,hj,hb⟩
           · exact hB.bound b h
           · obtain⟨e',r',l',f',hr⟩:=p2 j hj
             exact jK hB (by simp [hr]) hb
          have sC:=hv w _ β _ _ pre res bs Ld (fun i d hi=>(hB.laid i d (by rw [hE.g];exact hi)).mono (fun b h=>⟨.inl h,rfl⟩)) p1 QV (di hc)
          have fQ:(execOp a.eval {dst,op:= .call {callee:= .value f,args,argTypes},type,pos,after,guard}).run P w= .ok (.enter iL (a1.toList++args.toList.map a.eval++a2.toList).toArray) w:=by
           have e:(a1++args.map a.eval)++a2=(a1.toList++args.toList.map a.eval++a2.toList).toArray:=by
            apply Array.ext';simp
           have :=Lk (a1++args.map a.eval++a2) w
           rw [e] at this
           simp only [execOp,resolve,Hf,Deferred.ofValue,Sem.run_bind,Sem.run_pure,Result.andThen_ok,invoke,e,this]
          unfold Oper.wp
          rw [fQ]
          simp only [Oper.upon_enter]
          refine sC.mono fun e w' ⟨v,he,A1,j5,nT⟩=> ?_
          subst he
          exact hK _ _ (hB.call hd p2 cR hq.1.2 hq.2 nT)
       · cases hU
     · cases hU
    split at h
    · rename_i iL first bf d nS
      exact key iL first bf _ nS h
    · rename_i iL first bf nS
      exact key iL first bf _ nS h
    · cases h
  · cases h
 |_=>simp [cG] at h
end
end Go.Vg

end
