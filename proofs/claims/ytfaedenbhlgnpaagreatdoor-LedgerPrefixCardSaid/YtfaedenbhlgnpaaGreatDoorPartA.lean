import Derived.Deep.MidRow
import Derived.Laws.AppendOwn
import Derived.Laws.OwnMore
import Derived.KernelRfl
import Derived.Laws.Sem
import Derived.Laws.BytesString
import Derived.Laws.StructEq
import Derived.Laws.Strings
import Derived.Laws.Small
import Derived.MapKept
import Derived.Laws.MakeOwn
set_option linter.unusedVariables false
set_option linter.unusedSimpArgs false
section
namespace Go.Vg
open Go
inductive Ty where
 |int (k:IntKind)
 |bool
 |str
 |slice (row:List Ty)
mutual
def Ty.beq:Ty→Ty→Bool
 | .int k, .int k'=>decide (k=k')
 | .bool, .bool=>true
 | .str, .str=>true
 | .slice r, .slice r'=>Ty.tf r r'
 |_,_=>false
def Ty.tf:List Ty→List Ty→Bool
 | [],[]=>true
 |t::ts,u::us=>Ty.beq t u&&Ty.tf ts us
 |_,_=>false
end
@[reducible] def DI:IntKind→Type
  | .u8=>UInt8
  | .i8=>Int| .i16=>Int| .i32=>Int| .i64=>Int| .u16=>Int| .u32=>Int| .u64=>Int
@[reducible] def ama (ts:List Ty) (a b:Type):Type :=match ts with
  | []=>a
  |_::_=>a×b
mutual
@[reducible] def D:Ty→Type
  | .int k=>DI k
  | .bool=>Bool
  | .str=>List UInt8
  | .slice row=>List (Row row)
@[reducible] def Row:List Ty→Type
  | []=>Unit
  |t::ts=>ama ts (D t) (Row ts)
end
def DI.toInt:(k:IntKind)→DI k→Int
 | .u8,x=>(UInt8.toNat x:Int)
 | .i8,n=>n| .i16,n=>n| .i32,n=>n| .i64,n=>n| .u16,n=>n| .u32,n=>n| .u64,n=>n
def DI.ofInt:(k:IntKind)→Int→DI k
 | .u8,n=>UInt8.ofNat n.toNat
 | .i8,n=>n| .i16,n=>n| .i32,n=>n| .i64,n=>n| .u16,n=>n| .u32,n=>n| .u64,n=>n
def Row.hd {t:Ty}: {ts:List Ty}→Row (t::ts)→D t
 | [],x=>x
 |_::_,x=>x.1
def Row.tl {t:Ty}: {ts:List Ty}→Row (t::ts)→Row ts
 | [],_=>()
 |_::_,x=>x.2
def Row.mk {t:Ty}: {ts:List Ty}→D t→Row ts→Row (t::ts)
 | [],x,_=>x
 |_::_,x,y=>(x,y)
def DI.zero:(k:IntKind)→DI k
 | .u8=>(0:UInt8)
 | .i8=>(0:Int)| .i16=>(0:Int)| .i32=>(0:Int)| .i64=>(0:Int)| .u16=>(0:Int)| .u32=>(0:Int)| .u64=>(0:Int)
def D.zero:(t:Ty)→D t
 | .int k=>DI.zero k
 | .bool=>false
 | .str=> []
 | .slice _=> []
def Row.zero:(ts:List Ty)→Row ts
 | []=>()
 |t::ts=>Row.mk (D.zero t) (Row.zero ts)
def lo:IntKind→Int
 | .i8=> -128| .i16=> -32768| .i32=> -2147483648| .i64=> -9223372036854775808
 | .u8=>0| .u16=>0| .u32=>0| .u64=>0
def hi:IntKind→Int
 | .i8=>127| .i16=>32767| .i32=>2147483647| .i64=>9223372036854775807
 | .u8=>255| .u16=>65535| .u32=>4294967295| .u64=>18446744073709551615
def mc:IntKind→Option Int
 | .u8=>some 256| .u16=>some 65536| .u32=>some 4294967296| .u64=>some 18446744073709551616
 | .i8=>none| .i16=>none| .i32=>none| .i64=>none
inductive AV where
 |cX
 |undef
 |int (k:IntKind) (n:Int)
 |bool (b:Bool)
 |tt
 |ff
 |str (s:List UInt8)
 |nil
 |iX
 |jh
 |sl (row:List Ty) (l:List (Row row))
 |full (row:List Ty) (l:List (Row row))
 |fS (row:List Ty) (x:Row row) (j:Nat)
 |oK (row:List Ty) (l:List (Row row))
 |own (k:Nat)
 |pre (k:Nat) (n:Nat)
 |view (k sz off len:Nat)
 |ref (k off:Nat)
 |elem (k sz i j:Nat)
 |agg (cs:List AV)
 |cB (vs:List AV)
 |fn (f:Fn) (first bk:List AV)
 |nU (row:List Ty) (l:List (Row row))
 |fT (ks:List Int) (cs:List AV)
inductive AB where
 |cells (cs:List AV)
 |row (e:Nat) (row:List Ty) (l:List (Row row)) (fr:Bool)
 |views (e:Nat) (j:Option Nat) (n m sz:Nat)
 |arr (row:List Ty) (l:List (Row row))
 |gw (e:Nat) (j:Option Nat) (row:List Ty) (l:List (Row row)) (i:Nat)
def xS:(t:Ty)→D t→AV
 | .int k,x=> .int k (DI.toInt k x)
 | .bool,b=> .bool b
 | .str,s=> .str s
 | .slice row,l=> .sl row l
def fk:(ts:List Ty)→Row ts→List AV
 | [],_=> []
 |t::ts,x=>xS t (Row.hd x)::fk ts (Row.tl x)
mutual
theorem Ty.eq_of_beq:∀(a b:Ty),Ty.beq a b=true→a=b
 | .int k, .int k',h=>by simp [Ty.beq] at h;rw [h]
 | .bool, .bool,_=>rfl
 | .str, .str,_=>rfl
 | .slice r, .slice r',h=>by simp only [Ty.beq] at h;rw [Ty.ji r r' h]
 | .int _, .bool,h=>by simp [Ty.beq] at h
 | .int _, .str,h=>by simp [Ty.beq] at h
 | .int _, .slice _,h=>by simp [Ty.beq] at h
 | .bool, .int _,h=>by simp [Ty.beq] at h
 | .bool, .str,h=>by simp [Ty.beq] at h
 | .bool, .slice _,h=>by simp [Ty.beq] at h
 | .str, .int _,h=>by simp [Ty.beq] at h
 | .str, .bool,h=>by simp [Ty.beq] at h
 | .str, .slice _,h=>by simp [Ty.beq] at h
 | .slice _, .int _,h=>by simp [Ty.beq] at h
 | .slice _, .bool,h=>by simp [Ty.beq] at h
 | .slice _, .str,h=>by simp [Ty.beq] at h
theorem Ty.ji:∀(a b:List Ty),Ty.tf a b=true→a=b
 | [],[],_=>rfl
 |t::ts,u::us,h=>by
  simp only [Ty.tf,Bool.and_eq_true] at h
  rw [Ty.eq_of_beq t u h.1,Ty.ji ts us h.2]
 | [],_::_,h=>by simp [Ty.tf] at h
 |_::_,[],h=>by simp [Ty.tf] at h
end
def eH(r r':List Ty)(l:List (Row r)):Option (List (Row r')):=
 if h:Ty.tf r r'=true then some ((Ty.ji r r' h)▸l) else none
def Ks:(t:Ty)→AV→Option (D t)
 | .int k, .int k' n=>if k=k' then some (DI.ofInt k n) else none
 | .bool, .bool b=>some b
 | .bool, .tt=>some true
 | .bool, .ff=>some false
 | .str, .str s=>some s
 | .slice r, .sl r' l=>eH r' r l
 | .slice r, .full r' l=>eH r' r l
 | .slice _, .nil=>some ([]:List _)
 |_,_=>none
def j2:(ts:List Ty)→List AV→Option (Row ts)
 | [],[]=>some ()
 |t::ts,a::aF=>match Ks t a,j2 ts aF with
  |some x,some y=>some (Row.mk x y)
  |_,_=>none
 |_,_=>none
def setRow:(ts:List Ty)→Row ts→Nat→AV→Option (Row ts)
 | [],_,_,_=>none
 |t::ts,x,0,a=>match Ks t a with
  |some d=>some (Row.mk d (Row.tl x))
  |none=>none
 |t::ts,x,j+1,a=>match setRow ts (Row.tl x) j a with
  |some y=>some (Row.mk (Row.hd x:D t) y)
  |none=>none
def nm:(ts:List Ty)→Row ts→Nat→List AV→Option (Row ts)
 |_,x,_,[]=>some x
 |ts,x,j,a::aF=>match setRow ts x j a with
  |some y=>nm ts y (j+1) aF
  |none=>none
def rK(ts:List Ty):Nat→List AV→Option (List (Row ts))
 |0,aF=>match aF with| []=>some []|_::_=>none
 |n+1,aF=>match j2 ts (aF.take ts.length),rK ts n (aF.drop ts.length) with
  |some x,some l=>some (x::l)
  |_,_=>none
structure TE where
 desc:TypeDesc
 size:Nat
 bytes:Nat
 zero:Value
inductive bT where
 |leaf
 |node (l:bT) (k:Nat) (v:TE) (r:bT)
def bT.find:bT→Nat→Option TE
 | .leaf,_=>none
 | .node l k v r,n=>bif Nat.beq n k then some v else bif Nat.blt n k then l.find n else r.find n
def _root_.Go.TypeDesc.jG:TypeDesc→Bool
 | .struct _| .array _ _=>true
 |_=>false
def wx {α:Type}:Option (List α)→Option (List α)→Option (List α)
 |some a,some b=>some (a++b)
 |_,_=>none
def rowOf(T:bT):Nat→TypeId→Option (List Ty)
 |0,_=>none
 |n+1,t=>match T.find t with
  |none=>none
  |some te=>match te.desc with
   | .int k=>some [.int k]
   | .bool=>some [.bool]
   | .string=>some [.str]
   | .slice e=>match rowOf T n e with|some r=>some [.slice r]|none=>none
   | .struct fs=>fs.toList.foldr (fun f acc=>wx (rowOf T n f.type) acc) (some [])
   | .array k e=>match rowOf T n e with|some r=>some ((List.replicate k r).flatten)|none=>none
   |_=>none
def rL:Value→AV
 | .int k n=>if lo k≤n∧n≤hi k then .int k n else .cX
 | .bool b=>if b then .tt else .ff
 | .string s=>bif Nat.ble s.data.toList.length 1000000 then .str s.data.toList else .cX
 | .slice none 0 0=> .nil
 | .pointer none=> .iX
 | .nilFunc=> .jh
 |_=> .cX
def ofConst:Value→AV
 | .agg cs=> .agg (cs.toList.map rL)
 |v=>rL v
inductive KS where
 |one (k:Nat)
 |dst (d:Nat)
structure GD where
 row:List Ty
 l:List (Row row)
structure St where
 t:Nat→AV
 h:Nat→Option AB
 bJ:List Nat
 news:List KS
 AL:List Nat
 n:Nat
 kb:Nat
 g:Nat→Option GD
abbrev aP:=Nat→Option AB
def ev(st:St):Operand→AV
 | .tmp i=>st.t i
 | .const v=>ofConst v
 | .global i=>match st.g i with
   |some d=> .oK d.row d.l
   |none=> .cX
 | .func f=> .fn (.func f) [] []
def fq(h:aP):AV→AV×List Nat
 | .own k=>match h k with
   |some (.row _ row l _)=>(.sl row l,[k])
   |_=>(.cX,[])
 | .pre k n=>match h k with
   |some (.row _ row l _)=>(.sl row (l.take n),[k])
   |_=>(.cX,[])
 | .view k sz off len=>match h k with
   |some (.row _ row l _)=>bif Nat.beq sz row.length then(.sl row ((l.drop off).take len),[k]) else(.cX,[])
   |_=>(.cX,[])
 |a=>(a,[])
def lk(h:aP):List AV→List AV×List Nat
 | []=>([],[])
 |a::aF=>((fq h a).1::(lk h aF).1,(fq h a).2++(lk h aF).2)
def lX(h:aP):AV→AV×List Nat
 | .agg cs=>(.agg (lk h cs).1,(lk h cs).2)
 |a=>fq h a
def jk(h:aP):List AV→List AV×List Nat
 | []=>([],[])
 |a::aF=>((lX h a).1::(jk h aF).1,(lX h a).2++(jk h aF).2)
def AV.cells:AV→List AV
 | .agg cs=>cs
 |a=> [a]
def AV.one:AV→Bool
 | .cX| .undef| .agg _| .cB _=>false
 |_=>true
structure Out where
 cond:List Prop
 res:AV
 gk:List (Nat×AB):= []
 del:List Nat:= []
 new:List (Nat×AB):= []
 raw:List Nat:= []
def cc(h:aP):List Nat→List (Nat×AB)
 | []=> []
 |k::ks=>match h k with
  |some (.row e row l _)=>(k, .row e row l true)::cc h ks
  |_=>cc h ks
mutual
def dp(d:Nat):AV→AV
 | .own k=>bif Nat.beq k d then .cX else .own k
 | .pre k n=>bif Nat.beq k d then .cX else .pre k n
 | .view k sz off n=>bif Nat.beq k d then .cX else .view k sz off n
 | .ref k off=>bif Nat.beq k d then .cX else .ref k off
 | .elem k sz i j=>bif Nat.beq k d then .cX else .elem k sz i j
 | .agg cs=> .agg (eV d cs)
 | .cB vs=> .cB (eV d vs)
 | .fn f first bk=> .fn f (eV d first) (eV d bk)
 | .fT ks cs=> .fT ks (eV d cs)
 |a=>a
def eV(d:Nat):List AV→List AV
 | []=> []
 |a::aF=>dp d a::eV d aF
end
def pS(d:Nat):Option Nat→Option Nat
 |some k=>bif Nat.beq k d then none else some k
 |none=>none
def mP(d:Nat):AB→AB
 | .cells cs=> .cells (eV d cs)
 | .views e j n m sz=> .views e (pS d j) n m sz
 | .gw e j row l i=> .gw e (pS d j) row l i
 |b=>b
def xT(cs:List AV)(off:Nat)(vs:List AV):List AV:=cs.take off++vs++cs.drop (off+vs.length)
def zB(h:aP):AV→Option Int
 | .str s=>some (s.length:Int)
 | .sl _ l=>some (l.length:Int)
 | .full _ l=>some (l.length:Int)
 | .nil=>some 0
 | .own k=>match h k with
   |some (.row _ _ l _)=>some (l.length:Int)
   |_=>none
 | .pre k n=>match h k with
   |some (.row _ _ _ _)=>some (n:Int)
   |_=>none
 | .view k _ _ n=>match h k with
   |some (.row _ _ _ _)=>some (n:Int)
   |_=>none
 |_=>none
def pT(T:bT)(t:TypeId):Option TE:=match T.find t with
 |some te=>match te.desc with
  | .slice e=>T.find e
  |_=>none
 |none=>none
def vo(T:bT)(t:TypeId):Option TypeId:=match T.find t with
 |some te=>match te.desc with
  | .slice e=>some e
  |_=>none
 |none=>none
def jH(T:bT)(t:TypeId)(n:Nat):Bool:=match T.find t with
 |some te=>Nat.beq te.size n
 |none=>false
def bn(T:bT)(t:TypeId)(n:Nat):Bool:=match pT T t with
 |some te=>Nat.beq te.size n&&Nat.blt 0 n
 |none=>false
def CG(T:bT)(t:TypeId):Option (Nat×Nat):=match T.find t with
 |some te=>match te.desc with
  | .array k e=>match T.find e with
    |some ee=>bif Nat.blt 0 ee.size then some (k,ee.size) else none
    |none=>none
  |_=>none
 |none=>none
def ek(T:bT)(h:aP)(t:TypeId):AV→AV→Option Out
 | .sl row l, .int _ i=>
   bif bn T t row.length then some {cond:= [0≤i∧i<(l.length:Int)],res:= .fS row (l.getD i.toNat (Row.zero row)) 0} else none
 | .full row l, .int _ i=>
   bif bn T t row.length then some {cond:= [0≤i∧i<(l.length:Int)],res:= .fS row (l.getD i.toNat (Row.zero row)) 0} else none
 | .own k, .int _ i=>match h k with
   |some (.row _ row l _)=>bif bn T t row.length then some {cond:= [0≤i∧i<(l.length:Int)],res:= .elem k row.length i.toNat 0} else none
   |_=>none
 | .pre k n, .int _ i=>match h k with
   |some (.row _ row l _)=>bif bn T t row.length then some {cond:= [0≤i∧i<(n:Int)],res:= .elem k row.length i.toNat 0} else none
   |_=>none
 | .view k sz off n, .int _ i=>bif bn T t sz then some {cond:= [0≤i∧i<(n:Int)],res:= .elem k sz (off+i.toNat) 0} else none
 | .oK row l, .int _ i=>match CG T t with
   |some (n,sz)=>bif Nat.beq sz row.length then some {cond:= [n=l.length,0≤i∧i<(l.length:Int)],res:= .fS row (l.getD i.toNat (Row.zero row)) 0} else none
   |none=>none
 | .ref k off, .int _ i=>match CG T t with
   |some (n,sz)=>some {cond:= [0≤i∧i<(n:Int)],res:= .ref k (off+i.toNat*sz)}
   |none=>none
 |_,_=>none
def GM(off:Nat)(n:Int)(sz:Nat):Nat:=off+n.toNat*sz
def ň:Operand→Option Int
 | .const (.int _ n)=>some n
 |_=>none
def oL(T:bT)(h:aP)(t:TypeId)(n:Option Int)(x y:AV):Option Out:=match n,x,y with
 |some n, .ref k off, .int kd i=>match CG T t with
  |some (m,sz)=>if n=i then some {cond:= [0≤i∧i<(m:Int)],res:= .ref k (GM off n sz)} else ek T h t (.ref k off) (.int kd i)
  |none=>none
 |_,x,y=>ek T h t x y
def pick(te:TE)(cs:List AV)(off:Nat):Option AV:=
 bif te.desc.jG then(bif Nat.ble (off+te.size) cs.length then some (.agg ((cs.drop off).take te.size)) else none)
 else cs[off]?
def np(T:bT)(h:aP)(t:TypeId):AV→Option Out
 | .fS row x j=>match T.find t with
   |some te=>match pick te (fk row x) j with
    |some a=>some {cond:= [],res:=a}
    |none=>none
   |none=>none
 | .oK row l=>match T.find t with
   |some te=>match pick te (l.flatMap (fk row)) 0 with
    |some a=>some {cond:= [],res:=a}
    |none=>none
   |none=>none
 | .ref k off=>match T.find t,h k with
   |some te,some (.cells cs)=>match pick te cs off with
    |some a=>some {cond:= [],res:=a}
    |none=>none
   |_,_=>none
 | .elem k sz i j=>match T.find t,h k with
   |some te,some (.row _ row l _)=>
    bif Nat.beq sz row.length then match pick te (fk row (l.getD i (Row.zero row))) j with
     |some a=>some {cond:= [i<l.length],res:=a}
     |none=>none
    else none
   |_,_=>none
 |_=>none
def hC(T:bT)(h:aP)(t:TypeId):AV→AV→Option Out
 | .ref k off,v=>match h k with
   |some (.cells cs)=>
    bif v.cells.all AV.one&&jH T t v.cells.length&&Nat.ble (off+v.cells.length) cs.length then
     some {cond:= [],res:= .undef,gk:= [(k, .cells (xT cs off v.cells))]} else none
   |_=>none
 | .elem k sz i j,v=>match h k with
   |some (.row e row l false)=>
    bif Nat.beq sz row.length&&jH T t v.cells.length&&Nat.blt 0 v.cells.length then match nm row (l.getD i (Row.zero row)) j (lX h v).1.cells with
     |some x=>bif (lX h v).2.elem k then none else some {cond:= [i<l.length],res:= .undef,gk:=(k, .row e row (l.set i x) false)::cc h (lX h v).2}
     |none=>none
    else none
   |_=>none
 |_,_=>none
def xU(T:bT)(s:TypeId)(f:Nat):Option (TypeId×Nat):=match T.find s with
 |some te=>match te.desc with
  | .struct fs=>match fs[f]? with
    |some fd=>some (fd.type,fd.offset)
    |none=>none
  |_=>none
 |none=>none
def xV(T:bT)(t:TypeId):Bool:=match T.find t with
 |some te=>Nat.blt 0 te.size
 |none=>false
def qx(T:bT)(s:TypeId)(f:Nat)(x:AV):Option Out:=match xU T s f with
 |some (ft,o)=>bif xV T ft then match x with
  | .ref k off=>some {cond:= [],res:= .ref k (off+o)}
  | .fS row x j=>some {cond:= [],res:= .fS row x (j+o)}
  | .elem k sz i j=>some {cond:= [],res:= .elem k sz i (j+o)}
  |_=>none
  else none
 |none=>none
def fit(k:IntKind)(n:Int):List Prop×AV:=match mc k with
 |some c=>([], .int k (n%c))
 |none=>([lo k≤n∧n≤hi k], .int k n)
def pU(k:IntKind)(cond:List Prop)(n:Int):Option Out:=some {cond:=cond++(fit k n).1,res:=(fit k n).2}
def wy(k:IntKind)(n:Int):List Prop :=match mc k with
 |some _=> []
 |none=> [0≤n]
def bitsOf:IntKind→Int
 | .i8| .u8=>8| .i16| .u16=>16| .i32| .u32=>32| .i64| .u64=>64
def bf(a b:Int):Int:=((a.toNat&&&b.toNat:Nat):Int)
def cG(a b:Int):Int:=((a.toNat ||| b.toNat:Nat):Int)
def kN(a b:Int):Int:=((a.toNat^^^b.toNat:Nat):Int)
def pV:AV→Option Bool
 | .bool b=>some b
 | .tt=>some true
 | .ff=>some false
 |_=>none
def dn(T:bT)(t:TypeId)(f:TypeDesc→Bool):Bool:=match T.find t with
 |some te=>f te.desc
 |none=>false
def gu:TypeDesc→Bool
 | .slice _=>true
 |_=>false
def CH:TypeDesc→Bool
 | .bool=>true
 |_=>false
def CI(T:bT)(E:TypeId→AV→AV→Option Bool)(xs ys:List AV):List Field→Option Bool
 | []=>some true
 |f::fs=>match T.find f.type with
  |some te=>match pick te xs f.offset,pick te ys f.offset with
   |some a,some b=>match E f.type a b,CI T E xs ys fs with
    |some r,some r'=>some (match fs with| []=>r|_=>bif r then r' else false)
    |_,_=>none
   |_,_=>none
  |none=>none
def AM(T:bT):Nat→TypeId→AV→AV→Option Bool
 |0,_,_,_=>none
 |n+1,t,x,y=>match T.find t with
  |some te=>match te.desc with
   | .struct fs=>match x,y with
     | .agg xs, .agg ys=>CI T (AM T n) xs ys fs.toList
     |_,_=>none
   | .int _=>match x,y with
     | .int k a, .int k' b=>if k=k' then some (decide (a=b)) else none
     |_,_=>none
   | .string=>match x,y with
     | .str a, .str b=>some (decide (a=b))
     |_,_=>none
   | .bool=>match pV x,pV y with
     |some a,some b=>some (a==b)
     |_,_=>none
   |_=>none
  |none=>none
def IM(T:bT)(t:TypeId)(op:BinOp):AV→AV→Option Out
 | .int k n, .int k' m=>match op with
   | .shl=>pU k [0≤m∧m≤bitsOf k] (n*2^m.toNat)
   | .shr=>some {cond:= [0≤m∧m≤bitsOf k],res:= .int k (n/2^m.toNat)}
   |_=>if k=k' then match op with
    | .add=>pU k [] (n+m)
    | .sub=>pU k [] (n-m)
    | .mul=>pU k [] (n*m)
    | .quo=>some {cond:=wy k n++ [0<m],res:= .int k (n/m)}
    | .rem=>some {cond:=wy k n++ [0<m],res:= .int k (n%m)}
    | .and=>some {cond:=wy k n++wy k m,res:= .int k (bf n m)}
    | .or=>some {cond:=wy k n++wy k m,res:= .int k (cG n m)}
    | .xor=>some {cond:=wy k n++wy k m,res:= .int k (kN n m)}
    | .eql=>some {cond:= [],res:= .bool (decide (n=m))}
    | .neq=>some {cond:= [],res:= .bool (!decide (n=m))}
    | .lss=>some {cond:= [],res:= .bool (decide (n<m))}
    | .leq=>some {cond:= [],res:= .bool (decide (n≤m))}
    | .gtr=>some {cond:= [],res:= .bool (decide (m<n))}
    | .geq=>some {cond:= [],res:= .bool (decide (m≤n))}
    |_=>none
    else none
 | .str s, .str u=>match op with
   | .add=>some {cond:= [((s.length+u.length:Nat):Int)≤9223372036854775807],res:= .str (s++u)}
   | .eql=>some {cond:= [],res:= .bool (decide (s=u))}
   | .neq=>some {cond:= [],res:= .bool (!decide (s=u))}
   | .lss=>some {cond:= [],res:= .bool (Op.bytesLess s u)}
   | .leq=>some {cond:= [],res:= .bool (Op.bytesLess s u || decide (s=u))}
   | .gtr=>some {cond:= [],res:= .bool (!(Op.bytesLess s u || decide (s=u)))}
   | .geq=>some {cond:= [],res:= .bool (!Op.bytesLess s u)}
   |_=>none
 | .sl (r::rs) l, .nil=>bif dn T t gu then match op with
     | .eql=>some {cond:= [],res:= .nU (r::rs) l}
     |_=>none
     else none
 | .agg xs, .agg ys=>match AM T 8 t (.agg xs) (.agg ys) with
   |some r=>match op with
    | .eql=>some {cond:= [],res:= .bool r}
    | .neq=>some {cond:= [],res:= .bool (!r)}
    |_=>none
   |none=>none
 |a,b=>match pV a,pV b with
  |some x,some y=>bif dn T t CH then match op with
   | .eql=>some {cond:= [],res:= .bool (x==y)}
   | .neq=>some {cond:= [],res:= .bool (!(x==y))}
   |_=>none
   else none
  |_,_=>none
def MX(op:UnOp):AV→Option Out
 | .bool b=>match op with| .not=>some {cond:= [],res:= .bool (!b)}|_=>none
 | .tt=>match op with| .not=>some {cond:= [],res:= .ff}|_=>none
 | .ff=>match op with| .not=>some {cond:= [],res:= .tt}|_=>none
 | .int k n=>match op with
   | .neg=>pU k [] (0-n)
   | .xor=>match mc k with
     |some c=>some {cond:= [],res:= .int k (c-1-n)}
     |none=>none
   |_=>none
 |_=>none
def j3(h:aP)(row:List Ty)(a:AV):Option (List (Row row)):=match a with
 | .str s=>eH [.int .u8] row s
 | .nil=>some []
 |a=>match(fq h a).1 with
  | .sl r l=>eH r row l
  | .full r l=>eH r row l
  |_=>none
def pW:Nat:=8
def Cg:TypeDesc→Bool
 | .slice _=>true
 | .string=>true
 |_=>false
def ml(T:bT)(h:aP)(d:Nat)(t t':TypeId)(s x:AV):Option Out:=
 match vo T t,pT T t with
 |some e,some te=>match rowOf T pW e with
  |some row=>bif Nat.beq row.length te.size&&Nat.blt 0 te.size&&Nat.beq (ofConst te.zero).cells.length te.size&&dn T t' Cg then
   match j3 h row x with
   |some m=>match s with
    | .nil=>some {cond:= [m.length≤140737488355328/te.bytes],res:= .own d,new:= [(d, .row e row m false)]}
    | .own k=>match h k with
      |some (.row e' iw l false)=>bif Nat.beq e' e then match eH iw row l with
       |some l'=>some {cond:= [l'.length+m.length≤140737488355328/te.bytes],res:= .own d,del:= [k],new:= [(d, .row e row (l'++m) false)]}
       |none=>none
       else none
      |_=>none
    | .pre k n=>match h k with
      |some (.row e' iw l false)=>bif Nat.beq e' e then match eH iw row l with
       |some l'=>some {cond:= [n+m.length≤140737488355328/te.bytes],res:= .own d,del:= [k],new:= [(d, .row e row (l'.take n++m) false)]}
       |none=>none
       else none
      |_=>none
    | .full r l=>match eH r row l with
      |some l'=>some {cond:= [0<m.length,l'.length+m.length≤140737488355328/te.bytes],res:= .own d,new:= [(d, .row e row (l'++m) false)]}
      |none=>none
    |_=>none
   |none=>none
   else none
  |none=>none
 |_,_=>none
def nq(T:bT)(h:aP)(t t':TypeId)(s x:AV):Option Out:=
 match s with
 | .own k=>match h k with
   |some (.row e row l false)=>bif bn T t row.length then match j3 h row x with
    |some m=>some {cond:= [],res:= .int .i64 ((min m.length l.length:Nat):Int),gk:= [(k, .row e row (m.take l.length++l.drop m.length) false)]}
    |none=>none
    else none
   |_=>none
 | .view k sz off n=>match h k with
   |some (.row e row l false)=>bif bn T t row.length&&Nat.beq sz row.length then match j3 h row x with
    |some m=>some {cond:= [off+n≤l.length],res:= .int .i64 ((min m.length n:Nat):Int),gk:= [(k, .row e row (l.take off++m.take n++l.drop (off+min m.length n)) false)]}
    |none=>none
    else none
   |_=>none
 |_=>none
def mQ:Option AV→Option (Option Int)
 |none=>some none
 |some (.int _ i)=>some (some i)
 |some _=>none
def n0:TypeDesc→Bool
 | .string=>true
 |_=>false
def oB(T:bT)(h:aP)(t:TypeId)(x:AV)(lo hi mx:Option AV):Option Out:=
 match x,mQ lo,mQ hi,mQ mx with
 | .str s,some lo,some hi,some none=>bif dn T t n0 then match lo,hi with
   |none,none=>some {cond:= [],res:= .str s}
   |none,some b=>some {cond:= [0≤b∧b≤(s.length:Int)],res:= .str (s.take b.toNat)}
   |some a,none=>some {cond:= [0≤a∧a≤(s.length:Int)],res:= .str (s.drop a.toNat)}
   |some a,some b=>some {cond:= [0≤a∧a≤b∧b≤(s.length:Int)],res:= .str ((s.take b.toNat).drop a.toNat)}
   else none
 | .sl row l,some lo,some hi,some none=>bif bn T t row.length then match lo,hi with
   |none,none=>some {cond:= [],res:= .sl row l}
   |none,some b=>some {cond:= [0≤b∧b≤(l.length:Int)],res:= .sl row (l.take b.toNat)}
   |some a,none=>some {cond:= [0≤a∧a≤(l.length:Int)],res:= .sl row (l.drop a.toNat)}
   |some a,some b=>some {cond:= [0≤a∧a≤b∧b≤(l.length:Int)],res:= .sl row ((l.take b.toNat).drop a.toNat)}
   else none
 | .sl row l,some none,some (some b),some (some c)=>bif bn T t row.length then some {cond:= [0≤b∧b=c∧b≤(l.length:Int)],res:= .full row (l.take b.toNat)} else none
 | .own k,some lo,some hi,some none=>match h k with
   |some (.row _ row l _)=>bif bn T t row.length then match lo,hi with
    |none,none=>some {cond:= [],res:= .own k}
    |none,some b=>some {cond:= [0≤b∧b≤(l.length:Int)],res:= .pre k b.toNat}
    |some a,none=>some {cond:= [0≤a∧a≤(l.length:Int)],res:= .view k row.length a.toNat (l.length-a.toNat)}
    |some a,some b=>some {cond:= [0≤a∧a≤b∧b≤(l.length:Int)],res:= .view k row.length a.toNat (b.toNat-a.toNat)}
    else none
   |_=>none
 |_,_,_,_=>none
def rM:AV→Bool
 | .str _=>false
 |_=>true
def vq(T:bT)(h:aP)(s d:TypeId)(k:Nat):Option Out:=
 bif Nat.beq s d then match T.find s with
  |some ts=>match ts.desc with
   | .slice e=>match T.find e,h k with
     |some te,some (.row _ row l false)=>match te.desc,eH row [.int .u8] l with
      | .int .u8,some l'=>some {cond:= [0<l'.length],res:= .sl [.int .u8] l',del:= [k]}
      |_,_=>none
     |_,_=>none
   |_=>none
  |none=>none
 else none
def kZ(T:bT)(h:aP)(s d:TypeId)(x:AV):Option Out:=
 match T.find s,T.find d with
 |some ts,some td=>match ts.desc,td.desc,x with
  | .int _, .int k, .int k' n=>
    if lo k≤lo k'∧hi k'≤hi k then some {cond:= [],res:= .int k n} else pU k [] n
  | .string, .string, .str u=>some {cond:= [],res:= .str u}
  | .string, .slice e, .str u=>match T.find e with
    |some te=>match te.desc with
     | .int .u8=>some {cond:= [],res:= .sl [.int .u8] u}
     |_=>none
    |none=>none
  | .slice e, .string,x=>match T.find e with
    |some te=>match te.desc with
     | .int .u8=>match rM x,j3 h [.int .u8] x with
       |true,some u=>some {cond:= [],res:= .str u}
       |_,_=>none
     |_=>none
    |none=>none
  | .slice _, .slice _, .own k=>vq T h s d k
  |_,_,_=>none
 |_,_=>none
def w7(place:Nat→Option (Nat×Nat))(cs:List AV):List (Nat×AV)→Option (List AV)
 | []=>some cs
 |(i,v)::rest=>match place i with
  |none=>none
  |some (off,size)=>bif Nat.beq v.cells.length size&&Nat.ble (off+size) cs.length&&v.cells.all AV.one then w7 place (xT cs off v.cells) rest else none
def placesOf(T:bT):List Field→Option (List (Nat×Nat))
 | []=>some []
 |f::fs=>match T.find f.type,placesOf T fs with
  |some te,some ps=>some ((f.offset,te.size)::ps)
  |_,_=>none
def zC(T:bT)(t:TypeId)(parts:List (Nat×AV)):Option Out:=match T.find t with
 |some te=>match te.desc with
  | .struct fs=>match placesOf T fs.toList with
    |some ps=>match w7 (fun i=>ps[i]?) (ofConst te.zero).cells parts with
     |some cs=>some {cond:= [],res:= .agg cs}
     |none=>none
    |none=>none
  | .array _ e=>match T.find e with
    |some ee=>match w7 (fun i=>some (i*ee.size,ee.size)) (ofConst te.zero).cells parts with
     |some cs=>some {cond:= [],res:= .agg cs}
     |none=>none
    |none=>none
  |_=>none
 |none=>none
def lp(h:aP):List (Nat×AV)→List (Nat×AV)×List Nat
 | []=>([],[])
 |(i,x)::ps=>((i,(lX h x).1)::(lp h ps).1,(lX h x).2++(lp h ps).2)
def hJ(T:bT)(h:aP)(d:Nat)(t:TypeId)(len:Nat)(parts:List (Nat×AV)):Option Out:=
 match vo T t,pT T t with
 |some e,some te=>match rowOf T pW e with
  |some row=>bif Nat.beq row.length te.size&&Nat.blt 0 te.size&&Nat.beq (ofConst te.zero).cells.length te.size&&Nat.ble (len*te.size) 16777216 then
   match w7 (fun i=>some (i*te.size,te.size)) ((List.replicate len (ofConst te.zero).cells).flatten) (lp h parts).1 with
   |some cs=>match rK row len cs with
    |some l=>some {cond:= [],res:= .own d,gk:=cc h (lp h parts).2,new:= [(d, .row e row l false)]}
    |none=>none
   |none=>none
   else none
  |none=>none
 |_,_=>none
def cy(row:List Ty)(z:Value):Bool:=match z with
 | .agg cs=>bP row cs.toList
 |v=>bP row [v]
where
 bP:List Ty→List Value→Bool
 | [],[]=>true
 | .int k::ts, .int k' n::vs=>decide (k=k')&&decide (n=0)&&bP ts vs
 | .bool::ts, .bool false ::vs=>bP ts vs
 | .str::ts, .string s::vs=>s.data.toList.isEmpty&&bP ts vs
 | .slice _::ts, .slice none 0 0::vs=>bP ts vs
 |_,_=>false
def mn(T:bT)(h:aP)(t:TypeId)(x:AV):Option Out:=
 match x with
 | .view k sz off n=>match h k with
   |some (.row e row l false)=>match vo T t,pT T t with
    |some _,some te=>bif bn T t row.length&&Nat.beq sz row.length&&Nat.beq row.length te.size&&cy row te.zero then
      some {cond:= [off+n≤l.length],res:= .cB [],gk:= [(k, .row e row (l.take off++List.replicate n (Row.zero row)++l.drop (off+n)) false)]} else none
    |_,_=>none
   |_=>none
 |_=>none
def qy(T:bT)(d:Nat)(t:TypeId):AV→AV→Option Out
 | .int k n, .int k' c=>match vo T t,pT T t with
   |some e,some te=>match rowOf T pW e with
    |some row=>bif Nat.beq row.length te.size&&Nat.blt 0 te.size&&cy row te.zero then
     some {cond:= [0≤n∧n≤c∧c≤140737488355328/te.bytes],res:= .own d,new:= [(d, .row e row (List.replicate n.toNat (Row.zero row)) false)]} else none
    |none=>none
   |_,_=>none
 |_,_=>none
abbrev bI:=List AV→Option (Prop×AV×List AB)
structure fv where
 pre:Prop
 res:AV
 heap:List (Option AB)
 new:List AB
abbrev eX:=List AV→List AB→Option fv
structure Env where
 T:bT
 sig:Nat→Option bI
 lq:Nat→Option GD:=fun _=>none
 nV:Nat→Option (List Bool×eX):=fun _=>none
 gw:Nat→Bool:=fun _=>false
 cls:Nat→Option Nat:=fun _=>none
 spl:Nat→Bool:=fun _=>false
 Gb:Nat:=0
mutual
def de(base:Nat):AV→AV
 | .own k=> .own (base+k)
 | .agg cs=> .agg (oC base cs)
 | .cB vs=> .cB (oC base vs)
 |a=>a
def oC(base:Nat):List AV→List AV
 | []=> []
 |a::aF=>de base a::oC base aF
end
def eN(base:Nat):List AB→List (Nat×AB)
 | []=> []
 |b::bs=>(base,b)::eN (base+1) bs
def k6(d:Nat):Nat:=100000+100*d
mutual
def AV.eh:AV→Bool
 | .int _ _| .bool _| .tt| .ff| .str _| .undef| .own _| .nil=>true
 | .agg cs=>xW cs
 | .cB vs=>xW vs
 |_=>false
def xW:List AV→Bool
 | []=>true
 |a::aF=>a.eh&&xW aF
end
def CJ:AV→Bool
 | .fn (.func _) [] []=>true
 |_=>false
mutual
def iF(n:Nat):AV→Bool
 | .own k=>Nat.blt k n
 | .agg cs=>xX n cs
 | .cB vs=>xX n vs
 | .fT _ cs=>cs.all CJ
 | .cX| .pre _ _| .view _ _ _ _| .ref _ _| .elem _ _ _ _| .fn _ _ _| .fS _ _ _| .oK _ _=>false
 |_=>true
def xX(n:Nat):List AV→Bool
 | []=>true
 |a::aF=>iF n a&&xX n aF
end
def hU:List AB→Bool
 | []=>true
 | .row _ _ _ false ::r=>hU r
 |_=>false
def Ch:Ty→Bool
 | .slice _=>false
 |_=>true
def c7:List AB→Bool
 | []=>true
 | .row _ row _ _::r=>row.all Ch&&c7 r
 |_=>false
def lr(E:Env)(h:aP)(d:Nat)(f:Nat)(args:List AV):Option Out:=match E.sig f with
 |some s=>match s (jk h args).1 with
  |some (pre,res,bs)=>bif Nat.ble bs.length 100&&iF bs.length res&&hU bs then some {cond:= [pre],res:=de (k6 d) res,gk:=bif res.eh&&c7 bs then [] else cc h (jk h args).2,new:=eN (k6 d) bs} else none
  |none=>none
 |none=>none
def xY(b:Bool):AV→AV→AV
 | .int k n, .int k' m=>if k=k' then .int k (bif b then n else m) else .cX
 | .str s, .str u=> .str (bif b then s else u)
 | .sl r l, .sl r' m=>match eH r' r m with
   |some m'=> .sl r (bif b then l else m')
   |none=> .cX
 | .sl r l, .nil=> .sl r (bif b then l else [])
 | .nil, .sl r l=> .sl r (bif b then [] else l)
 | .nil, .nil=> .nil
 | .iX, .iX=> .iX
 | .own k, .own k'=>bif Nat.beq k k' then .own k else .cX
 |x,y=>match pV x,pV y with
  |some p,some q=> .bool (bif b then p else q)
  |_,_=> .cX
def mo(b:Bool):List AV→List AV→List AV
 |x::xs,y::ys=>xY b x y::mo b xs ys
 |_,_=> []
def xZ(b:Bool):AV→AV→AV
 | .agg xs, .agg ys=>bif Nat.beq xs.length ys.length then .agg (mo b xs ys) else .cX
 | .cB xs, .cB ys=>bif Nat.beq xs.length ys.length then .cB (mo b xs ys) else .cX
 |x,y=>xY b x y
def x4(b:Bool):Option AB→Option AB→Option AB
 |some (.cells xs),some (.cells ys)=>bif Nat.beq xs.length ys.length then some (.cells (mo b xs ys)) else none
 |some (.row e r l fr),some (.row e' r' m zD)=>match eH r' r m with
  |some m'=>bif Nat.beq e e'&&(fr==zD) then some (.row e r (bif b then l else m') fr) else none
  |none=>none
 |_,_=>none
def ya:List AV→Option (IntKind×List Int)
 | []=>none
 |a::r=>match a with
  | .int k n=>match r with
    | []=>some (k,[n])
    |_::_=>match ya r with
     |some (k',l)=>if k=k' then some (k,n::l) else none
     |none=>none
  |_=>none
def every(sz j:Nat):Nat→List AV→List AV
 |0,_=> []
 |n+1,cs=>cs.getD j .cX::every sz j n (cs.drop sz)
def yb(sz k:Nat)(cs:List AV)(n:Int):Nat→Option (List AV)
 |0=>some []
 |m+1=>match yb sz k cs n m,ya (every sz m k cs) with
  |some vs,some (kd,l)=>some (vs++ [.int kd (l.getD n.toNat 0)])
  |_,_=>none
def CK(T:bT)(t:TypeId):Option (Nat×TE):=match T.find t with
 |some te=>match te.desc with
  | .array k e=>match T.find e with
    |some ee=>some (k,ee)
    |none=>none
  |_=>none
 |none=>none
def rN(T:bT)(t:TypeId)(cs:List AV)(n:Int):Option Out:=match CK T t with
 |some (k,ee)=>bif Nat.beq cs.length (k*ee.size) then match yb ee.size k cs n ee.size with
  |some vs=>bif ee.desc.jG then some {cond:= [0≤n∧n<(k:Int)],res:= .agg vs} else match vs with
   | [a]=>some {cond:= [0≤n∧n<(k:Int)],res:=a}
   |_=>none
  |none=>none
  else none
 |none=>none
def n3(k:Nat):Bool:=Nat.ble 50000 k&&Nat.blt k 60000
def fresh(h:aP)(k:Nat):Bool:=match h k with
 |none=> !(n3 k)
 |some _=>false
def rO(n:Int):List Int→Prop
 | []=>True
 |k::r=>n≠k∧rO n r
def CL(n:Int):List Int→Bool
 | []=>false
 |k::r=>decide (n=k) || CL n r
def iG:List Int→Bool
 | []=>true
 |k::r=> !CL k r&&iG r
def w8:TypeDesc→Bool
 | .int .i64=>true
 |_=>false
def MY:Value→Bool
 | .nilFunc=>true
 |_=>false
def w9(T:bT)(Gb:Nat)(t:TypeId)(ok:Bool)(ks:List Int)(cs:List AV)(n:Int):Option Out:=match T.find t with
 |some te=>match te.desc with
  | .map kt et=>bif dn T kt w8&&iG ks then
      (match ks[Gb]?,cs[Gb]? with
      |some k,some c=>some {cond:= [n=k],res:=bif ok then .cB [c, .tt] else c}
      |_,_=>match T.find et with
       |some ee=>bif MY ee.zero then some {cond:= [rO n ks],res:=bif ok then .cB [.jh, .ff] else .jh} else none
       |none=>none)
    else none
  |_=>none
 |none=>none
def cM(E:Env)(st:St)(o:Oper):Option Out:=
 let T:=E.T
 let h:=st.h
 let ρ:=ev st
 match o.op with
 | .move x| .assign x=>some {cond:= [],res:=ρ x}
 | .pick c a b=>match ρ c with
   | .tt=>some {cond:= [],res:=ρ a}
   | .ff=>some {cond:= [],res:=ρ b}
   | .bool p=>some {cond:= [],res:=xZ p (ρ a) (ρ b)}
   |_=>none
 | .alloc t=>match T.find t,o.dst with
   |some te,some d=>bif Nat.ble te.size 40 then(bif (ofConst te.zero).cells.all AV.one then some {cond:= [],res:= .ref (st.kb+d) 0,new:= [(st.kb+d, .cells (eV (st.kb+d) (ofConst te.zero).cells))]} else none) else none
   |_,_=>none
 | .box _ x=>match o.dst with
   |some d=>bif (ρ x).cells.all AV.one then some {cond:= [],res:= .ref (st.kb+d) 0,new:= [(st.kb+d, .cells (eV (st.kb+d) (ρ x).cells))]} else none
   |none=>none
 | .build t parts=>zC T t (parts.toList.map fun p=>(p.1,ρ p.2))
 | .buildSlice t len parts=>match o.dst with
   |some d=>bif fresh h (st.kb+d) then hJ T h (st.kb+d) t len (parts.toList.map fun p=>(p.1,ρ p.2)) else none
   |none=>none
 | .load t p=>np T h t (ρ p)
 | .store t p v=>hC T h t (ρ p) (ρ v)
 | .nilCheck x=>match ρ x with
   | .ref k off=>some {cond:= [],res:= .ref k off}
   | .fS r x j=>some {cond:= [],res:= .fS r x j}
   | .elem k sz i j=>some {cond:= [],res:= .elem k sz i j}
   | .fn (.func f) first bk=>some {cond:= [],res:= .fn (.func f) first bk}
   |_=>none
 | .binOp op t x y _=>IM T t op (ρ x) (ρ y)
 | .unOp op _ x=>MX op (ρ x)
 | .convert s d x=>kZ T h s d (ρ x)
 | .makeFunc f first bk=>some {cond:= [],res:= .fn f (first.toList.map ρ) (bk.toList.map ρ)}
 | .makeSlice t l c=>match o.dst with
   |some d=>bif fresh h (st.kb+d) then qy T (st.kb+d) t (ρ l) (ρ c) else none
   |none=>none
 | .slice t x lo hi mx=>oB T h t (ρ x) (lo.map ρ) (hi.map ρ) (mx.map ρ)
 | .fieldAddr s x f=>qx T s f (ρ x)
 | .field s x f=>match xU T s f,ρ x with
   |some (ft,off), .agg cs=>match T.find ft with
    |some te=>match pick te cs off with
     |some a=>some {cond:= [],res:=a}
     |none=>none
    |none=>none
   |_,_=>none
 | .indexAddr t x i=>oL T h t (ň i) (ρ x) (ρ i)
 | .index t x i=>match ρ x,ρ i with
   | .str s, .int _ n=>bif dn T t n0 then some {cond:= [0≤n∧n<(s.length:Int)],res:= .int .u8 ((s.getD n.toNat 0).toNat:Int)} else none
   | .agg cs, .int _ n=>rN T t cs n
   |_,_=>none
 | .extract x i=>match ρ x with
   | .cB vs=>match vs[i]? with
     |some a=>some {cond:= [],res:=a}
     |none=>none
   |_=>none
 | .lookup t x i ok=>match ρ x,ρ i with
   | .fT ks cs, .int .i64 n=>w9 T E.Gb t ok ks cs n
   |_,_=>none
 | .call c=>match c.callee with
   | .builtin b=>match b,c.args.toList,c.argTypes.toList with
     | .len,[x],[t]=>match zB h (ρ x) with
       |some n=>bif (bif rM (ρ x) then dn T t gu else dn T t n0) then some {cond:= [],res:= .int .i64 n} else none
       |none=>none
     | .append,[s,x],[t,t']=>match o.dst with
       |some d=>bif fresh h (st.kb+d) then ml T h (st.kb+d) t t' (ρ s) (ρ x) else none
       |none=>none
     | .copy,[s,x],[t,t']=>nq T h t t' (ρ s) (ρ x)
     | .clear,[x],[t]=>mn T h t (ρ x)
     | .min,[x,y],_=>match ρ x,ρ y with
       | .int k n, .int k' m=>if k=k' then some {cond:= [],res:= .int k (min n m)} else none
       |_,_=>none
     | .max,[x,y],_=>match ρ x,ρ y with
       | .int k n, .int k' m=>if k=k' then some {cond:= [],res:= .int k (max n m)} else none
       |_,_=>none
     |_,_,_=>none
   | .value f=>match ρ f,o.dst with
     | .fn (.func f) first bk,some d=>lr E h (st.kb+d) f (first++(c.args.toList.map ρ)++bk)
     | .fn (.func f) first bk,none=>lr E h st.kb f (first++(c.args.toList.map ρ)++bk)
     |_,_=>none
   |_=>none
 |_=>none
def iH(h:aP):List (Nat×AB)→Bool
 | []=>true
 |(k,_)::r=>(match h k with|none=> !(n3 k)|some _=>false)&&iH h r
def lu(new:List (Nat×AB))(a:AV):AV:=match new with
 | []=>a
 |(k,_)::r=>lu r (dp k a)
def cH(new:List (Nat×AB))(a:AB):AB:=match new with
 | []=>a
 |(k,_)::r=>cH r (mP k a)
def aq(l:List (Nat×AB))(k:Nat):Option AB:=match l with
 | []=>none
 |(j,b)::r=>bif Nat.beq k j then some b else aq r k
def aE(l:List Nat)(k:Nat):Bool:=match l with
 | []=>false
 |j::r=>Nat.beq k j || aE r k
def tg(out:Out)(k:Nat)(b:AB):AB:=bif aE out.raw k then b else cH out.new b
def CM(h:aP)(out:Out):aP:=fun k=>match aq out.new k with
 |some b=>some b
 |none=>bif aE out.del k then none else match aq out.gk k with
  |some b=>some (tg out k b)
  |none=>match h k with
   |some b=>some (cH out.new b)
   |none=>none
def St.put(st:St)(d:Option Nat)(out:Out):St:=
 {st with
  t:=match d with
   |some d=>fun i=>bif Nat.beq i d then out.res else lu out.new (st.t i)
   |none=>fun i=>lu out.new (st.t i)
  h:=CM st.h out
  bJ:=out.gk.map (·.1)++(out.del++(out.new.map (·.1)++st.bJ))
  news:=st.news++out.new.map fun x=> .one x.1
  AL:=out.del++st.AL}
def AN:List Prop→Prop
 | []=>True
 | [p]=>p
 |p::ps=>p∧AN ps
end Go.Vg

end
section
namespace Go.Vg
open Go
def bX {α:Type}(R:List Value→α→Prop):List Value→List α→Prop
 |cs,[]=>cs= []
 |cs,x::l=>∃c1 c2,cs=c1++c2∧R c1 x∧bX R c2 l
mutual
def Rd(w:World)(A:Nat→Prop):(t:Ty)→Value→D t→Prop
 | .int k,v,x=>v= .int k (DI.toInt k x)∧lo k≤DI.toInt k x∧DI.toInt k x≤hi k
 | .bool,v,b=>v= .bool b
 | .str,v,s=>v= .string ⟨s.toArray⟩∧s.length≤maxLen
 | .slice row,v,l=>∃a cap cs,v= .slice a l.length cap∧l.length≤cap∧cap≤maxLen∧bX (bh w A row) cs l∧
     (cs≠ []→∃b o,a=some ⟨b,o,none⟩∧A b∧w.rangeAt b o cs)
def bh(w:World)(A:Nat→Prop):(ts:List Ty)→List Value→Row ts→Prop
 | [],vs,_=>vs= []
 |t::ts,vs,x=>∃v bG,vs=v::bG∧Rd w A t v (Row.hd x)∧bh w A ts bG (Row.tl x)
end
mutual
def aa(w:World)(A:Nat→Prop)(β:Nat→Value):Value→AV→Prop
 |_, .cX=>True
 |v, .undef=>v=undef
 |v, .int k n=>v= .int k n∧lo k≤n∧n≤hi k
 |v, .bool b=>v= .bool b
 |v, .tt=>v= .bool true
 |v, .ff=>v= .bool false
 |v, .str s=>v= .string ⟨s.toArray⟩∧s.length≤maxLen
 |v, .nil=>v= .slice none 0 0
 |v, .iX=>v= .pointer none
 |v, .jh=>v= .nilFunc
 |v, .sl row l=>Rd w A (.slice row) v l
 |v, .full row l=>Rd w A (.slice row) v l∧∃a,v= .slice a l.length l.length
 |v, .fS row x j=>∃b o cs,v= .pointer (some ⟨b,o+j,none⟩)∧A b∧w.rangeAt b o cs∧bh w A row cs x
 |v, .oK row l=>∃b o cs,v= .pointer (some ⟨b,o,none⟩)∧A b∧w.rangeAt b o cs∧bX (bh w A row) cs l
 |v, .own k=>v=β k∧v.oneCell'=true
 |v, .pre k n=>(β k= .slice none 0 0∧v= .slice none 0 0∧n=0)∨
    ∃b m cap,β k= .slice (some ⟨b,0,none⟩) m cap∧v= .slice (some ⟨b,0,none⟩) n cap∧n≤m
 |v, .view k sz off n=>(n=0∧∃a cap,v= .slice a 0 cap∧cap≤maxLen)∨
    ∃b m cap hX,β k= .slice (some ⟨b,0,none⟩) m cap∧v= .slice (some ⟨b,off*sz,none⟩) n hX∧n≤hX∧off+hX≤cap∧off+n≤m
 |v, .ref k off=>∃b,β k= .pointer (some ⟨b,0,none⟩)∧v= .pointer (some ⟨b,off,none⟩)
 |v, .elem k sz i j=>∃b m cap,β k= .slice (some ⟨b,0,none⟩) m cap∧v= .pointer (some ⟨b,i*sz+j,none⟩)
 |v, .agg cs=>∃arr:Array Value,v= .agg arr∧ae w A β arr.toList cs
 |v, .cB vs=>∃arr:Array Value,v= .tuple arr∧ae w A β arr.toList vs
 |v, .nU _ l=>∃b,v= .bool b∧(b=true→l= [])
 |v, .fn f first bk=>∃a1 a2:Array Value,v= .func f a1 a2∧ae w A β a1.toList first∧ae w A β a2.toList bk
 |v, .fT ks cs=>∃(b:Nat) (es:Array MapEntry) (clock:Nat),v= .map (some b)∧A b∧w.heap[b]? =some (.map es clock)∧es.toList.map (·.key)=ks.map (Value.int .i64)∧ae w A β (es.toList.map (·.val)) cs
def ae(w:World)(A:Nat→Prop)(β:Nat→Value):List Value→List AV→Prop
 |vs,[]=>vs= []
 |vs,a::aF=>∃v bG,vs=v::bG∧aa w A β v a∧ae w A β bG aF
end
def aw:Value→Option Nat
 | .pointer (some a)=>some a.block
 | .slice (some a) _ _=>some a.block
 |_=>none
def BR(w:World)(A:Nat→Prop)(β:Nat→Value)(k:Nat):AB→Prop
 | .cells cs=>∃b arr e,β k= .pointer (some ⟨b,0,none⟩)∧w.heap[b]? =some (.cells arr e (0,0))∧¬A b∧
     ae w A β arr.toList cs∧∀v∈arr.toList,v.oneCell'=true
 | .row e row l fr=>∃xs,w.ownsRow 0 e row.length (β k) l.length xs∧bX (bh w A row) xs l∧
     ∀b,aw (β k)=some b→if fr then A b else ¬A b
 | .arr row l=>∃b arr e,β k= .pointer (some ⟨b,0,none⟩)∧w.heap[b]? =some (.cells arr e (0,0))∧¬A b∧bX (bh w A row) arr.toList l
 | .gw e j row l i=>∃xs v0,w.ownsRow 0 e row.length (β k) l.length xs∧(∀b,aw (β k)=some b→¬A b)∧bX (bh w A row) (xs.set (i*row.length+(row.length-1)) v0) l∧
     ∀j',j=some j'→xs[i*row.length+(row.length-1)]? =some (β j')
 | .views e j n m sz=>∃xs,w.ownsRow 0 e 1 (β k) n xs∧(∀b,aw (β k)=some b→¬A b)∧
     ∀j',j=some j'→∀i,i<m→∃v,xs[i]? =some v∧aa w A β v (.view j' 1 (i*sz) sz)
def oM(w:World)(A:Nat→Prop)(i:Nat)(d:GD):Prop :=A i∧∃cs,w.rangeAt i 0 cs∧bX (bh w A d.row) cs d.l
structure Ctx where
 w0:World
 A0:Nat→Prop
 M0:Nat→Prop
 G:Nat→Option GD
 yc:Nat→Value
structure Fr (C:Ctx) (w:World):Prop where
 os:w.os=C.w0.os
 tape:w.tape=C.w0.tape
 output:w.output=C.w0.output
 size:C.w0.heap.size≤w.heap.size
 block:∀b,b<C.w0.heap.size→¬C.M0 b→w.heap[b]? =C.w0.heap[b]?
structure aD (C:Ctx) (A:Nat→Prop) (β:Nat→Value) (st:St) (a:Act) (w:World):Prop where
 defers:a.defers= []
 size:a.tmps.size=st.n
 tmps:∀i,aa w A β (a.tmps.getD i undef) (st.t i)
 blocks:∀k ab,st.h k=some ab→BR w A β k ab
 apart:∀k k' b,(st.h k).isSome→(st.h k').isSome→aw (β k)=some b→aw (β k')=some b→k=k'
 bound:∀b,A b→b<w.heap.size
 frame:Fr C w
 kg:∀b,b<C.w0.heap.size→A b→C.A0 b∨C.M0 b
 base:∀b,C.A0 b→A b
 nr:∀k b,(st.h k).isSome→aw (β k)=some b→C.w0.heap.size≤b∨C.M0 b
 qz:∀i d,st.g i=some d→C.G i=some d
 laid:∀i d,C.G i=some d→oM w A i d
 held:∀k,n3 k=true→β k=C.yc k
def Rel(C:Ctx)(st:St)(a:Act)(w:World):Prop :=∃A β,aD C A β st a w
theorem mR {w w':World} {b o:Nat} {cs:List Value}(h:w'.heap[b]? =w.heap[b]?)(hr:w.rangeAt b o cs):w'.rangeAt b o cs:=by
 intro j v hj
 have :=hr j v hj
 rw [World.cell?_of_block (w:=w) (w':=w') (a:=⟨b,o+j,none⟩) h]
 exact this
theorem bA {α:Type} {R R':List Value→α→Prop}(h:∀c x,R c x→R' c x):∀(l:List α) (cs:List Value),bX R cs l→bX R' cs l
 | [],_,hr=>hr
 |_::l,_,⟨c1,c2,hc,h1,h2⟩=>⟨c1,c2,hc,h _ _ h1,bA h l c2 h2⟩
def cL(w w':World)(A A':Nat→Prop):Prop :=∀b,A b→A' b∧w'.heap[b]? =w.heap[b]?
mutual
theorem yd {w w':World} {A A':Nat→Prop}(h:cL w w' A A'):∀(t:Ty) (v:Value) (x:D t),Rd w A t v x→Rd w' A' t v x
 | .int _,_,_,hr=>by simpa only [Rd] using hr
 | .bool,_,_,hr=>by simpa only [Rd] using hr
 | .str,_,_,hr=>by simpa only [Rd] using hr
 | .slice row,v,l,hr=>by
   simp only [Rd] at hr ⊢
   obtain⟨a,cap,cs,h1,h2,h3,h4,h5⟩:=hr
   refine⟨a,cap,cs,h1,h2,h3,bA (fun c x hx=>bB h row c x hx) l cs h4,fun dJ=> ?_⟩
   obtain⟨b,o,ha,hA,TG⟩:=h5 dJ
   exact⟨b,o,ha,(h b hA).1,mR (h b hA).2 TG⟩
theorem bB {w w':World} {A A':Nat→Prop}(h:cL w w' A A'):∀(ts:List Ty) (vs:List Value) (x:Row ts),bh w A ts vs x→bh w' A' ts vs x
 | [],_,_,hr=>by simpa only [bh] using hr
 |t::ts,vs,x,hr=>by
  simp only [bh] at hr ⊢
  obtain⟨v,bG,h1,h2,h3⟩:=hr
  exact⟨v,bG,h1,yd h t v _ h2,bB h ts bG _ h3⟩
end
theorem oM.mono {w w':World} {A A':Nat→Prop} {i:Nat} {d:GD}(hd:oM w A i d)(h:cL w w' A A'):oM w' A' i d:=by
 obtain⟨h1,cs,h2,h3⟩:=hd
 exact⟨(h i h1).1,cs,mR (h i h1).2 h2,bA (fun c x hx=>bB h _ _ _ hx) _ _ h3⟩
mutual
theorem ix {w w':World} {A A':Nat→Prop} {β:Nat→Value}(h:cL w w' A A'):∀(a:AV) (v:Value),aa w A β v a→aa w' A' β v a
 | .cX,_,hr=>by simp [aa]
 | .undef,_,hr=>by simpa only [aa] using hr
 | .int _ _,_,hr=>by simpa only [aa] using hr
 | .bool _,_,hr=>by simpa only [aa] using hr
 | .tt,_,hr=>by simpa only [aa] using hr
 | .ff,_,hr=>by simpa only [aa] using hr
 | .str _,_,hr=>by simpa only [aa] using hr
 | .nil,_,hr=>by simpa only [aa] using hr
 | .iX,_,hr=>by simpa only [aa] using hr
 | .nU _ _,_,hr=>by simpa only [aa] using hr
 | .jh,_,hr=>by simpa only [aa] using hr
 | .sl row l,v,hr=>by
   simp only [aa] at hr ⊢
   exact yd h _ _ _ hr
 | .full row l,v,hr=>by
   simp only [aa] at hr ⊢
   exact⟨yd h _ _ _ hr.1,hr.2⟩
 | .fS row x j,v,hr=>by
   simp only [aa] at hr ⊢
   obtain⟨b,o,cs,h1,h2,h3,h4⟩:=hr
   exact⟨b,o,cs,h1,(h b h2).1,mR (h b h2).2 h3,bB h _ _ _ h4⟩
 | .oK row l,v,hr=>by
   simp only [aa] at hr ⊢
   obtain⟨b,o,cs,h1,h2,h3,h4⟩:=hr
   exact⟨b,o,cs,h1,(h b h2).1,mR (h b h2).2 h3,bA (fun c x hx=>bB h _ _ _ hx) _ _ h4⟩
 | .own _,_,hr=>by simpa only [aa] using hr
 | .pre _ _,_,hr=>by simpa only [aa] using hr
 | .view _ _ _ _,_,hr=>by simpa only [aa] using hr
 | .ref _ _,_,hr=>by simpa only [aa] using hr
 | .elem _ _ _ _,_,hr=>by simpa only [aa] using hr
 | .agg cs,v,hr=>by
   simp only [aa] at hr ⊢
   obtain⟨arr,h1,h2⟩:=hr
   exact⟨arr,h1,en h cs _ h2⟩
 | .cB cs,v,hr=>by
   simp only [aa] at hr ⊢
   obtain⟨arr,h1,h2⟩:=hr
   exact⟨arr,h1,en h cs _ h2⟩
 | .fn f first bk,v,hr=>by
   simp only [aa] at hr ⊢
   obtain⟨a1,a2,h1,h2,h3⟩:=hr
   exact⟨a1,a2,h1,en h first _ h2,en h bk _ h3⟩
 | .fT ks cs,v,hr=>by
   simp only [aa] at hr ⊢
   obtain⟨b,es,ck,h1,h2,h3,h4,h5⟩:=hr
   exact⟨b,es,ck,h1,(h b h2).1,(h b h2).2.trans h3,h4,en h cs _ h5⟩
theorem en {w w':World} {A A':Nat→Prop} {β:Nat→Value}(h:cL w w' A A'):∀(aF:List AV) (vs:List Value),ae w A β vs aF→ae w' A' β vs aF
 | [],_,hr=>by simpa only [ae] using hr
 |a::aF,vs,hr=>by
  simp only [ae] at hr ⊢
  obtain⟨v,bG,h1,h2,h3⟩:=hr
  exact⟨v,bG,h1,ix h a v h2,en h aF bG h3⟩
end
theorem aO {k d:Nat}(h:¬k=d):Nat.beq k d=false :=by
 cases hb:Nat.beq k d with
 |false=>rfl
 |true=>exact absurd (Nat.eq_of_beq_eq_true hb) h
theorem bC(k:Nat):Nat.beq k k=true :=Nat.beq_refl k
def bD(β:Nat→Value)(d:Nat)(v:Value):Nat→Value:=fun k=>if k=d then v else β k
mutual
theorem rP {w:World} {A:Nat→Prop} {β:Nat→Value}(d:Nat)(u:Value):∀(a:AV) (v:Value),aa w A β v a→aa w A (bD β d u) v (dp d a)
 | .cX,_,hr=>by simp [dp,aa]
 | .undef,_,hr=>by simpa only [dp,aa] using hr
 | .int _ _,_,hr=>by simpa only [dp,aa] using hr
 | .bool _,_,hr=>by simpa only [dp,aa] using hr
 | .tt,_,hr=>by simpa only [dp,aa] using hr
 | .ff,_,hr=>by simpa only [dp,aa] using hr
 | .str _,_,hr=>by simpa only [dp,aa] using hr
 | .nil,_,hr=>by simpa only [dp,aa] using hr
 | .iX,_,hr=>by simpa only [dp,aa] using hr
 | .nU _ _,_,hr=>by simpa only [dp,aa] using hr
 | .jh,_,hr=>by simpa only [dp,aa] using hr
 | .sl _ _,_,hr=>by simpa only [dp,aa] using hr
 | .full _ _,_,hr=>by simpa only [dp,aa] using hr
 | .fS _ _ _,_,hr=>by simpa only [dp,aa] using hr
 | .oK _ _,_,hr=>by simpa only [dp,aa] using hr
 | .own k,v,hr=>by
   simp only [dp]
   by_cases hk:k=d
   · subst hk;simp [aa]
   · have :Nat.beq k d=false :=aO hk
     simp only [this,cond_false]
     simpa only [aa,bD,if_neg hk] using hr
 | .pre k n,v,hr=>by
   simp only [dp]
   by_cases hk:k=d
   · subst hk;simp [aa]
   · have :Nat.beq k d=false :=aO hk
     simp only [this,cond_false]
     simpa only [aa,bD,if_neg hk] using hr
 | .view k sz off n,v,hr=>by
   simp only [dp]
   by_cases hk:k=d
   · subst hk;simp [aa]
   · have :Nat.beq k d=false :=aO hk
     simp only [this,cond_false]
     simpa only [aa,bD,if_neg hk] using hr
 | .ref k off,v,hr=>by
   simp only [dp]
   by_cases hk:k=d
   · subst hk;simp [aa]
   · have :Nat.beq k d=false :=aO hk
     simp only [this,cond_false]
     simpa only [aa,bD,if_neg hk] using hr
 | .elem k sz i j,v,hr=>by
   simp only [dp]
   by_cases hk:k=d
   · subst hk;simp [aa]
   · have :Nat.beq k d=false :=aO hk
     simp only [this,cond_false]
     simpa only [aa,bD,if_neg hk] using hr
 | .agg cs,v,hr=>by
   simp only [dp,aa] at hr ⊢
   obtain⟨arr,h1,h2⟩:=hr
   exact⟨arr,h1,fI d u cs _ h2⟩
 | .cB cs,v,hr=>by
   simp only [dp,aa] at hr ⊢
   obtain⟨arr,h1,h2⟩:=hr
   exact⟨arr,h1,fI d u cs _ h2⟩
 | .fn f first bk,v,hr=>by
   simp only [dp,aa] at hr ⊢
   obtain⟨a1,a2,h1,h2,h3⟩:=hr
   exact⟨a1,a2,h1,fI d u first _ h2,fI d u bk _ h3⟩
 | .fT ks cs,v,hr=>by
   simp only [dp,aa] at hr ⊢
   obtain⟨b,es,ck,h1,h2,h3,h4,h5⟩:=hr
   exact⟨b,es,ck,h1,h2,h3,h4,fI d u cs _ h5⟩
theorem fI {w:World} {A:Nat→Prop} {β:Nat→Value}(d:Nat)(u:Value):∀(aF:List AV) (vs:List Value),ae w A β vs aF→ae w A (bD β d u) vs (eV d aF)
 | [],_,hr=>by simpa only [eV,ae] using hr
 |a::aF,vs,hr=>by
  simp only [eV,ae] at hr ⊢
  obtain⟨v,bG,h1,h2,h3⟩:=hr
  exact⟨v,bG,h1,rP d u a v h2,fI d u aF bG h3⟩
end
theorem MZ {w:World} {A:Nat→Prop} {β aI:Nat→Value}(h:∀k,aI k=β k) {v:Value} {a:AV}(hr:aa w A β v a):aa w A aI v a:=by
 have :aI=β:=funext h
 rw [this];exact hr
theorem wz {w:World} {A:Nat→Prop}:∀(new:List (Nat×AB)) (β aI:Nat→Value) (v:Value) (a:AV),(∀k,aq new k=none→aI k=β k)→aa w A β v a→aa w A aI v (lu new a)
 | [],β,aI,v,a,h,hr=>by
   simp only [lu]
   exact MZ (fun k=>h k (by simp [aq])) hr
 |(d,b)::r,β,aI,v,a,h,hr=>by
  simp only [lu]
  refine wz r (bD β d (aI d)) aI v (dp d a) (fun k hk=> ?_) (rP d (aI d) a v hr)
  by_cases IN:k=d
  · subst IN;simp [bD]
  · simp only [bD,if_neg IN]
    exact h k (by simp only [aq,aO IN,cond_false];exact hk)
def qZ(new:List (Nat×AB))(cs:List AV):List AV:=match new with
 | []=>cs
 |(k,_)::r=>qZ r (eV k cs)
theorem th {w:World} {A:Nat→Prop}:∀(new:List (Nat×AB)) (β aI:Nat→Value) (vs:List Value) (aF:List AV),(∀k,aq new k=none→aI k=β k)→ae w A β vs aF→ae w A aI vs (qZ new aF)
 | [],β,aI,v,a,h,hr=>by
   simp only [qZ]
   have :aI=β:=funext fun k=>h k (by simp [aq])
   rw [this];exact hr
 |(d,b)::r,β,aI,v,a,h,hr=>by
  simp only [qZ]
  refine th r (bD β d (aI d)) aI v (eV d a) (fun k hk=> ?_) (fI d (aI d) a v hr)
  by_cases IN:k=d
  · subst IN;simp [bD]
  · simp only [bD,if_neg IN]
    exact h k (by simp only [aq,aO IN,cond_false];exact hk)
theorem ti:∀(new:List (Nat×AB)) (cs:List AV),cH new (.cells cs)= .cells (qZ new cs)
 | [],_=>rfl
 |(k,_)::r,cs=>by simp only [cH,mP,qZ,ti r]
theorem jI:∀(new:List (Nat×AB)) (e:Nat) (row:List Ty) (l:List (Row row)) (fr:Bool),cH new (.row e row l fr)= .row e row l fr
 | [],_,_,_,_=>rfl
 |(k,_)::r,e,row,l,fr=>by simp only [cH,mP,jI r]
theorem ye:∀(new:List (Nat×AB)) (row:List Ty) (l:List (Row row)),cH new (.arr row l)= .arr row l
 | [],_,_=>rfl
 |(k,_)::r,row,l=>by simp only [cH,mP,ye r]
def kh(new:List (Nat×AB))(j:Option Nat):Option Nat:=match new with
 | []=>j
 |(k,_)::r=>kh r (pS k j)
theorem tj:∀(new:List (Nat×AB)) (e:Nat) (j:Option Nat) (n m sz:Nat),cH new (.views e j n m sz)= .views e (kh new j) n m sz
 | [],_,_,_,_,_=>rfl
 |(k,_)::r,e,j,n,m,sz=>by simp only [cH,mP,kh,tj r]
theorem yf:∀(new:List (Nat×AB)) (e:Nat) (j:Option Nat) (row:List Ty) (l:List (Row row)) (i:Nat),cH new (.gw e j row l i)= .gw e (kh new j) row l i
 | [],_,_,_,_,_=>rfl
 |(k,_)::r,e,j,row,l,i=>by simp only [cH,mP,kh,yf r]
theorem qA:∀(new:List (Nat×AB)),kh new none=none
 | []=>rfl
 |(k,_)::r=>by simp only [kh,pS,qA r]
theorem qB:∀(new:List (Nat×AB)) (j:Option Nat) (j':Nat),kh new j=some j'→j=some j'∧aq new j'=none
 | [],j,j',h=>⟨h,rfl⟩
 |(k,_)::r,none,j',h=>by simp only [kh,pS,qA] at h;cases h
 |(k,_)::r,some i,j',h=>by
  simp only [kh,pS] at h
  cases hb:Nat.beq i k with
  |true=>rw [hb] at h;simp only [cond_true,qA] at h;cases h
  |false=>
   rw [hb] at h
   obtain⟨h1,h2⟩:=qB r (some i) j' h
   simp only [Option.some.injEq] at h1
   subst h1
   exact⟨rfl,by simp only [aq,hb,cond_false];exact h2⟩
theorem tm {w w':World} {A A':Nat→Prop} {β aI:Nat→Value} {v:Value} {j sz off n:Nat}(h:aI j=β j)(hr:aa w A β v (.view j sz off n)):aa w' A' aI v (.view j sz off n):=by
 simp only [aa] at hr ⊢
 rw [h];exact hr
theorem fJ {w w':World} {e size n:Nat} {v:Value} {xs:List Value}(h:w.ownsRow 0 e size v n xs)(hb:∀b,aw v=some b→w'.heap[b]? =w.heap[b]?):w'.ownsRow 0 e size v n xs:=by
 refine⟨h.1,?_⟩
 rcases h.2 with hn|⟨g,cap,cur,rfl,h0,hg,rest⟩
 · exact .inl hn
 · refine .inr ⟨g,cap,cur,rfl,h0,?_,rest⟩
   rw [hb g rfl];exact hg
theorem tp {w w':World} {A A':Nat→Prop} {β aI:Nat→Value} {new:List (Nat×AB)} {k:Nat} {ab:AB}(bU:∀k,aq new k=none→aI k=β k)(hk:aI k=β k)
  (hblk:∀b,aw (β k)=some b→w'.heap[b]? =w.heap[b]? ∧(A' b→A b)) (hK:cL w w' A A') (h:BR w A β k ab):BR w' A' aI k (cH new ab):=by
 cases ab with
 |cells cs=>
  rw [ti]
  obtain⟨b,arr,e,h1,h2,h3,h4,h5⟩:=h
  have hb:=hblk b (by rw [h1];rfl)
  exact⟨b,arr,e,hk.trans h1,hb.1.trans h2,fun hA=>h3 (hb.2 hA),th new β aI _ _ bU (en hK _ _ h4),h5⟩
 |row e row l fr=>
  rw [jI]
  obtain⟨xs,h1,h2,h3⟩:=h
  simp only [BR,hk]
  refine⟨xs,fJ h1 (fun b hb=>(hblk b hb).1),bA (fun c x hx=>bB hK row c x hx) l xs h2,fun b hb=> ?_⟩
  have :=h3 b hb
  cases fr with
  |true=>simp only [if_true] at this ⊢;exact(hK b this).1
  |false=>simp only [Bool.false_eq_true,if_false] at this ⊢;exact fun hA=>this ((hblk b hb).2 hA)
 |arr row l=>
  rw [ye]
  obtain⟨b,arr,e,h1,h2,h3,h4⟩:=h
  have hb:=hblk b (by rw [h1];rfl)
  exact⟨b,arr,e,hk.trans h1,hb.1.trans h2,fun hA=>h3 (hb.2 hA),bA (fun c x hx=>bB hK row c x hx) l _ h4⟩
 |views e j n m sz=>
  rw [tj]
  obtain⟨xs,h1,h2,h3⟩:=h
  simp only [BR,hk]
  refine⟨xs,fJ h1 (fun b hb=>(hblk b hb).1),fun b hb hA=>h2 b hb ((hblk b hb).2 hA),fun j' eC i hi=> ?_⟩
  obtain⟨hj,dg⟩:=qB new j j' eC
  obtain⟨v,Kt,Gc⟩:=h3 j' hj i hi
  exact⟨v,Kt,tm (bU j' dg) Gc⟩
 |gw e j row l i=>
  rw [yf]
  obtain⟨xs,v0,h1,h2,h3,h4⟩:=h
  simp only [BR,hk]
  refine⟨xs,v0,fJ h1 (fun b hb=>(hblk b hb).1),fun b hb hA=>h2 b hb ((hblk b hb).2 hA),bA (fun c x hx=>bB hK row c x hx) l _ h3,fun j' eC=> ?_⟩
  obtain⟨hj,dg⟩:=qB new j j' eC
  rw [bU j' dg];exact h4 j' hj
def kj(st:St)(out:Out)(k:Nat):Prop :=(st.h k).isSome∧((aq out.gk k).isSome∨aE out.del k=true)
theorem aD.Ve {C:Ctx} {A A':Nat→Prop} {β aI:Nat→Value} {st:St} {a:Act} {w w':World} {out:Out} {d:Option Nat} {v:Value}
  (hB:aD C A β st a w) (hd:∀t,d=some t→t<st.n)
  (zE:∀k b,aq out.new k=some b→st.h k=none∧n3 k=false)
  (zF:∀k b,aq out.gk k=some b→(st.h k).isSome)
  (bU:∀k,aq out.new k=none→aI k=β k)
  (hK:cL w w' A A')
  (hos:w'.os=w.os) (M1:w'.tape=w.tape) (nu:w'.output=w.output) (nN:w.heap.size≤w'.heap.size)
  (xa:∀b,b<w.heap.size→(∀k,kj st out k→aw (β k)≠some b)→w'.heap[b]? =w.heap[b]?)
  (hbound:∀b,A' b→b<w'.heap.size)
  (hA:∀b,A' b→A b∨w.heap.size≤b∨∃k,kj st out k∧aw (β k)=some b)
  (yg:∀k ab,aq out.gk k=some ab→aE out.del k=false→BR w' A' aI k (tg out k ab))
  (dg:∀k ab,aq out.new k=some ab→BR w' A' aI k ab)
  (tq:∀k b ab,aq out.new k=some ab→aw (aI k)=some b→w.heap.size≤b∨∃k0,aE out.del k0=true∧(st.h k0).isSome∧aw (β k0)=some b)
  (xb:∀k k' b,(aq out.new k).isSome→(aq out.new k').isSome→aw (aI k)=some b→aw (aI k')=some b→k=k')
  (ra:aa w' A' aI v out.res):aD C A' aI (st.put d out) (a.put d v) w':=by
 have eD:∀k b,(st.h k).isSome→aw (β k)=some b→b<w.heap.size:=by
  intro k b hk hb
  obtain⟨ab,fw⟩:=Option.isSome_iff_exists.1 hk
  have fO:=hB.blocks k ab fw
  cases ab with
  |arr row l=>
   obtain⟨b',arr,e,h1,h2,_⟩:=fO
   rw [h1] at hb
   simp only [aw,Option.some.injEq] at hb
   subst hb
   exact(Array.getElem?_eq_some_iff.1 h2).1
  |cells cs=>
   obtain⟨b',arr,e,h1,h2,_⟩:=fO
   rw [h1] at hb
   simp only [aw,Option.some.injEq] at hb
   subst hb
   exact(Array.getElem?_eq_some_iff.1 h2).1
  |row e row l fr=>
   obtain⟨xs,h1,_⟩:=fO
   rcases h1.2 with⟨hn,_⟩|⟨g,cap,cur,hv,_,hg,_⟩
   · rw [hn] at hb;simp [aw] at hb
   · rw [hv] at hb
     simp only [aw,Option.some.injEq] at hb
     subst hb
     exact(Array.getElem?_eq_some_iff.1 hg).1
  |gw e j row l i=>
   obtain⟨xs,v0,h1,_⟩:=fO
   rcases h1.2 with⟨hn,_⟩|⟨g,cap,cur,hv,_,hg,_⟩
   · rw [hn] at hb;simp [aw] at hb
   · rw [hv] at hb
     simp only [aw,Option.some.injEq] at hb
     subst hb
     exact(Array.getElem?_eq_some_iff.1 hg).1
  |views e j n m sz=>
   obtain⟨xs,h1,_⟩:=fO
   rcases h1.2 with⟨hn,_⟩|⟨g,cap,cur,hv,_,hg,_⟩
   · rw [hn] at hb;simp [aw] at hb
   · rw [hv] at hb
     simp only [aw,Option.some.injEq] at hb
     subst hb
     exact(Array.getElem?_eq_some_iff.1 hg).1
 have Vf:∀k CN,(st.put d out).h k=some CN→(∃ab,aq out.new k=some ab∧ab=CN)∨(aq out.new k=none∧aE out.del k=false∧
   ((∃ab,aq out.gk k=some ab∧CN=tg out k ab)∨(aq out.gk k=none∧∃ab,st.h k=some ab∧CN=cH out.new ab))):=by
  intro k CN hk
  simp only [St.put,CM] at hk
  cases hn:aq out.new k with
  |some ab=>simp only [hn,Option.some.injEq] at hk;exact .inl ⟨ab,rfl,hk⟩
  |none=>
   simp only [hn] at hk
   cases aet:aE out.del k with
   |true=>simp [aet] at hk
   |false=>
    simp only [aet,cond_false] at hk
    cases hu:aq out.gk k with
    |some ab=>simp only [hu,Option.some.injEq] at hk;exact .inr ⟨rfl,rfl, .inl ⟨ab,rfl,hk.symm⟩⟩
    |none=>
     simp only [hu] at hk
     cases hs:st.h k with
     |none=>simp [hs] at hk
     |some ab=>simp only [hs,Option.some.injEq] at hk;exact .inr ⟨rfl,rfl, .inr ⟨rfl,ab,rfl,hk.symm⟩⟩
 have eY:∀k,((st.put d out).h k).isSome→(aq out.new k).isSome∨(aq out.new k=none∧aE out.del k=false∧(st.h k).isSome):=by
  intro k hk
  obtain⟨CN,amb⟩:=Option.isSome_iff_exists.1 hk
  rcases Vf k CN amb with⟨ab,h,_⟩|⟨h1,h2,⟨ab,h,_⟩|⟨_,ab,h,_⟩⟩
  · exact .inl (by simp [h])
  · exact .inr ⟨h1,h2,zF k ab h⟩
  · exact .inr ⟨h1,h2,by simp [h]⟩
 have aeu:∀v a,aa w A β v a→aa w' A' aI v (lu out.new a):=fun v a h=>wz out.new β aI v a bU (ix hK a v h)
 refine⟨?_,?_,?_,?_,?_,hbound,?_,?_,?_,?_,hB.qz,fun i d hd=>(hB.laid i d hd).mono hK,fun k hk=>by
  rw [bU k (by
   cases hn:aq out.new k with
   |none=>rfl
   |some ab=>rw [(zE k ab hn).2] at hk;cases hk)]
  exact hB.held k hk⟩
 · cases d<;>exact hB.defers
 · cases d with
   |none=>exact hB.size
   |some t=>show(a.put (some t) v).tmps.size=st.n;simp [Act.put,hB.size]
 · intro i
   cases d with
   |none=>exact aeu _ _ (hB.tmps i)
   |some t=>
    have ht:=hd t rfl
    simp only [St.put,Act.put]
    by_cases hi:i=t
    · subst hi
      simp only [bC,cond_true]
      rw [Array.getD_eq_getD_getElem?,Array.getElem?_setIfInBounds_self_of_lt (by rw [hB.size];exact ht)]
      exact ra
    · simp only [aO hi,cond_false]
      have :=aeu _ _ (hB.tmps i)
      rw [Array.getD_eq_getD_getElem?,Array.getElem?_setIfInBounds_ne (fun h=>hi h.symm),←Array.getD_eq_getD_getElem?]
      exact this
 · intro k CN hk
   rcases Vf k CN hk with⟨ab,h,rfl⟩|⟨h1,h2,⟨ab,h,rfl⟩|⟨h3,ab,h,rfl⟩⟩
   · exact dg k _ h
   · exact yg k ab h h2
   · have xc:=hB.blocks k ab h
     refine tp bU (bU k h1) (fun b hb=> ?_) hK xc
     have ŉ:∀k',kj st out k'→aw (β k')≠some b:=by
      intro k' ht bw
      have :k'=k:=hB.apart k' k b ht.1 (by simp [h]) bw hb
      subst this
      rcases ht.2 with hu|hu
      · simp [h3] at hu
      · simp [h2] at hu
     refine⟨xa b (eD k b (by simp [h]) hb) ŉ,fun CO=> ?_⟩
     rcases hA b CO with hh|hh|⟨k',ht,bw⟩
     · exact hh
     · exact absurd (eD k b (by simp [h]) hb) (by omega)
     · exact absurd bw (ŉ k' ht)
 · intro k k' b hk dq hb bw
   rcases eY k hk with h1|⟨h1,h2,h3⟩<;>rcases eY k' dq with g1|⟨g1,g2,g3⟩
   · exact xb k k' b h1 g1 hb bw
   · obtain⟨ab,fw⟩:=Option.isSome_iff_exists.1 h1
     rw [bU k' g1] at bw
     rcases tq k b ab fw hb with hh|⟨k0,Ŋ,M3,BO⟩
     · exact absurd (eD k' b g3 bw) (by omega)
     · have :k0=k':=hB.apart k0 k' b M3 g3 BO bw
       subst this;rw [Ŋ] at g2;cases g2
   · obtain⟨ab,fw⟩:=Option.isSome_iff_exists.1 g1
     rw [bU k h1] at hb
     rcases tq k' b ab fw bw with hh|⟨k0,Ŋ,M3,BO⟩
     · exact absurd (eD k b h3 hb) (by omega)
     · have :k0=k:=hB.apart k0 k b M3 h3 BO hb
       subst this;rw [Ŋ] at h2;cases h2
   · rw [bU k h1] at hb;rw [bU k' g1] at bw
     exact hB.apart k k' b h3 g3 hb bw
 · refine⟨hos.trans hB.frame.os,M1.trans hB.frame.tape,nu.trans hB.frame.output,Nat.le_trans hB.frame.size nN,fun b hb hM=> ?_⟩
   rw [xa b (Nat.lt_of_lt_of_le hb hB.frame.size) (fun k ht xc=> ?_)]
   · exact hB.frame.block b hb hM
   · rcases hB.nr k b ht.1 xc with h|h
     · omega
     · exact hM h
 · intro b hb CO
   rcases hA b CO with hh|hh|⟨k,ht,xc⟩
   · exact hB.kg b hb hh
   · exact absurd hB.frame.size (by omega)
   · rcases hB.nr k b ht.1 xc with h|h
     · omega
     · exact .inr h
 · exact fun b hb=>(hK b (hB.base b hb)).1
 · intro k b hk hb
   rcases eY k hk with h1|⟨h1,h2,h3⟩
   · obtain⟨ab,fw⟩:=Option.isSome_iff_exists.1 h1
     rcases tq k b ab fw hb with hh|⟨k0,Ŋ,M3,BO⟩
     · exact .inl (Nat.le_trans hB.frame.size hh)
     · exact hB.nr k0 b M3 BO
   · rw [bU k h1] at hb
     exact hB.nr k b h3 hb
theorem aD.step {C:Ctx} {A A':Nat→Prop} {β aI:Nat→Value} {st:St} {a:Act} {w w':World} {out:Out} {d:Option Nat} {v:Value}
  (hB:aD C A β st a w) (hd:∀t,d=some t→t<st.n)
  (zE:∀k b,aq out.new k=some b→st.h k=none∧n3 k=false)
  (zF:∀k b,aq out.gk k=some b→(st.h k).isSome)
  (bU:∀k,aq out.new k=none→aI k=β k)
  (hK:cL w w' A A')
  (hos:w'.os=w.os) (M1:w'.tape=w.tape) (nu:w'.output=w.output) (nN:w.heap.size≤w'.heap.size)
  (xa:∀b,b<w.heap.size→(∀k,kj st out k→aw (β k)≠some b)→w'.heap[b]? =w.heap[b]?)
  (hbound:∀b,A' b→b<w'.heap.size)
  (hA:∀b,A' b→A b∨w.heap.size≤b∨∃k,kj st out k∧aw (β k)=some b)
  (yg:∀k ab,aq out.gk k=some ab→aE out.del k=false→BR w' A' aI k (cH out.new ab))
  (dg:∀k ab,aq out.new k=some ab→BR w' A' aI k ab)
  (tq:∀k b ab,aq out.new k=some ab→aw (aI k)=some b→w.heap.size≤b∨∃k0,aE out.del k0=true∧(st.h k0).isSome∧aw (β k0)=some b)
  (xb:∀k k' b,(aq out.new k).isSome→(aq out.new k').isSome→aw (aI k)=some b→aw (aI k')=some b→k=k')
  (ra:aa w' A' aI v out.res) (hr:out.raw= []:=by rfl):aD C A' aI (st.put d out) (a.put d v) w':=
 hB.Ve hd zE zF bU hK hos M1 nu nN xa hbound hA (fun k ab h1 h2=>by
  have :tg out k ab=cH out.new ab:=by simp [tg,hr,aE]
  rw [this];exact yg k ab h1 h2) dg tq xb ra
end Go.Vg

end
section
namespace Go.Vg
open Go
def M4(P:Program)(t:TypeId):TypeDesc→Prop
 | .struct fs=>P.stoodInHeld t=false∧P.eqGuardType P.depth t=false∧(fs.toList.all fun f=>f.name != "_")=true
 |_=>True
structure bt (T:bT) (P:Program):Prop where
 ok:∀t te,T.find t=some te→P.underlying t=some te.desc∧∃i,P.info? t=some i∧i.size=te.size∧i.bytes=te.bytes∧i.zero=some te.zero
 held:∀t te,T.find t=some te→M4 P t te.desc
section
variable {P:Program} {C:Ctx} {A:Nat→Prop} {β:Nat→Value} {st:St} {a:Act} {w:World}
theorem cP {o:Oper} {K:Act→World→Prop} {Q:Exit→Act→World→Prop} {v:Value} {w':World}(h:(execOp a.eval o).run P w= .ok (.value v) w')(hk:K (a.put o.dst v) w'):o.wp P a w K Q:=by
 unfold Oper.wp;rw [h];exact hk
theorem rb {o:Oper} {K:Act→World→Prop} {Q:Exit→Act→World→Prop} {w':World}(h:(execOp a.eval o).run P w= .ok .skip w')(hk:K (a.put o.dst undef) w'):o.wp P a w K Q:=by
 unfold Oper.wp;rw [h];exact hk
theorem AO(v:Value):aa w A β v (rL v):=by
 unfold rL
 split
 · split
   · rename_i h;simp only [aa];exact⟨trivial,h⟩
   · simp [aa]
 · split
   · rename_i h;simp [aa,h]
   · rename_i h;simp [aa,h]
 · rename_i s
   cases hb:Nat.ble s.data.toList.length 1000000 with
   |false=>simp [aa]
   |true=>
    have :=Nat.le_of_ble_eq_true hb
    simp only [cond_true,aa]
    refine⟨by simp,?_⟩
    unfold maxLen;omega
 · simp [aa]
 · simp [aa]
 · simp [aa]
 · simp [aa]
theorem AP(f:Value→AV)(hf:∀v,aa w A β v (f v)):∀(vs:List Value),ae w A β vs (vs.map f)
 | []=>by simp [ae]
 |v::vs=>by
  simp only [List.map_cons,ae]
  exact⟨v,vs,rfl,hf v,AP f hf vs⟩
theorem rQ(v:Value):aa w A β v (ofConst v):=by
 unfold ofConst
 split
 · rename_i cs
   simp only [aa]
   exact⟨cs,rfl,AP rL AO cs.toList⟩
 · exact AO v
theorem aQ(hB:aD C A β st a w)(x:Operand):aa w A β (a.eval x) (ev st x):=by
 cases x with
 |tmp i=>exact hB.tmps i
 |const v=>exact rQ v
 |global g=>
  simp only [ev,Act.eval]
  cases hg:st.g g with
  |none=>simp [aa]
  |some d=>
   obtain⟨h1,cs,h2,h3⟩:=hB.laid g d (hB.qz g d hg)
   simp only [aa]
   exact⟨g,0,cs,rfl,h1,h2,h3⟩
 |func f=>
  simp only [ev,aa,Act.eval]
  exact⟨#[], #[],rfl,by simp [ae],by simp [ae]⟩
theorem cL.refl(w:World)(A:Nat→Prop):cL w w A A:=fun _ h=>⟨h,rfl⟩
theorem aD.pure(hB:aD C A β st a w) {d:Option Nat}(hd:∀t,d=some t→t<st.n) {c:List Prop} {r:AV} {v:Value}(h:aa w A β v r):
  aD C A β (st.put d {cond:=c,res:=r}) (a.put d v) w:=
 hB.step (out:= {cond:=c,res:=r}) hd (by simp [aq]) (by simp [aq]) (fun _ _=>rfl) (cL.refl w A) rfl rfl rfl (Nat.le_refl _) (fun _ _ _=>rfl) hB.bound
  (fun b h=> .inl h) (by simp [aq]) (by simp [aq]) (by simp [aq]) (by simp [aq]) h
theorem Rel.j4 {A:Nat→Prop} {β:Nat→Value}(h:aD C A β st a w):Rel C st a w:=⟨A,β,h⟩
theorem rS(b:Bool) {v:Value}:∀(x y:AV),(if b then aa w A β v x else aa w A β v y)→aa w A β v (xY b x y):=by
 intro x y h
 have hb:∀x y p q,pV x=some p→pV y=some q→(if b then aa w A β v x else aa w A β v y)→aa w A β v (.bool (bif b then p else q)):=by
  intro x y p q hx hy h
  cases b<;>cases x<;>simp_all [pV,aa]<;>cases y<;>simp_all [aa]
 unfold xY
 split
 · split
   · cases b<;>simp_all [aa]
   · simp [aa]
 · cases b<;>simp_all [aa]
 · rename_i r l r' m
   cases hc:eH r' r m with
   |none=>simp [aa]
   |some m'=>
    simp only [eH] at hc
    split at hc
    · rename_i wa
      have :=Ty.ji _ _ wa
      subst this
      simp only [Option.some.injEq] at hc
      subst hc
      cases b<;>simp_all
    · cases hc
 · cases b with
   |true=>simpa using h
   |false=>
    simp only [aa,Bool.false_eq_true,if_false] at h
    simp only [aa,Rd,cond_false]
    exact⟨none,0,[],by simpa using h,by simp,by simp,by simp [bX],by simp⟩
 · cases b with
   |false=>simpa using h
   |true=>
    simp only [aa,if_true] at h
    simp only [aa,Rd,cond_true]
    exact⟨none,0,[],by simpa using h,by simp,by simp,by simp [bX],by simp⟩
 · cases b<;>simp_all
 · cases b<;>simp_all
 · rename_i k k'
   cases hk:Nat.beq k k' with
   |false=>simp [aa]
   |true=>
    have :=Nat.eq_of_beq_eq_true hk
    subst this
    cases b<;>simp_all
 · split
   next p q hx hy=>exact hb _ _ _ _ hx hy h
   next=>simp [aa]
theorem cY:∀(aF:List AV) (vs:List Value),ae w A β vs aF→vs.length=aF.length
 | [],vs,h=>by simp only [ae] at h;simp [h]
 |a::aF,vs,h=>by
  simp only [ae] at h
  obtain⟨v,bG,rfl,_,h2⟩:=h
  simp [cY aF bG h2]
theorem gM(b:Bool):∀(xs ys:List AV) (vs:List Value),xs.length=ys.length→(if b then ae w A β vs xs else ae w A β vs ys)→ae w A β vs (mo b xs ys)
 | [],[],vs,_,h=>by simpa [mo] using h
 |x::xs,y::ys,vs,hl,h=>by
  simp only [mo,ae]
  cases b with
  |true=>
   simp only [if_true,ae] at h
   obtain⟨v,bG,rfl,h1,h2⟩:=h
   exact⟨v,bG,rfl,rS true x y (by simpa using h1),gM true xs ys bG (by simpa using hl) (by simpa using h2)⟩
  |false=>
   simp only [Bool.false_eq_true,if_false,ae] at h
   obtain⟨v,bG,rfl,h1,h2⟩:=h
   exact⟨v,bG,rfl,rS false x y (by simpa using h1),gM false xs ys bG (by simpa using hl) (by simpa using h2)⟩
 | [],_::_,_,hl,_=>by simp at hl
 |_::_,[],_,hl,_=>by simp at hl
theorem wA(b:Bool) {v:Value}(x y:AV)(h:if b then aa w A β v x else aa w A β v y):aa w A β v (xZ b x y):=by
 unfold xZ
 split
 · rename_i xs ys
   cases hl:Nat.beq xs.length ys.length with
   |false=>simp [aa]
   |true=>
    have hl:=Nat.eq_of_beq_eq_true hl
    simp only [cond_true,aa]
    cases b with
    |true=>
     simp only [if_true,aa] at h
     obtain⟨arr,h1,h2⟩:=h
     exact⟨arr,h1,gM true xs ys _ hl (by simpa using h2)⟩
    |false=>
     simp only [Bool.false_eq_true,if_false,aa] at h
     obtain⟨arr,h1,h2⟩:=h
     exact⟨arr,h1,gM false xs ys _ hl (by simpa using h2)⟩
 · rename_i xs ys
   cases hl:Nat.beq xs.length ys.length with
   |false=>simp [aa]
   |true=>
    have hl:=Nat.eq_of_beq_eq_true hl
    simp only [cond_true,aa]
    cases b with
    |true=>
     simp only [if_true,aa] at h
     obtain⟨arr,h1,h2⟩:=h
     exact⟨arr,h1,gM true xs ys _ hl (by simpa using h2)⟩
    |false=>
     simp only [Bool.false_eq_true,if_false,aa] at h
     obtain⟨arr,h1,h2⟩:=h
     exact⟨arr,h1,gM false xs ys _ hl (by simpa using h2)⟩
 · exact rS b x y h
end
end Go.Vg

end
section
namespace Go.Vg
open Go
section
variable {P:Program} {C:Ctx} {A:Nat→Prop} {β:Nat→Value} {st:St} {a:Act} {w:World} {T:bT}
theorem fK:∀(ts:List Ty) (vs:List Value) (x:Row ts),bh w A ts vs x→vs.length=ts.length
 | [],vs,_,h=>by simp only [bh] at h;simp [h]
 |t::ts,vs,x,h=>by
  simp only [bh] at h
  obtain⟨v,bG,rfl,_,h2⟩:=h
  simp [fK ts bG _ h2]
theorem eE {row:List Ty}:∀(l:List (Row row)) (cs:List Value),bX (bh w A row) cs l→cs.length=l.length*row.length
 | [],cs,h=>by simp only [bX] at h;simp [h]
 |x::l,cs,⟨c1,c2,hc,h1,h2⟩=>by
  subst hc
  simp [fK row c1 x h1,eE l c2 h2,Nat.add_mul,Nat.add_comm]
theorem oN {row:List Ty}:∀(l:List (Row row)) (cs:List Value) (i:Nat) (hi:i<l.length),bX (bh w A row) cs l→
  ∃c1 c c2,cs=c1++(c++c2)∧c1.length=i*row.length∧bh w A row c l[i]∧bX (bh w A row) c1 (l.take i)∧bX (bh w A row) c2 (l.drop (i+1))
 | [],_,_,hi,_=>by simp at hi
 |x::l,cs,0,_,⟨c1,c2,hc,h1,h2⟩=>⟨[],c1,c2,by simp [hc],by simp,by simpa using h1,by simp [bX],by simpa using h2⟩
 |x::l,cs,i+1,hi,⟨c1,c2,hc,h1,h2⟩=>by
  obtain⟨d1,d,d2,e1,e2,e3,e4,e5⟩:=oN l c2 i (by simpa using hi) h2
  subst hc;subst e1
  exact⟨c1++d1,d,d2,by simp,by simp [e2,fK row c1 x h1,Nat.add_mul,Nat.add_comm],by simpa using e3,⟨c1,d1,rfl,h1,e4⟩,by simpa using e5⟩
theorem gx {α:Type} {R:List Value→α→Prop}:∀(l m:List α) (cs ds:List Value),bX R cs l→bX R ds m→bX R (cs++ds) (l++m)
 | [],m,cs,ds,h,h'=>by simp only [bX] at h;subst h;simpa using h'
 |x::l,m,cs,ds,⟨c1,c2,hc,h1,h2⟩,h'=>by
  subst hc
  exact⟨c1,c2++ds,by simp,h1,gx l m c2 ds h2 h'⟩
theorem dV {row:List Ty}:∀(l:List (Row row)) (cs:List Value) (i:Nat),bX (bh w A row) cs l→
  bX (bh w A row) (cs.take (i*row.length)) (l.take i)∧bX (bh w A row) (cs.drop (i*row.length)) (l.drop i)
 | [],cs,i,h=>by simp only [bX] at h;subst h;simp [bX]
 |x::l,cs,0,h=>by simp [bX];exact h
 |x::l,cs,i+1,⟨c1,c2,hc,h1,h2⟩=>by
  subst hc
  have hl:=fK row c1 x h1
  have ih:=dV l c2 i h2
  have e:(i+1)*row.length=c1.length+i*row.length:=by rw [hl,Nat.add_mul];omega
  rw [e]
  refine⟨⟨c1,c2.take (i*row.length),?_,h1,ih.1⟩,?_⟩
  · rw [List.take_length_add_append]
  · rw [List.drop_length_add_append];simpa using ih.2
theorem rT {b o:Nat} {c1 c c2:List Value}(h:w.rangeAt b o (c1++(c++c2))):w.rangeAt b (o+c1.length) c:=by
 intro j v hj
 have :=h (c1.length+j) v (by
  rw [List.getElem?_append_right (by omega)]
  have :j<c.length:=by
   rcases Nat.lt_or_ge j c.length with h|h
   · exact h
   · rw [List.getElem?_eq_none h] at hj;cases hj
  rw [show c1.length+j-c1.length=j by omega,List.getElem?_append_left this];exact hj)
 rw [←Nat.add_assoc] at this;exact this
theorem mS {b o n:Nat} {cs:List Value}(h:w.rangeAt b o cs):w.rangeAt b (o+n) (cs.drop n):=by
 intro j v hj
 have :=h (n+j) v (by simpa using hj)
 rw [←Nat.add_assoc] at this;exact this
theorem gN {b o n:Nat} {cs:List Value}(h:w.rangeAt b o cs):w.rangeAt b o (cs.take n):=by
 intro j v hj
 refine h j v ?_
 rw [List.getElem?_take] at hj
 split at hj
 · exact hj
 · cases hj
theorem Ku:∀(t:Ty) (v:Value) (x:D t),Rd w A t v x→aa w A β v (xS t x)
 | .int k,v,x,h=>by simpa only [xS,aa,Rd] using h
 | .bool,v,x,h=>by simpa only [xS,aa,Rd] using h
 | .str,v,x,h=>by simpa only [xS,aa,Rd] using h
 | .slice row,v,x,h=>by simpa only [xS,aa] using h
theorem jl:∀(ts:List Ty) (vs:List Value) (x:Row ts),bh w A ts vs x→ae w A β vs (fk ts x)
 | [],vs,_,h=>by simpa only [fk,ae,bh] using h
 |t::ts,vs,x,h=>by
  simp only [bh] at h
  obtain⟨v,bG,rfl,h1,h2⟩:=h
  simp only [fk,ae]
  exact⟨v,bG,rfl,Ku t v _ h1,jl ts bG _ h2⟩
theorem lv:∀(ts:List Ty) (x:Row ts),(fk ts x).length=ts.length
 | [],_=>rfl
 |t::ts,x=>by simp [fk,lv ts]
theorem fL:∀(aF:List AV) (vs:List Value) (n:Nat),ae w A β vs aF→ae w A β (vs.take n) (aF.take n)∧ae w A β (vs.drop n) (aF.drop n)
 | [],vs,n,h=>by simp only [ae] at h;subst h;simp [ae]
 |a::aF,vs,0,h=>by simp [ae] at h ⊢;exact h
 |a::aF,vs,n+1,h=>by
  simp only [ae] at h
  obtain⟨v,bG,rfl,h1,h2⟩:=h
  have ih:=fL aF bG n h2
  simp only [List.take_succ_cons,List.drop_succ_cons,ae]
  exact⟨⟨v,_,rfl,h1,ih.1⟩,ih.2⟩
theorem pX:∀(aF:List AV) (vs:List Value) (i:Nat) (r:AV),ae w A β vs aF→aF[i]? =some r→∃v,vs[i]? =some v∧aa w A β v r
 | [],vs,i,r,h,hr=>by simp at hr
 |a::aF,vs,0,r,h,hr=>by
  simp only [ae] at h
  obtain⟨v,bG,rfl,h1,h2⟩:=h
  simp at hr;subst hr
  exact⟨v,by simp,h1⟩
 |a::aF,vs,i+1,r,h,hr=>by
  simp only [ae] at h
  obtain⟨v,bG,rfl,h1,h2⟩:=h
  obtain⟨u,hu,lb⟩:=pX aF bG i r h2 (by simpa using hr)
  exact⟨u,by simpa using hu,lb⟩
theorem Gd(d:TypeDesc):d.jG=d.isRow:=by cases d<;>rfl
theorem kR(hT:bt T P) {t:TypeId} {te:TE}(ht:T.find t=some te) {cs:List Value} {aF:List AV}(hrel:ae w A β cs aF) {off:Nat} {r:AV}(hp:pick te aF off=some r)
  {b o:Nat} (hr:w.rangeAt b o cs):∃v,(Instr.loadAt t (.pointer (some ⟨b,o+off,none⟩))).run P w= .ok v w∧aa w A β v r:=by
 obtain⟨hu,i,hi,hs,_,_⟩:=hT.ok t te ht
 unfold pick at hp
 cases GN:te.desc.jG with
 |true=>
  simp only [GN,cond_true] at hp
  cases hle:Nat.ble (off+te.size) aF.length with
  |false=>simp [hle] at hp
  |true=>
   have hle:=Nat.le_of_ble_eq_true hle
   simp only [hle,Nat.ble_eq_true_of_le,cond_true,Option.some.injEq] at hp
   subst hp
   have hlen:=cY aF cs hrel
   refine⟨.agg ((cs.drop off).take te.size).toArray,?_,?_⟩
   · refine run_loadAt_mid w b (o+off) t ((cs.drop off).take te.size) te.desc (gN (mS hr)) hu (by rw [←Gd];exact GN) ?_
     rw [hi]
     simp only [Option.map_some,List.length_take,List.length_drop,hs,Option.some.injEq]
     omega
   · simp only [aa]
     exact⟨_,rfl,by simpa using(fL _ _ te.size ((fL aF cs off hrel).2)).1⟩
 |false=>
  simp only [GN,cond_false] at hp
  obtain⟨v,hv,hrv⟩:=pX aF cs off r hrel hp
  refine⟨v,?_,hrv⟩
  have hc:=hr off v hv
  have Vh:(isAgg t).run P w= .ok false w:=by
   unfold isAgg
   rw [Sem.run_bind,run_underlying hu w]
   cases hd:te.desc<;>simp_all [TypeDesc.jG]
  simp [Instr.loadAt,Instr.sureAddr,loadVar,Vh,hc]
theorem ep(hT:bt T P) {t:TypeId} {n:Nat}(h:bn T t n=true):∃e i,P.underlying t=some (.slice e)∧P.info? e=some i∧i.size=n∧0<n:=by
 unfold bn pT at h
 cases ht:T.find t with
 |none=>simp [ht] at h
 |some te=>
  simp only [ht] at h
  cases hd:te.desc with
  |slice e=>
   simp only [hd] at h
   cases he:T.find e with
   |none=>simp [he] at h
   |some ee=>
    simp only [he,Bool.and_eq_true] at h
    obtain⟨_,i,hi,hs,_⟩:=hT.ok e ee he
    exact⟨e,i,by rw [(hT.ok t te ht).1,hd],hi,hs.trans (Nat.eq_of_beq_eq_true h.1),by have :=Nat.le_of_ble_eq_true h.2;omega⟩
  |_=>simp [hd] at h
theorem run_indexAt {t:TypeId} {e:TypeId} {i:TypeInfo}(hu:P.underlying t=some (.slice e))(hi:P.info? e=some i)(b o len cap:Nat)(k:IntKind)(n:Int)(h0:0≤n)(h1:n<(len:Int)):
  (Instr.indexAt t (.slice (some ⟨b,o,none⟩) len cap) (.int k n)).run P w= .ok (.pointer (some ⟨b,o+n.toNat*i.size,none⟩)) w:=by
 simp [Instr.indexAt,asIntOf,run_underlying hu,sizeOf,typeInfo,hi,h0,h1,Addr.add_mid]
theorem GO(hT:bt T P) {t:TypeId} {n sz:Nat}(h:CG T t=some (n,sz)):∃e i,P.underlying t=some (.array n e)∧P.info? e=some i∧i.size=sz:=by
 unfold CG at h
 split at h
 · rename_i te j5
   obtain⟨hu,_⟩:=hT.ok t te j5
   split at h
   · rename_i k e hd
     split at h
     · rename_i ee oO
       obtain⟨_,i,hi,hs,_⟩:=hT.ok e ee oO
       cases hb:Nat.blt 0 ee.size with
       |false=>rw [hb] at h;cases h
       |true=>
        rw [hb] at h
        simp only [cond_true,Option.some.injEq,Prod.mk.injEq] at h
        obtain⟨rfl,rfl⟩:=h
        exact⟨e,i,by rw [hu,hd],hi,hs⟩
     · cases h
   · cases h
 · cases h
theorem wC {t:TypeId} {e:TypeId} {i:TypeInfo} {len:Nat}(hu:P.underlying t=some (.array len e))(hi:P.info? e=some i)(b o:Nat)(k:IntKind)(n:Int)(h0:0≤n)(h1:n<(len:Int)):
  (Instr.indexAt t (.pointer (some ⟨b,o,none⟩)) (.int k n)).run P w= .ok (.pointer (some ⟨b,o+n.toNat*i.size,none⟩)) w:=by
 simp [Instr.indexAt,Instr.sureAddr,asIntOf,run_underlying hu,sizeOf,typeInfo,hi,h0,h1,Addr.add_mid]
theorem tu:∀(xs ys:List AV) (us vs:List Value),ae w A β us xs→ae w A β vs ys→ae w A β (us++vs) (xs++ys)
 | [],ys,us,vs,h,g=>by
   simp only [ae] at h;subst h;simpa using g
 |a::aF,ys,us,vs,h,g=>by
  simp only [ae] at h
  obtain⟨v,xd,rfl,h1,h2⟩:=h
  simp only [List.cons_append,ae]
  exact⟨v,xd++vs,rfl,h1,tu aF ys xd vs h2 g⟩
theorem GP(row:List Ty):∀(l:List (Row row)) (cs:List Value),bX (bh w A row) cs l→ae w A β cs (l.flatMap (fk row))
 | [],cs,h=>by simp only [bX] at h;subst h;simp [ae]
 |x::l,cs,⟨c1,c2,hc,h1,h2⟩=>by
  subst hc
  rw [List.flatMap_cons]
  exact tu _ _ _ _ (jl row c1 x h1) (GP row l c2 h2)
theorem getD_eq {α:Type}(l:List α)(i:Nat)(d:α)(h:i<l.length):l.getD i d=l[i]:=by
 simp [List.getD,List.getElem?_eq_getElem h]
theorem GQ(row:List Ty)(l:List (Row row))(v:Value)(n:Int)(hR:Rd w A (.slice row) v l)(h0:0≤n)(h1:n<(l.length:Int)):
  row≠ []→∃b o cap,v= .slice (some ⟨b,o,none⟩) l.length cap∧aa w A β (.pointer (some ⟨b,o+n.toNat*row.length,none⟩)) (.fS row (l.getD n.toNat (Row.zero row)) 0):=by
 intro jZ
 simp only [Rd] at hR
 obtain⟨a,cap,cs,hv,_,_,hL,c8⟩:=hR
 have hn:n.toNat<l.length:=by omega
 obtain⟨c1,c,c2,e1,e2,e3,_,_⟩:=oN l cs n.toNat hn hL
 have hc:=fK row c _ e3
 have dJ:cs≠ []:=by
  intro h
  rw [h] at e1
  have :=congrArg List.length e1
  simp at this
  exact jZ (List.eq_nil_of_length_eq_zero (by omega))
 obtain⟨b,o,ha,hA,TG⟩:=c8 dJ
 refine⟨b,o,cap,by rw [hv,ha],?_⟩
 simp only [aa]
 refine⟨b,o+n.toNat*row.length,c,by simp,hA,?_,?_⟩
 · rw [e1] at TG
   have :=rT TG
   rwa [e2] at this
 · rw [getD_eq l _ _ hn];exact e3
theorem pY(T:bT)(h:aP)(t:TypeId)(n:Option Int)(x y:AV):oL T h t n x y=ek T h t x y:=by
 unfold oL
 split
 · rename_i n k off kd i
   split
   · rename_i m sz hm
     split
     · rename_i hn
       subst hn
       simp only [ek,hm,GM]
     · rfl
   · rename_i hm
     simp only [ek,hm]
 · rfl
theorem dK {x:Prop} {l:List Prop}(h:∀p∈(x::l),p):x:=h _ (List.Mem.head _)
theorem aev {x y:Prop} {l:List Prop}(h:∀p∈(x::y::l),p):y:=h _ (List.Mem.tail _ (List.Mem.head _))
def Out.quiet(out:Out):Prop :=out.gk= []∧out.del= []∧out.new= []
theorem aD.quiet(hB:aD C A β st a w) {d:Option Nat}(hd:∀t,d=some t→t<st.n) {out:Out}(hq:out.quiet) {v:Value}(h:aa w A β v out.res):
  aD C A β (st.put d out) (a.put d v) w:=by
 obtain⟨c,r,u,dl,nw,rw'⟩:=out
 obtain⟨h1,h2,h3⟩:=hq
 simp only at h1 h2 h3
 subst h1 h2 h3
 exact hB.pure (c:=c) hd h
def Reads(P:Program)(A:Nat→Prop)(β:Nat→Value)(w:World)(s:Sem Value)(out:Out):Prop :=out.quiet∧∃v,s.run P w= .ok v w∧aa w A β v out.res
theorem eu(hB:aD C A β st a w) {k e:Nat} {row:List Ty} {l:List (Row row)} {fr:Bool}(h:st.h k=some (.row e row l fr)):
  (β k= .slice none 0 0∧l= [])∨∃b cap cur,β k= .slice (some ⟨b,0,none⟩) l.length cap∧w.heap[b]? =some (.cells cur e (0,0))∧l.length≤cap∧cap≤maxLen∧cur.size=cap*row.length∧
    bX (bh w A row) (cur.toList.take (l.length*row.length)) l∧(if fr then A b else ¬A b):=by
 obtain⟨xs,h1,h2,h3⟩:=hB.blocks k _ h
 rcases h1.2 with⟨hv,hn⟩|⟨g,cap,cur,hv,_,hg,h4,h5,h6,h7⟩
 · exact .inl ⟨hv,List.eq_nil_of_length_eq_zero hn⟩
 · exact .inr ⟨g,cap,cur,hv,hg,h4,h5,h6,by rw [h7];exact h2,h3 g (by rw [hv];rfl)⟩
theorem zG(hT:bt T P)(hB:aD C A β st a w) {t:TypeId} {x i:AV} {vx vi:Value}(hx:aa w A β vx x)(hi:aa w A β vi i) {out:Out}
  (h:ek T st.h t x i=some out) (hc:∀p∈out.cond,p):Reads P A β w (Instr.indexAt t vx vi) out:=by
 unfold ek at h
 split at h
 · rename_i row l k n
   cases hs:bn T t row.length with
   |false=>simp [hs] at h
   |true=>
    simp only [hs,cond_true,Option.some.injEq] at h
    subst h
    obtain⟨h0,h1⟩:=dK hc
    obtain⟨e,ii,hu,gT,cR,iy⟩:=ep hT hs
    simp only [aa] at hx hi
    obtain⟨b,o,cap,hv,hr⟩:=GQ (β:=β) row l vx n hx h0 h1 (by intro hh;rw [hh] at iy;simp at iy)
    refine⟨⟨rfl,rfl,rfl⟩,_,?_,hr⟩
    rw [hv,hi.1,run_indexAt hu gT b o l.length cap k n h0 h1,cR]
 · rename_i row l k n
   cases hs:bn T t row.length with
   |false=>simp [hs] at h
   |true=>
    simp only [hs,cond_true,Option.some.injEq] at h
    subst h
    obtain⟨h0,h1⟩:=dK hc
    obtain⟨e,ii,hu,gT,cR,iy⟩:=ep hT hs
    simp only [aa] at hx hi
    obtain⟨b,o,cap,hv,hr⟩:=GQ (β:=β) row l vx n hx.1 h0 h1 (by intro hh;rw [hh] at iy;simp at iy)
    refine⟨⟨rfl,rfl,rfl⟩,_,?_,hr⟩
    rw [hv,hi.1,run_indexAt hu gT b o l.length cap k n h0 h1,cR]
 · rename_i k kk n
   split at h
   · rename_i e' row l fr hk
     cases hs:bn T t row.length with
     |false=>simp [hs] at h
     |true=>
      simp only [hs,cond_true,Option.some.injEq] at h
      subst h
      obtain⟨h0,h1⟩:=dK hc
      obtain⟨e,ii,hu,gT,cR,iy⟩:=ep hT hs
      simp only [aa] at hx hi
      rcases eu hB hk with⟨_,hl⟩|⟨b,cap,cur,hv,_⟩
      · subst hl;simp at h1;omega
      · refine⟨⟨rfl,rfl,rfl⟩, .pointer (some ⟨b,0+n.toNat*row.length,none⟩),?_,?_⟩
        · rw [hx.1,hv,hi.1,run_indexAt hu gT b 0 l.length cap kk n h0 h1,cR]
        · simp only [aa];exact⟨b,_,cap,hv,by simp⟩
   · cases h
 · rename_i k m kk n
   split at h
   · rename_i e' row l fr hk
     cases hs:bn T t row.length with
     |false=>simp [hs] at h
     |true=>
      simp only [hs,cond_true,Option.some.injEq] at h
      subst h
      obtain⟨h0,h1⟩:=dK hc
      obtain⟨e,ii,hu,gT,cR,iy⟩:=ep hT hs
      simp only [aa] at hx hi
      rcases hx with⟨_,_,hl⟩|⟨b,mm,cap,hv,xe,_⟩
      · subst hl;omega
      · refine⟨⟨rfl,rfl,rfl⟩, .pointer (some ⟨b,0+n.toNat*row.length,none⟩),?_,?_⟩
        · rw [xe,hi.1,run_indexAt hu gT b 0 m cap kk n h0 h1,cR]
        · simp only [aa];exact⟨b,_,cap,hv,by simp⟩
   · cases h
 · rename_i k sz off m kk n
   cases hs:bn T t sz with
   |false=>simp [hs] at h
   |true=>
    simp only [hs,cond_true,Option.some.injEq] at h
    subst h
    obtain⟨h0,h1⟩:=dK hc
    obtain⟨e,ii,hu,gT,cR,iy⟩:=ep hT hs
    simp only [aa] at hx hi
    rcases hx with⟨hm,_⟩|⟨b,mm,cap,hX,hv,xe,_⟩
    · subst hm;omega
    · refine⟨⟨rfl,rfl,rfl⟩, .pointer (some ⟨b,off*sz+n.toNat*sz,none⟩),?_,?_⟩
      · rw [xe,hi.1,run_indexAt hu gT b (off*sz) m hX kk n h0 h1,cR]
      · simp only [aa];exact⟨b,_,cap,hv,by simp [Nat.add_mul]⟩
 · rename_i row l k n
   split at h
   · rename_i m sz ha
     cases hb:Nat.beq sz row.length with
     |false=>rw [hb] at h;cases h
     |true=>
      rw [hb] at h
      simp only [cond_true,Option.some.injEq] at h
      subst h
      have hm:=dK hc
      have hz:=Nat.eq_of_beq_eq_true hb
      obtain⟨h0,h1⟩:=aev hc
      obtain⟨e,ii,hu,gT,cR⟩:=GO hT ha
      simp only [aa] at hx hi
      obtain⟨b,o,cs,rfl,hA,hr,hL⟩:=hx
      have hn:n.toNat<l.length:=by omega
      obtain⟨c1,c,c2,e1,e2,e3,_,_⟩:=oN l cs n.toNat hn hL
      refine⟨⟨rfl,rfl,rfl⟩, .pointer (some ⟨b,o+n.toNat*row.length,none⟩),?_,?_⟩
      · rw [hi.1,wC hu gT b o k n h0 (by rw [hm];exact h1),cR,hz]
      · simp only [aa]
        refine⟨b,o+n.toNat*row.length,c,by simp,hA,?_,?_⟩
        · rw [e1] at hr
          have :=rT hr
          rwa [e2] at this
        · rw [getD_eq l _ _ hn];exact e3
   · cases h
 · rename_i k off kk n
   split at h
   · rename_i m sz ha
     simp only [Option.some.injEq] at h
     subst h
     obtain⟨h0,h1⟩:=dK hc
     obtain⟨e,ii,hu,gT,cR⟩:=GO hT ha
     simp only [aa] at hx hi
     obtain⟨b,bU,rfl⟩:=hx
     refine⟨⟨rfl,rfl,rfl⟩, .pointer (some ⟨b,off+n.toNat*sz,none⟩),?_,?_⟩
     · rw [hi.1,wC hu gT b off kk n h0 h1,cR]
     · simp only [aa]
       exact⟨b,bU,rfl⟩
   · cases h
 · cases h
theorem AQ(hT:bt T P)(hB:aD C A β st a w) {t:TypeId} {x:AV} {vx:Value}(hx:aa w A β vx x) {out:Out}
  (h:np T st.h t x=some out) (hc:∀p∈out.cond,p):Reads P A β w (Instr.loadAt t vx) out:=by
 unfold np at h
 split at h
 · rename_i row x j
   split at h
   · rename_i te ht
     split at h
     · rename_i r hp
       simp only [Option.some.injEq] at h;subst h
       simp only [aa] at hx
       obtain⟨b,o,cs,rfl,hA,hr,hv⟩:=hx
       obtain⟨v,h1,h2⟩:=kR (β:=β) hT ht (jl row cs x hv) hp hr
       exact⟨⟨rfl,rfl,rfl⟩,v,h1,h2⟩
     · cases h
   · cases h
 · rename_i row l
   split at h
   · rename_i te ht
     split at h
     · rename_i r hp
       simp only [Option.some.injEq] at h;subst h
       simp only [aa] at hx
       obtain⟨b,o,cs,rfl,hA,hr,hv⟩:=hx
       obtain⟨v,h1,h2⟩:=kR (β:=β) hT ht (GP row l cs hv) hp hr
       exact⟨⟨rfl,rfl,rfl⟩,v,by simpa using h1,h2⟩
     · cases h
   · cases h
 · rename_i k off
   split at h
   · rename_i te cs ht hk
     split at h
     · rename_i r hp
       simp only [Option.some.injEq] at h;subst h
       simp only [aa] at hx
       obtain⟨b,bU,rfl⟩:=hx
       obtain⟨b',arr,e,h1,h2,_,h4,_⟩:=hB.blocks k _ hk
       rw [bU] at h1
       simp only [Value.pointer.injEq,Option.some.injEq,Addr.mk.injEq,and_true] at h1
       subst h1
       have hr:w.rangeAt b 0 arr.toList:=fun j v hj=>by
        simp [World.cell?,h2];simpa using hj
       obtain⟨v,g1,g2⟩:=kR (β:=β) hT ht h4 hp hr
       exact⟨⟨rfl,rfl,rfl⟩,v,by simpa using g1,g2⟩
     · cases h
   · cases h
 · rename_i k sz i j
   split at h
   · rename_i te e row l fr ht hk
     cases cR:Nat.beq sz row.length with
     |false=>simp [cR] at h
     |true=>
      have cR:=Nat.eq_of_beq_eq_true cR
      subst cR
      simp only [bC,cond_true] at h
      split at h
      · rename_i r hp
        simp only [Option.some.injEq] at h;subst h
        have hi:i<l.length:=dK hc
        simp only [aa] at hx
        obtain⟨b,m,cap,bU,rfl⟩:=hx
        rcases eu hB hk with⟨_,hl⟩|⟨b',hX,cur,hv,hg,_,_,c8,hL,_⟩
        · subst hl;simp at hi
        · rw [bU] at hv
          simp only [Value.slice.injEq,Option.some.injEq,Addr.mk.injEq,and_true] at hv
          obtain⟨hbb,_,_⟩:=hv
          subst hbb
          obtain⟨c1,c,c2,e1,e2,e3,_,_⟩:=oN l _ i hi hL
          have hr:w.rangeAt b 0 (cur.toList.take (l.length*row.length)):=fun j v hj=>by
           rw [List.getElem?_take] at hj
           split at hj
           · simp [World.cell?,hg];simpa using hj
           · cases hj
          rw [e1] at hr
          have hr:=rT hr
          rw [e2] at hr
          rw [getD_eq l _ _ hi] at hp
          obtain⟨v,g1,g2⟩:=kR (β:=β) hT ht (jl row c _ e3) hp hr
          exact⟨⟨rfl,rfl,rfl⟩,v,by simpa using g1,g2⟩
      · cases h
   · cases h
 · cases h
end
end Go.Vg

end
section
namespace Go.Vg
open Go
section
variable {P:Program} {C:Ctx} {A:Nat→Prop} {β:Nat→Value} {st:St} {a:Act} {w:World} {T:bT}
theorem AR(hT:bt T P) {s:TypeId} {f:Nat} {ft o:Nat}(h:xU T s f=some (ft,o)):∃fs fd,P.underlying s=some (.struct fs)∧fs[f]? =some fd∧fd.type=ft∧fd.offset=o:=by
 unfold xU at h
 cases ht:T.find s with
 |none=>simp [ht] at h
 |some te=>
  simp only [ht] at h
  cases hd:te.desc with
  |struct fs=>
   simp only [hd] at h
   cases hf:fs[f]? with
   |none=>simp [hf] at h
   |some fd=>
    simp only [hf,Option.some.injEq,Prod.mk.injEq] at h
    exact⟨fs,fd,by rw [(hT.ok s te ht).1,hd],hf,h.1,h.2⟩
  |_=>simp [hd] at h
theorem Kv(hT:bt T P) {t:TypeId}(h:xV T t=true):∃i,P.info? t=some i∧i.size≠0:=by
 unfold xV at h
 cases ht:T.find t with
 |none=>simp [ht] at h
 |some te=>
  simp only [ht] at h
  obtain⟨_,i,hi,hs,_⟩:=hT.ok t te ht
  have :=Nat.le_of_ble_eq_true h
  exact⟨i,hi,by omega⟩
theorem rU {s f:Nat} {fs:Array Field} {fd:Field} {i:TypeInfo}(hu:P.underlying s=some (.struct fs))(hf:fs[f]? =some fd)(hi:P.info? fd.type=some i)(hs:i.size≠0)(b o:Nat):
  (Instr.fieldAt s (.pointer (some ⟨b,o,none⟩)) f).run P w= .ok (.pointer (some ⟨b,o+fd.offset,none⟩)) w:=by
 simp [Instr.fieldAt,run_underlying hu,hf,Instr.sureAddr,fieldPlace,sizeOf,typeInfo,hi,hs,Addr.add_mid]
theorem zH(hT:bt T P) {s f:Nat} {x:AV} {vx:Value}(hx:aa w A β vx x) {out:Out}
  (h:qx T s f x=some out):Reads P A β w (Instr.fieldAt s vx f) out:=by
 unfold qx at h
 split at h
 · rename_i ft o hf
   obtain⟨fs,fd,hu,Vi,e1,e2⟩:=AR hT hf
   cases hs:xV T ft with
   |false=>simp [hs] at h
   |true=>
    simp only [hs,cond_true] at h
    obtain⟨i,hi,dJ⟩:=Kv hT hs
    rw [←e1] at hi
    split at h
    · simp only [Option.some.injEq] at h;subst h
      simp only [aa] at hx
      obtain⟨b,h1,rfl⟩:=hx
      refine⟨⟨rfl,rfl,rfl⟩,_,rU hu Vi hi dJ b _,?_⟩
      simp only [aa];exact⟨b,h1,by rw [e2]⟩
    · simp only [Option.some.injEq] at h;subst h
      simp only [aa] at hx
      obtain⟨b,oo,cs,rfl,h2,h3,h4⟩:=hx
      refine⟨⟨rfl,rfl,rfl⟩,_,rU hu Vi hi dJ b _,?_⟩
      simp only [aa];exact⟨b,oo,cs,by rw [e2,Nat.add_assoc],h2,h3,h4⟩
    · simp only [Option.some.injEq] at h;subst h
      simp only [aa] at hx
      obtain⟨b,m,cap,h1,rfl⟩:=hx
      refine⟨⟨rfl,rfl,rfl⟩,_,rU hu Vi hi dJ b _,?_⟩
      simp only [aa];exact⟨b,m,cap,h1,by rw [e2,Nat.add_assoc]⟩
    · cases h
 · cases h
theorem re {t:TypeId} {te:TE}(hT:bt T P)(ht:T.find t=some te) {arr:Array Value} {cs:List AV} {off:Nat} {r:AV}(hrel:ae w A β arr.toList cs)(hp:pick te cs off=some r):
  ∃v,(part t arr off).run P w= .ok v w∧aa w A β v r:=by
 obtain⟨hu,i,hi,hs,_,_⟩:=hT.ok t te ht
 unfold pick at hp
 cases GN:te.desc.jG with
 |true=>
  simp only [GN,cond_true] at hp
  cases hle:Nat.ble (off+te.size) cs.length with
  |false=>simp [hle] at hp
  |true=>
   have hle:=Nat.le_of_ble_eq_true hle
   simp only [hle,Nat.ble_eq_true_of_le,cond_true,Option.some.injEq] at hp
   subst hp
   have hlen:=cY cs _ hrel
   have Vh:(isAgg t).run P w= .ok true w:=by
    unfold isAgg
    rw [Sem.run_bind,run_underlying hu w]
    cases hd:te.desc<;>simp_all [TypeDesc.jG]
   refine⟨.agg (arr.extract off (off+te.size)),?_,?_⟩
   · simp [part,Vh,sizeOf,typeInfo,hi,hs]
   · simp only [aa]
     refine⟨_,rfl,?_⟩
     have :=(fL _ _ te.size ((fL cs _ off hrel).2)).1
     rw [Array.toList_extract]
     simpa [List.extract] using this
 |false=>
  simp only [GN,cond_false] at hp
  obtain⟨v,hv,hrv⟩:=pX cs _ off r hrel hp
  have Vh:(isAgg t).run P w= .ok false w:=by
   unfold isAgg
   rw [Sem.run_bind,run_underlying hu w]
   cases hd:te.desc<;>simp_all [TypeDesc.jG]
  refine⟨v,?_,hrv⟩
  have :arr[off]? =some v:=by simpa using hv
  simp [part,Vh,this]
theorem M5(hB:aD C A β st a w) {x:AV} {vx:Value}(hx:aa w A β vx x) {n:Int}(h:zB st.h x=some n):
  (∃ad l c,vx= .slice ad l c∧n=(l:Int)∧l≤maxLen)∨(∃s,x= .str s∧n=(s.length:Int)):=by
 unfold zB at h
 split at h
 · rename_i s
   simp only [Option.some.injEq] at h
   exact .inr ⟨s,rfl,h.symm⟩
 · simp only [Option.some.injEq] at h
   simp only [aa,Rd] at hx
   obtain⟨ad,cap,cs,h1,h2,h3,_⟩:=hx
   exact .inl ⟨ad,_,cap,h1,h.symm,by omega⟩
 · simp only [Option.some.injEq] at h
   simp only [aa,Rd] at hx
   obtain⟨⟨ad,cap,cs,h1,h2,h3,_⟩,_⟩:=hx
   exact .inl ⟨ad,_,cap,h1,h.symm,by omega⟩
 · simp only [Option.some.injEq] at h
   simp only [aa] at hx
   exact .inl ⟨none,0,0,hx,by simpa using h.symm,by simp⟩
 · rename_i k
   split at h
   · rename_i e row l fr hk
     simp only [Option.some.injEq] at h
     simp only [aa] at hx
     rcases eu hB hk with⟨hv,hl⟩|⟨b,cap,cur,hv,hg,h4,h5,_⟩
     · subst hl
       exact .inl ⟨none,0,0,hx.1.trans hv,by simpa using h.symm,by simp⟩
     · exact .inl ⟨_,_,_,hx.1.trans hv,h.symm,by omega⟩
   · cases h
 · rename_i k m
   split at h
   · rename_i e row l fr hk
     simp only [Option.some.injEq] at h
     simp only [aa] at hx
     rcases hx with⟨_,hv,hm⟩|⟨b,mm,cap,hv,xe,hle⟩
     · subst hm
       exact .inl ⟨none,0,0,hv,by simpa using h.symm,by simp⟩
     · rcases eu hB hk with⟨hw,_⟩|⟨b',hX,cur,hw,hg,h4,h5,_⟩
       · rw [hv] at hw;cases hw
       · rw [hv] at hw
         simp only [Value.slice.injEq] at hw
         exact .inl ⟨_,_,_,xe,h.symm,by omega⟩
   · cases h
 · rename_i k sz off m
   split at h
   · rename_i e row l fr hk
     simp only [Option.some.injEq] at h
     simp only [aa] at hx
     rcases hx with⟨hm,ad,cap,hv,_⟩|⟨b,mm,cap,hX,hv,xe,hle,amc⟩
     · subst hm
       exact .inl ⟨ad,0,cap,hv,by simpa using h.symm,by simp⟩
     · rcases eu hB hk with⟨hw,_⟩|⟨b',tv,cur,hw,hg,h4,h5,_⟩
       · rw [hv] at hw;cases hw
       · rw [hv] at hw
         simp only [Value.slice.injEq] at hw
         exact .inl ⟨_,_,_,xe,h.symm,by omega⟩
   · cases h
 · cases h
theorem tw {k:IntKind} {n:Int}(h:lo k≤n∧n≤hi k):k.wrap n=n:=by
 cases k<;>simp [lo,hi] at h<;>simp [IntKind.wrap,IntKind.signed,IntKind.bits]<;>omega
theorem M6 {k:IntKind} {n c:Int}(h:mc k=some c):k.wrap n=n%c:=by
 cases k<;>simp [mc] at h<;>subst h<;>simp [IntKind.wrap,IntKind.signed,IntKind.bits]
theorem Kw {k:IntKind} {n c:Int}(h:mc k=some c):lo k≤n%c∧n%c≤hi k:=by
 cases k<;>simp [mc] at h<;>subst h<;>simp [lo,hi]<;>omega
theorem mq {k:IntKind} {cs:List Prop} {n:Int} {out:Out}(h:pU k cs n=some out)(hc:∀p∈out.cond,p):
  out.quiet∧aa w A β (.int k (k.wrap n)) out.res∧∀p∈cs,p:=by
 unfold pU at h
 simp only [Option.some.injEq] at h
 subst h
 unfold fit at hc ⊢
 cases hk:mc k with
 |none=>
  simp only [hk] at hc ⊢
  have hr:=hc (lo k≤n∧n≤hi k) (by simp)
  refine⟨⟨rfl,rfl,rfl⟩,?_,fun p hp=>hc p (by simp [hp])⟩
  rw [tw hr];simp only [aa];exact⟨trivial,hr⟩
 |some c=>
  simp only [hk] at hc ⊢
  refine⟨⟨rfl,rfl,rfl⟩,?_,fun p hp=>hc p (by simp [hp])⟩
  rw [M6 hk];simp only [aa];exact⟨trivial,Kw hk⟩
theorem zI {op:BinOp} {t:TypeId} {x y:Operand} {k k':IntKind} {n m:Int}:(eqGuard op t x y (.int k n) (.int k' m)).run P w= .ok () w:=by
 unfold eqGuard;cases op<;>rfl
theorem zJ {op:BinOp} {t:TypeId} {x y:Operand} {s u:ByteArray}:(eqGuard op t x y (.string s) (.string u)).run P w= .ok () w:=by
 unfold eqGuard;cases op<;>rfl
theorem xf {op:BinOp} {t:TypeId} {x y:Operand} {p q:Option Addr} {n m n' m':Nat}:(eqGuard op t x y (.slice p n m) (.slice q n' m')).run P w= .ok () w:=by
 unfold eqGuard;cases op<;>rfl
theorem zK(w:World)(d:Nat)(t e:TypeId)(a:Option Addr)(n c n' c':Nat)(h:P.underlying t=some (.slice e)):
  (Op.equalIn (d+1) t (.slice a n c) (.slice none n' c')).run P w= .ok a.isNone w:=by
 cases a<;>simp [Op.equalIn,run_underlying h]
theorem IP(w:World)(t e:TypeId)(a:Option Addr)(n c n' c':Nat)(h:P.underlying t=some (.slice e)):
  (binOp .eql t (.slice a n c) (.slice none n' c')).run P w= .ok (.bool a.isNone) w:=by
 simp only [binOp]
 simp [Op.equal,Op.maxDepth,zK w 9999 t e a n c n' c' h]
theorem yh {op:BinOp} {t:TypeId} {x y:Operand} {s u:Bool}:(eqGuard op t x y (.bool s) (.bool u)).run P w= .ok () w:=by
 unfold eqGuard;cases op<;>rfl
theorem nv {k:IntKind} {n:Int}(hr:lo k≤n)(h:∀p∈wy k n,p):0≤n:=by
 unfold wy at h
 cases hc:mc k with
 |none=>simp only [hc] at h;exact h _ (by simp)
 |some c=>cases k<;>simp [mc] at hc<;>simpa [lo] using hr
def kl:IntKind→Nat
 | .i8=>7| .i16=>15| .i32=>31| .i64=>63| .u8=>8| .u16=>16| .u32=>32| .u64=>64
theorem toNat_lt {k:IntKind} {n:Int}(h0:0≤n)(h:n≤hi k):n.toNat<2^kl k:=by
 cases k<;>simp [hi] at h<;>simp [kl]<;>omega
theorem TH {k:IntKind} {n:Nat}(h:n<2^kl k):lo k≤(n:Int)∧(n:Int)≤hi k:=by
 cases k<;>simp [kl] at h<;>simp [lo,hi]<;>omega
theorem n4 {k:IntKind} {n:Int}(h0:0≤n)(h:n≤hi k):(BitVec.ofInt k.bits n).toNat=n.toNat:=by
 rw [BitVec.toNat_ofInt]
 congr 1
 cases k<;>simp [hi] at h<;>simp [IntKind.bits]<;>omega
theorem CP {k:IntKind} {n m:Int}(f:Nat→Nat→Nat)(g:BitVec k.bits→BitVec k.bits→BitVec k.bits)(hfg:∀x y,(g x y).toNat=f x.toNat y.toNat)
  (hf:∀a b,a<2^kl k→b<2^kl k→f a b<2^kl k) (hn:lo k≤n∧n≤hi k) (hm:lo k≤m∧m≤hi k) (h0:0≤n) (h1:0≤m):
  k.wrap ((g (BitVec.ofInt k.bits n) (BitVec.ofInt k.bits m)).toNat:Int)=(f n.toNat m.toNat:Int)∧lo k≤(f n.toNat m.toNat:Int)∧(f n.toNat m.toNat:Int)≤hi k:=by
 rw [hfg,n4 h0 hn.2,n4 h1 hm.2]
 have :=TH (hf _ _ (toNat_lt h0 hn.2) (toNat_lt h1 hm.2))
 exact⟨tw this,this⟩
theorem wD(s:List UInt8):(⟨s.toArray⟩:ByteArray).toList=s:=by
 rw [ByteArray.toList_eq]
theorem rf(s:List UInt8):(⟨s.toArray⟩:ByteArray).size=s.length:=by simp [ByteArray.size]
theorem M7(s u:List UInt8):(⟨s.toArray⟩:ByteArray)++⟨u.toArray⟩=⟨(s++u).toArray⟩:=by
 apply ByteArray.ext
 simp [ByteArray.data_append]
theorem CQ {x:AV} {v:Value} {p:Bool}(hx:aa w A β v x)(h:pV x=some p):v= .bool p:=by cases x<;>simp_all [pV,aa]
theorem GR {d:Nat} {E:TypeId→AV→AV→Option Bool}(hT:bt T P)(hE:∀t x y v u r,aa w A β v x→aa w A β u y→E t x y=some r→(Op.equalIn d t v u).run P w= .ok r w)
  {arr TI:Array Value} {xs ys:List AV} (hx:ae w A β arr.toList xs) (hy:ae w A β TI.toList ys):∀(fs:List Field) (r:Bool),(fs.all fun f=>f.name != "_")=true→CI T E xs ys fs=some r→(Op.eqFields d arr TI fs).run P w= .ok r w
 | [],r,_,h=>by simp only [CI,Option.some.injEq] at h;subst h;simp [Op.eqFields]
 |f::fs,r,hn,h=>by
  simp only [List.all_cons,Bool.and_eq_true] at hn
  have TJ:f.name≠ "_":=by simpa using hn.1
  simp only [CI] at h
  cases hf:T.find f.type with
  |none=>simp [hf] at h
  |some te=>
   simp only [hf] at h
   cases ha:pick te xs f.offset with
   |none=>simp [ha] at h
   |some a=>cases hb:pick te ys f.offset with
    |none=>simp [ha,hb] at h
    |some b=>
     simp only [ha,hb] at h
     cases he:E f.type a b with
     |none=>simp [he] at h
     |some q=>cases hr:CI T E xs ys fs with
      |none=>simp [he,hr] at h
      |some q'=>
       simp only [he,hr,Option.some.injEq] at h
       subst h
       obtain⟨va,a1,a2⟩:=re hT hf hx ha
       obtain⟨vb,b1,b2⟩:=re hT hf hy hb
       have e1:=hE _ _ _ _ _ _ a2 b2 he
       have e2:=GR hT hE hx hy fs q' hn.2 hr
       simp only [Op.eqFields,TJ,ne_eq,not_false_eq_true,if_true,Sem.run_bind,a1,b1,e1,Result.andThen_ok]
       cases fs with
       |nil=>
        simp only [CI,Option.some.injEq] at hr
        subst hr
        cases q<;>simp [Op.eqFields]
       |cons g gs=>cases q<;>simp [e2]
theorem GS(hT:bt T P):∀(n d:Nat) (t:TypeId) (x y:AV) (v u:Value) (r:Bool),n≤d→aa w A β v x→aa w A β u y→AM T n t x y=some r→(Op.equalIn d t v u).run P w= .ok r w
 |0,_,_,_,_,_,_,_,_,_,_,h=>by simp [AM] at h
 |n+1,0,_,_,_,_,_,_,hd,_,_,_=>by omega
 |n+1,d+1,t,x,y,v,u,r,hd,hx,hy,h=>by
  simp only [AM] at h
  cases hf:T.find t with
  |none=>simp [hf] at h
  |some te=>
   simp only [hf] at h
   obtain⟨hu,_⟩:=hT.ok t te hf
   split at h
   · rename_i fs qC
     split at h
     · rename_i xs ys
       simp only [aa] at hx hy
       obtain⟨arr,rfl,hx⟩:=hx
       obtain⟨TI,rfl,hy⟩:=hy
       have hh:=hT.held t te hf
       rw [qC] at hh hu
       have Vj:P.fieldsOf t=fs:=by simp [Program.fieldsOf,hu]
       rw [run_equalIn_struct w d t arr TI (by rw [Vj];exact hu) hh.1,Vj]
       exact GR hT (fun t x y v u r g1 g2 g3=>GS hT n d t x y v u r (by omega) g1 g2 g3) hx hy _ _ hh.2.2 h
     · cases h
   · rename_i k0 qC
     rw [qC] at hu
     split at h
     · rename_i k a k' b
       split at h
       · rename_i hk
         subst hk
         simp only [Option.some.injEq] at h;subst h
         simp only [aa] at hx hy
         rw [hx.1,hy.1,run_equalIn_int w d t _ _ _ _ hu]
         by_cases fw:a=b<;>simp [fw]
       · cases h
     · cases h
   · rename_i qC
     rw [qC] at hu
     split at h
     · rename_i a b
       simp only [Option.some.injEq] at h;subst h
       simp only [aa] at hx hy
       rw [hx.1,hy.1,run_equalIn_string w d t _ _ hu]
       simp only [wD]
       by_cases fw:a=b<;>simp [fw]
     · cases h
   · rename_i qC
     rw [qC] at hu
     split at h
     · rename_i p q hp hq
       simp only [Option.some.injEq] at h;subst h
       rw [CQ hx hp,CQ hy hq,run_equalIn_bool' w d t _ _ hu]
     · cases h
   · cases h
theorem Kx(hT:bt T P) {n:Nat} {t:TypeId} {xs ys:List AV} {r:Bool}(h:AM T n t (.agg xs) (.agg ys)=some r):P.eqGuardType P.depth t=false :=by
 cases n with
 |zero=>simp [AM] at h
 |succ n=>
  simp only [AM] at h
  cases hf:T.find t with
  |none=>simp [hf] at h
  |some te=>
   simp only [hf] at h
   have hh:=hT.held t te hf
   split at h
   · rename_i fs qC
     rw [qC] at hh
     exact hh.2.1
   · cases h
   · cases h
   · simp [pV] at h
   · cases h
set_option maxHeartbeats 1000000 in
theorem M8(hT:bt T P) {op:BinOp} {t:TypeId} {ox oy:Operand} {x y:AV} {vx vy:Value}(hx:aa w A β vx x)(hy:aa w A β vy y) {out:Out}
  (h:IM T t op x y=some out) (hc:∀p∈out.cond,p):Reads P A β w (do eqGuard op t ox oy vx vy;binOp op t vx vy) out:=by
 unfold IM at h
 split at h
 · rename_i k n k' m
   simp only [aa] at hx hy
   obtain⟨rfl,hn⟩:=hx
   obtain⟨rfl,hm⟩:=hy
   unfold Reads
   simp only [Sem.run_bind,zI,Result.andThen_ok]
   split at h
   · obtain⟨hq,hr,c8⟩:=mq (w:=w) (A:=A) (β:=β) h hc
     obtain⟨h0,h1⟩:=dK c8
     refine⟨hq,_,?_,hr⟩
     have Vk:¬m<0:=by omega
     have PF:min m.toNat k.bits=m.toNat:=by
      cases k<;>simp [bitsOf] at h1<;>simp [IntKind.bits]<;>omega
     simp [binOp,Op.shift,Vk,PF]
   · simp only [Option.some.injEq] at h;subst h
     obtain⟨h0,h1⟩:=dK hc
     have Vk:¬m<0:=by omega
     have PF:min m.toNat k.bits=m.toNat:=by
      cases k<;>simp [bitsOf] at h1<;>simp [IntKind.bits]<;>omega
     refine⟨⟨rfl,rfl,rfl⟩, .int k (n/2^m.toNat),?_,?_⟩
     · simp only [binOp,Op.shift,Vk,PF,if_false,Sem.run_pure]
       rw [Int.fdiv_eq_ediv_of_nonneg _ (Int.le_of_lt (Int.pow_pos (by omega)))]
     · simp only [aa]
       have hp:(1:Int)≤2^m.toNat:=Int.pow_pos (by omega)
       refine⟨trivial,?_,?_⟩
       · have h2:lo k≤0:=by cases k<;>simp [lo]
         rcases Int.le_total 0 n with hh|hh
         · exact Int.le_trans h2 (Int.ediv_nonneg hh (by omega))
         · have :n≤n/2^m.toNat:=by
            rw [Int.le_ediv_iff_mul_le (by omega)]
            have :=Int.mul_le_mul_of_nonpos_left hh hp
            omega
           omega
       · have h2:0≤hi k:=by cases k<;>simp [hi]
         rcases Int.le_total 0 n with hh|hh
         · have :n/2^m.toNat≤n:=Int.ediv_le_self _ hh
           omega
         · have :n/2^m.toNat≤0:=Int.ediv_nonpos_of_nonpos_of_neg hh (by omega)
           omega
   · rename_i M9 IQ
     by_cases TK:k=k'
     · subst TK
       simp only [if_true] at h
       have hb:binOp op t (.int k n) (.int k m)=match op with
         | .add| .sub| .mul=>Op.intArith op k n m
         | .quo| .rem=>Op.intDiv op k n m
         | .and| .or| .xor| .andNot=>Op.intBits op k n m
         |_=>Op.intCmp op n m:=by
        cases op<;>first|exact absurd rfl M9|exact absurd rfl IQ|simp [binOp]
       rw [hb]
       split at h
       · obtain⟨hq,hr,_⟩:=mq (w:=w) (A:=A) (β:=β) h hc
         exact⟨hq,_,by simp [Op.intArith],hr⟩
       · obtain⟨hq,hr,_⟩:=mq (w:=w) (A:=A) (β:=β) h hc
         exact⟨hq,_,by simp [Op.intArith],hr⟩
       · obtain⟨hq,hr,_⟩:=mq (w:=w) (A:=A) (β:=β) h hc
         exact⟨hq,_,by simp [Op.intArith],hr⟩
       · simp only [Option.some.injEq] at h;subst h
         have h0:0≤n:=nv hn.1 (fun p hp=>hc p (by simp [hp]))
         have h1:0<m:=hc _ (by simp)
         have dJ:¬m=0:=by omega
         have h2:0≤n/m:=Int.ediv_nonneg h0 (by omega)
         have h3:n/m≤n:=Int.ediv_le_self _ h0
         have IS:lo k≤0:=by cases k<;>simp [lo]
         have hr:lo k≤n/m∧n/m≤hi k:=⟨by omega,by omega⟩
         refine⟨⟨rfl,rfl,rfl⟩, .int k (n/m),?_,by simp only [aa];exact⟨trivial,hr⟩⟩
         simp only [Op.intDiv,dJ,if_false,Int.tdiv_eq_ediv_of_nonneg h0,tw hr,Sem.run_pure]
       · simp only [Option.some.injEq] at h;subst h
         have h0:0≤n:=nv hn.1 (fun p hp=>hc p (by simp [hp]))
         have h1:0<m:=hc _ (by simp)
         have dJ:¬m=0:=by omega
         have h2:0≤n%m:=Int.emod_nonneg _ dJ
         have h3:n%m≤n:=by
          have e1:=Int.emod_def n m
          have e2:0≤m*(n/m):=Int.mul_nonneg (by omega) (Int.ediv_nonneg h0 (by omega))
          omega
         have IS:lo k≤0:=by cases k<;>simp [lo]
         have hr:lo k≤n%m∧n%m≤hi k:=⟨by omega,by omega⟩
         refine⟨⟨rfl,rfl,rfl⟩, .int k (n%m),?_,by simp only [aa];exact⟨trivial,hr⟩⟩
         simp only [Op.intDiv,dJ,if_false,Int.tmod_eq_emod_of_nonneg h0,Sem.run_pure]
       · simp only [Option.some.injEq] at h;subst h
         have h0:0≤n:=nv hn.1 (fun p hp=>hc p (by simp [hp]))
         have h1:0≤m:=nv hm.1 (fun p hp=>hc p (by simp [hp]))
         obtain⟨e1,e2⟩:=CP (k:=k) (· &&& ·) (· &&& ·) (fun x y=>BitVec.toNat_and x y) (fun a b ha hb=>Nat.lt_of_le_of_lt Nat.and_le_left ha) hn hm h0 h1
         exact⟨⟨rfl,rfl,rfl⟩,_,by simp only [Op.intBits,Sem.run_pure,e1];rfl,by simp only [aa];exact⟨rfl,e2⟩⟩
       · simp only [Option.some.injEq] at h;subst h
         have h0:0≤n:=nv hn.1 (fun p hp=>hc p (by simp [hp]))
         have h1:0≤m:=nv hm.1 (fun p hp=>hc p (by simp [hp]))
         obtain⟨e1,e2⟩:=CP (k:=k) (· ||| ·) (· ||| ·) (fun x y=>BitVec.toNat_or x y) (fun a b ha hb=>Nat.or_lt_two_pow ha hb) hn hm h0 h1
         exact⟨⟨rfl,rfl,rfl⟩,_,by simp only [Op.intBits,Sem.run_pure,e1];rfl,by simp only [aa];exact⟨rfl,e2⟩⟩
       · simp only [Option.some.injEq] at h;subst h
         have h0:0≤n:=nv hn.1 (fun p hp=>hc p (by simp [hp]))
         have h1:0≤m:=nv hm.1 (fun p hp=>hc p (by simp [hp]))
         obtain⟨e1,e2⟩:=CP (k:=k) (· ^^^ ·) (· ^^^ ·) (fun x y=>BitVec.toNat_xor x y) (fun a b ha hb=>Nat.xor_lt_two_pow ha hb) hn hm h0 h1
         exact⟨⟨rfl,rfl,rfl⟩,_,by simp only [Op.intBits,Sem.run_pure,e1];rfl,by simp only [aa];exact⟨rfl,e2⟩⟩
       · simp only [Option.some.injEq] at h;subst h
         exact⟨⟨rfl,rfl,rfl⟩, .bool (decide (n=m)),by simp only [Op.intCmp,Sem.run_pure]<;>rfl,by simp only [aa]⟩
       · simp only [Option.some.injEq] at h;subst h
         exact⟨⟨rfl,rfl,rfl⟩, .bool (!decide (n=m)),by simp only [Op.intCmp,Sem.run_pure]<;>rfl,by simp only [aa]⟩
       · simp only [Option.some.injEq] at h;subst h
         exact⟨⟨rfl,rfl,rfl⟩, .bool (decide (n<m)),by simp only [Op.intCmp,Sem.run_pure]<;>rfl,by simp only [aa]⟩
       · simp only [Option.some.injEq] at h;subst h
         exact⟨⟨rfl,rfl,rfl⟩, .bool (decide (n≤m)),by simp only [Op.intCmp,Sem.run_pure]<;>rfl,by simp only [aa]⟩
       · simp only [Option.some.injEq] at h;subst h
         exact⟨⟨rfl,rfl,rfl⟩, .bool (decide (m<n)),by simp only [Op.intCmp,Sem.run_pure]<;>rfl,by simp only [aa]⟩
       · simp only [Option.some.injEq] at h;subst h
         exact⟨⟨rfl,rfl,rfl⟩, .bool (decide (m≤n)),by simp only [Op.intCmp,Sem.run_pure]<;>rfl,by simp only [aa]⟩
       · cases h
     · simp [TK] at h
 · rename_i s u
   simp only [aa] at hx hy
   obtain⟨rfl,hn⟩:=hx
   obtain⟨rfl,hm⟩:=hy
   unfold Reads
   simp only [Sem.run_bind,zJ,Result.andThen_ok]
   have hb:binOp op t (.string ⟨s.toArray⟩) (.string ⟨u.toArray⟩)=Op.stringOp op ⟨s.toArray⟩ ⟨u.toArray⟩:=by cases op<;>rfl
   have amd:(s==u)=decide (s=u):=by
    by_cases Ky:s=u
    · simp [Ky]
    · simp [Ky]
   rw [hb]
   split at h
   · simp only [Option.some.injEq] at h;subst h
     have h0:=dK hc
     refine⟨⟨rfl,rfl,rfl⟩, .string ⟨(s++u).toArray⟩,?_,?_⟩
     · have xg:¬((s.length:Int)+(u.length:Int)>IntKind.i64.max):=by
        simp [IntKind.max,IntKind.signed,IntKind.bits];omega
       simp [Op.stringOp,rf,M7]
       omega
     · simp only [aa];refine⟨trivial,?_⟩;rw [List.length_append];unfold maxLen;omega
   all_goals first|(simp only [Option.some.injEq] at h;subst h;exact⟨⟨rfl,rfl,rfl⟩,_,by simp only [Op.stringOp,Sem.run_pure,wD,amd];rfl,by simp only [aa]⟩)|cases h
 · rename_i r rs l
   cases hd:dn T t gu with
   |false=>simp [hd] at h
   |true=>
    simp only [hd,cond_true] at h
    obtain⟨e,hu⟩:∃e,P.underlying t=some (.slice e):=by
     unfold dn at hd
     cases ht:T.find t with
     |none=>simp [ht] at hd
     |some te=>
      simp only [ht] at hd
      rw [(hT.ok t te ht).1]
      cases qD:te.desc<;>simp_all [gu]
    simp only [aa,Rd] at hx hy
    obtain⟨ad,cap,cs,rfl,h1,h2,h3,h4⟩:=hx
    subst hy
    split at h
    · simp only [Option.some.injEq] at h;subst h
      unfold Reads
      simp only [Sem.run_bind,xf,Result.andThen_ok]
      refine⟨⟨rfl,rfl,rfl⟩, .bool ad.isNone,IP w t e ad _ _ _ _ hu,?_⟩
      simp only [aa]
      refine⟨_,rfl,fun hn=> ?_⟩
      cases l with
      |nil=>rfl
      |cons x l=>
       exfalso
       simp only [bX,bh] at h3
       obtain⟨c1,c2,c8,⟨v,vs,Na,_⟩,_⟩:=h3
       obtain⟨b,o,hb,_⟩:=h4 (by rw [c8,Na];simp)
       rw [hb] at hn;cases hn
    · cases h
 · rename_i xs ys
   split at h
   · rename_i r hr
     have hg:=Kx hT hr
     have hq:=GS (w:=w) (A:=A) (β:=β) hT 8 10000 t _ _ _ _ r (by omega) hx hy hr
     simp only [aa] at hx hy
     obtain⟨arr,rfl,hx⟩:=hx
     obtain⟨TI,rfl,hy⟩:=hy
     unfold Reads
     simp only [Sem.run_bind,run_eqGuard_agg w op t ox oy arr TI hg,Result.andThen_ok]
     split at h
     · simp only [Option.some.injEq] at h;subst h
       exact⟨⟨rfl,rfl,rfl⟩,_,by rw [run_eql_struct,hq];rfl,by simp only [aa]⟩
     · simp only [Option.some.injEq] at h;subst h
       exact⟨⟨rfl,rfl,rfl⟩,_,by rw [run_neq_struct,hq];rfl,by simp only [aa]⟩
     · cases h
   · cases h
 · rename_i BP hy1 ŋ
   split at h
   · rename_i p q hp hq
     have ex:vx= .bool p:=by cases x<;>simp_all [pV,aa]
     have ey:vy= .bool q:=by cases y<;>simp_all [pV,aa]
     subst ex;subst ey
     unfold Reads
     simp only [Sem.run_bind,yh,Result.andThen_ok]
     cases hd:dn T t CH with
     |false=>simp [hd] at h
     |true=>
      simp only [hd,cond_true] at h
      have hu:P.underlying t=some .bool:=by
       unfold dn at hd
       cases ht:T.find t with
       |none=>simp [ht] at hd
       |some te=>
        simp only [ht] at hd
        rw [(hT.ok t te ht).1]
        cases qD:te.desc<;>simp_all [CH]
      split at h
      · simp only [Option.some.injEq] at h;subst h
        exact⟨⟨rfl,rfl,rfl⟩, .bool (p==q),run_eql_bool w t p q hu,by simp only [aa]⟩
      · simp only [Option.some.injEq] at h;subst h
        exact⟨⟨rfl,rfl,rfl⟩, .bool (!(p==q)),run_neq_bool w t p q hu,by simp only [aa]⟩
      · cases h
   · cases h
theorem CR(sz j:Nat):∀(k:Nat) (cs:List AV) (i:Nat),i<k→(every sz j k cs)[i]? =some (cs.getD (i*sz+j) .cX)
 |k+1,cs,0,_=>by simp [every]
 |k+1,cs,i+1,h=>by
  simp only [every,List.getElem?_cons_succ]
  rw [CR sz j k (cs.drop sz) i (by omega)]
  simp only [List.getD,List.getElem?_drop]
  rw [show sz+(i*sz+j)=(i+1)*sz+j by rw [Nat.add_mul];omega]
theorem yi:∀(l:List AV) (kd:IntKind) (ns:List Int),ya l=some (kd,ns)→∀(i:Nat) (a:AV),l[i]? =some a→a= .int kd (ns.getD i 0)
 | [],kd,ns,h,i,a,hi=>by simp at hi
 |x::r,kd,ns,h,i,a,hi=>by
  unfold ya at h
  split at h
  · rename_i k n
    split at h
    · simp only [Option.some.injEq,Prod.mk.injEq] at h
      obtain⟨rfl,rfl⟩:=h
      cases i with
      |zero=>simp at hi;subst hi;simp
      |succ i=>simp at hi
    · rename_i y r'
      split at h
      · rename_i k' l hl
        split at h
        · rename_i hk
          subst hk
          simp only [Option.some.injEq,Prod.mk.injEq] at h
          obtain⟨rfl,rfl⟩:=h
          cases i with
          |zero=>simp at hi;subst hi;simp
          |succ i=>
           rw [List.getElem?_cons_succ] at hi
           have :=yi _ _ _ hl i a hi
           rw [this];simp [List.getD]
        · cases h
      · cases h
  · cases h
theorem tx {sz k:Nat} {cs:List AV} {n:Int}(hn:n.toNat<k):∀(m:Nat) (vs:List AV),yb sz k cs n m=some vs→vs.length=m∧∀j,j<m→vs[j]? =some (cs.getD (n.toNat*sz+j) .cX)
 |0,vs,h=>by simp only [yb,Option.some.injEq] at h;subst h;exact⟨rfl,fun j hj=>by omega⟩
 |m+1,vs,h=>by
  simp only [yb] at h
  split at h
  · rename_i us kd l h1 h2
    simp only [Option.some.injEq] at h
    subst h
    obtain⟨g1,g2⟩:=tx hn m us h1
    refine⟨by simp [g1],fun j hj=> ?_⟩
    by_cases hjm:j<m
    · rw [List.getElem?_append_left (by omega)];exact g2 j hjm
    · have :j=m:=by omega
      subst this
      rw [List.getElem?_append_right (by omega),g1,Nat.sub_self,List.getElem?_cons_zero]
      have :=yi _ _ _ h2 n.toNat _ (CR sz j k cs n.toNat hn)
      rw [this]
  · cases h
theorem Kz {t:TypeId}(hT:bt T P) {k:Nat} {ee:TE}(h:CK T t=some (k,ee)):∃e i,P.underlying t=some (.array k e)∧T.find e=some ee∧P.info? e=some i∧i.size=ee.size:=by
 unfold CK at h
 split at h
 · rename_i te j5
   obtain⟨hu,_⟩:=hT.ok t te j5
   split at h
   · rename_i k' e hd
     split at h
     · rename_i ee' oO
       obtain⟨_,i,hi,hs,_⟩:=hT.ok e ee' oO
       simp only [Option.some.injEq,Prod.mk.injEq] at h
       obtain⟨rfl,rfl⟩:=h
       exact⟨e,i,by rw [hu,hd],oO,hi,hs⟩
     · cases h
   · cases h
 · cases h
theorem BQ(hT:bt T P) {t:TypeId} {cs:List AV} {n:Int} {kd:IntKind} {arr:Array Value} {vi:Value}(hx:ae w A β arr.toList cs)(hi:vi= .int kd n) {out:Out}
  (h:rN T t cs n=some out) (hc:∀p∈out.cond,p):Reads P A β w (Instr.index t (.agg arr) vi) out:=by
 unfold rN at h
 split at h
 · rename_i k ee ha
   cases hb:Nat.beq cs.length (k*ee.size) with
   |false=>rw [hb] at h;cases h
   |true=>
    rw [hb] at h
    simp only [cond_true] at h
    have hlen:=Nat.eq_of_beq_eq_true hb
    obtain⟨e,i,hu,oO,hie,hs⟩:=Kz hT ha
    have fU:∀(h0:0≤n) (h1:n<(k:Int)),(Instr.index t (.agg arr) vi).run P w=(part e arr (n.toNat*ee.size)).run P w:=by
     intro h0 h1
     subst hi
     simp [Instr.index,asIntOf,run_underlying hu,h0,h1,sizeOf,typeInfo,hie,hs]
    split at h
    · rename_i vs hv
      cases Ge:ee.desc.jG with
      |true=>
       rw [Ge] at h
       simp only [cond_true,Option.some.injEq] at h
       subst h
       obtain⟨h0,h1⟩:=dK hc
       obtain⟨g1,g2⟩:=tx (by omega) _ _ hv
       have hle:n.toNat*ee.size+ee.size≤cs.length:=by
        rw [hlen,←Nat.succ_mul];exact Nat.mul_le_mul_right _ (by omega)
       have hp:pick ee cs (n.toNat*ee.size)=some (.agg vs):=by
        unfold pick
        rw [Ge,cond_true,show Nat.ble (n.toNat*ee.size+ee.size) cs.length=true from Nat.ble_eq_true_of_le hle,cond_true]
        congr 2
        refine List.ext_getElem? fun j=> ?_
        by_cases hj:j<ee.size
        · rw [List.getElem?_take,if_pos hj,List.getElem?_drop,g2 j hj]
          rw [List.getElem?_eq_getElem (by omega)]
          simp [List.getD,List.getElem?_eq_getElem (show n.toNat*ee.size+j<cs.length by omega)]
        · rw [List.getElem?_take,if_neg hj,List.getElem?_eq_none (by omega)]
       obtain⟨v,k1,k2⟩:=re hT oO hx hp
       exact⟨⟨rfl,rfl,rfl⟩,v,by rw [fU h0 h1];exact k1,k2⟩
      |false=>
       rw [Ge] at h
       simp only [cond_false] at h
       split at h
       · rename_i a
         simp only [Option.some.injEq] at h
         subst h
         obtain⟨h0,h1⟩:=dK hc
         obtain⟨g1,g2⟩:=tx (by omega) _ _ hv
         have cR:ee.size=1:=by simpa using g1.symm
         have hle:n.toNat*ee.size+ee.size≤cs.length:=by
          rw [hlen,←Nat.succ_mul];exact Nat.mul_le_mul_right _ (by omega)
         have hp:pick ee cs (n.toNat*ee.size)=some a:=by
          unfold pick
          rw [Ge,cond_false]
          have :=g2 0 (by omega)
          simp only [List.getElem?_cons_zero,Option.some.injEq,Nat.add_zero] at this
          rw [this,List.getElem?_eq_getElem (by omega)]
          simp [List.getD,List.getElem?_eq_getElem (show n.toNat*ee.size<cs.length by omega)]
         obtain⟨v,k1,k2⟩:=re hT oO hx hp
         exact⟨⟨rfl,rfl,rfl⟩,v,by rw [fU h0 h1];exact k1,k2⟩
       · cases h
    · cases h
 · cases h
end
end Go.Vg

end
section
namespace Go.Vg
open Go
section
variable {P:Program} {C:Ctx} {A:Nat→Prop} {β:Nat→Value} {st:St} {a:Act} {w:World} {T:bT}
theorem rh(n:Int):∀ks,CL n ks=true↔n∈ks
 | []=>by simp [CL]
 |k::r=>by simp [CL,rh n r]
theorem tz(n:Int):∀ks,rO n ks↔n∉ks
 | []=>by simp [rO]
 |k::r=>by simp [rO,tz n r]
theorem qE(n:Int):∀(es:List MapEntry) (ks:List Int) (i:Nat),es.map (·.key)=ks.map (Value.int .i64)→n∉ks→Instr.findNow (.int .i64) (.int .i64 n) es i=some none
 | [],_,_,_,_=>rfl
 |e::es,[],_,h,_=>by simp at h
 |e::es,k::ks,i,h,hn=>by
  simp only [List.map_cons,List.cons.injEq] at h
  have hk:n≠k:=fun q=>hn (by rw [q];exact List.mem_cons_self ..)
  have hs:Instr.sameNow (.int .i64) (.int .i64 n) e.key=some false :=by
   rw [h.1];simp [Instr.sameNow,hk]
  simp only [Instr.findNow,hs]
  exact qE n es ks (i+1) h.2 (fun q=>hn (List.mem_cons_of_mem _ q))
theorem AS(n:Int):∀(es:List MapEntry) (ks:List Int) (i j:Nat),es.map (·.key)=ks.map (Value.int .i64)→iG ks=true→ks[j]? =some n→
  ∃e,es[j]? =some e∧Instr.findNow (.int .i64) (.int .i64 n) es i=some (some (i+j,e.val))
 | [],[],_,j,_,_,hj=>by simp at hj
 | [],_::_,_,_,h,_,_=>by simp at h
 |e::es,[],_,_,h,_,_=>by simp at h
 |e::es,k::ks,i,j,h,hd,hj=>by
  simp only [List.map_cons,List.cons.injEq] at h
  simp only [iG,Bool.and_eq_true,Bool.not_eq_true'] at hd
  cases j with
  |zero=>
   simp only [List.getElem?_cons_zero,Option.some.injEq] at hj
   subst hj
   have hs:Instr.sameNow (.int .i64) (.int .i64 k) e.key=some true :=by
    rw [h.1];simp [Instr.sameNow]
   exact⟨e,rfl,by simp [Instr.findNow,hs]⟩
  |succ j=>
   simp only [List.getElem?_cons_succ] at hj
   have hk:n≠k:=by
    rintro rfl
    have :n∈ks:=List.mem_of_getElem? hj
    rw [(rh n ks).2 this] at hd;cases hd.1
   have hs:Instr.sameNow (.int .i64) (.int .i64 n) e.key=some false :=by
    rw [h.1];simp [Instr.sameNow,hk]
   obtain⟨e',h1,h2⟩:=AS n es ks (i+1) j h.2 hd.2 hj
   refine⟨e',by simpa using h1,?_⟩
   simp only [Instr.findNow,hs]
   rw [h2];congr 3;omega
theorem CS:∀(aF:List AV) (vs:List Value) (i:Nat) (x:AV) (v:Value),ae w A β vs aF→aF[i]? =some x→vs[i]? =some v→aa w A β v x
 | [],_,i,x,v,_,h,_=>by simp at h
 |a::aF,vs,i,x,v,h,hx,hv=>by
  simp only [ae] at h
  obtain⟨u,bG,rfl,h1,h2⟩:=h
  cases i with
  |zero=>
   simp only [List.getElem?_cons_zero,Option.some.injEq] at hx hv
   rw [←hx,←hv];exact h1
  |succ i=>exact CS aF bG i x v h2 (by simpa using hx) (by simpa using hv)
theorem Gf(hT:bt T P) {t:TypeId} {ok:Bool} {ks:List Int} {cs:List AV} {n:Int} {Gb:Nat} {vm:Value} {out:Out}(hm:aa w A β vm (.fT ks cs))
  (h:w9 T Gb t ok ks cs n=some out) (hc:∀p∈out.cond,p):Reads P A β w (Instr.lookup t vm (.int .i64 n) ok) out:=by
 simp only [aa] at hm
 obtain⟨b,es,ck,rfl,hA,hb,hk,hv⟩:=hm
 unfold w9 at h
 split at h
 · rename_i te j5
   obtain⟨hu,_⟩:=hT.ok t te j5
   split at h
   · rename_i kt et hd
     rw [hd] at hu
     cases hq:(dn T kt w8&&iG ks) with
     |false=>rw [hq] at h;cases h
     |true=>
     rw [hq] at h
     simp only [cond_true] at h
     simp only [Bool.and_eq_true] at hq
     have IT:P.underlying kt=some (.int .i64):=by
      have h1:=hq.1
      unfold dn at h1
      split at h1
      · rename_i tk BS
        obtain⟨hku,_⟩:=hT.ok kt tk BS
        unfold w8 at h1
        split at h1
        · rename_i qD;rw [hku,qD]
        · cases h1
      · cases h1
     have Ō:∀e,(Instr.checkKey e 10000 kt (.int .i64 n)).run P w= .ok () w:=fun e=>MapKept.run_checkKey IT (by simp [MapKept.IsKey]) e 9999
     split at h
     · rename_i k c yj Na
       simp only [Option.some.injEq] at h
       subst h
       have hn:n=k:=hc _ (List.mem_cons_self ..)
       subst hn
       obtain⟨e,he,hf⟩:=AS n es.toList ks 0 Gb hk hq.2 yj
       have hrel:=CS cs _ Gb c e.val hv Na (by rw [List.getElem?_map,he];rfl)
       refine⟨⟨rfl,rfl,rfl⟩,(if ok then .tuple #[e.val, .bool true] else e.val),?_,?_⟩
       · simp [Instr.lookup,run_underlying hu,MapKept.run_getObj_map hb,Ō,MapKept.run_findKey IT hf,Result.andThen]
       · cases ok
         · exact hrel
         · simp only [cond_true,if_true,aa]
           exact⟨_,rfl,by simp only [ae];exact⟨_,_,rfl,hrel,_,_,rfl,by simp [aa],rfl⟩⟩
     · split at h
       · rename_i ee oO
         cases hz:MY ee.zero with
         |false=>rw [hz] at h;cases h
         |true=>
         rw [hz] at h
         simp only [cond_true,Option.some.injEq] at h
         subst h
         have hn:n∉ks:=(tz n ks).1 (hc _ (List.mem_cons_self ..))
         have hf:=qE n es.toList ks 0 hk hn
         obtain⟨_,i,hi,_,_,hzz⟩:=hT.ok et ee oO
         have hz':ee.zero= .nilFunc:=by
          unfold MY at hz;split at hz
          · rename_i q;exact q
          · cases hz
         have hzr:(zeroValue et).run P w= .ok .nilFunc w:=by
          simp [zeroValue,typeInfo,hi,hzz,hz']
         refine⟨⟨rfl,rfl,rfl⟩,(if ok then .tuple #[.nilFunc, .bool false] else .nilFunc),?_,?_⟩
         · simp [Instr.lookup,run_underlying hu,MapKept.run_getObj_map hb,Ō,MapKept.run_findKey IT hf,hzr,Result.andThen]
         · cases ok
           · simp [aa]
           · simp only [cond_true,if_true,aa]
             exact⟨_,rfl,by simp only [ae];exact⟨_,_,rfl,by simp [aa],_,_,rfl,by simp [aa],rfl⟩⟩
       · cases h
   · cases h
 · cases h
end
end Go.Vg

end
section
namespace Go.Vg
open Go
section
variable {P:Program} {C:Ctx} {A:Nat→Prop} {β:Nat→Value} {st:St} {a:Act} {w:World} {T:bT}
theorem TL {op:UnOp} {x:AV} {vx:Value}(hx:aa w A β vx x) {out:Out}(h:MX op x=some out)(hc:∀p∈out.cond,p):Reads P A β w (Op.unary op vx) out:=by
 unfold MX at h
 split at h
 · split at h
   · simp only [Option.some.injEq] at h;subst h
     simp only [aa] at hx;subst hx
     exact⟨⟨rfl,rfl,rfl⟩,_,rfl,by simp only [aa]⟩
   · cases h
 · split at h
   · simp only [Option.some.injEq] at h;subst h
     simp only [aa] at hx;subst hx
     exact⟨⟨rfl,rfl,rfl⟩,_,rfl,by simp only [aa];rfl⟩
   · cases h
 · split at h
   · simp only [Option.some.injEq] at h;subst h
     simp only [aa] at hx;subst hx
     exact⟨⟨rfl,rfl,rfl⟩,_,rfl,by simp only [aa];rfl⟩
   · cases h
 · rename_i k n
   simp only [aa] at hx
   obtain⟨rfl,hn⟩:=hx
   split at h
   · obtain⟨hq,hr,_⟩:=mq (w:=w) (A:=A) (β:=β) h hc
     exact⟨hq, .int k (k.wrap (0-n)),by simp [Op.unary,Op.intArith],hr⟩
   · cases hk:mc k with
     |none=>simp [hk] at h
     |some c=>
      simp only [hk,Option.some.injEq] at h;subst h
      have hs:k.signed=false :=by cases k<;>simp [mc] at hk<;>rfl
      have h0:0≤n:=by cases k<;>simp [mc] at hk<;>simpa [lo] using hn.1
      have Na:c-1=hi k:=by cases k<;>simp [mc] at hk<;>subst hk<;>rfl
      have hx:(c-1-n)=k.wrap ((BitVec.ofInt k.bits (hi k)^^^BitVec.ofInt k.bits n).toNat:Int):=by
       rw [BitVec.toNat_xor,n4 (by cases k<;>simp [hi]) (Int.le_refl _),n4 h0 hn.2]
       have eD:=toNat_lt h0 hn.2
       have e:(hi k).toNat^^^n.toNat=(hi k).toNat-n.toNat:=by
        have e2:(hi k).toNat=2^kl k-1:=by cases k<;>simp [mc] at hk<;>rfl
        rw [e2]
        apply Nat.eq_of_testBit_eq
        intro i
        rw [Nat.testBit_xor,Nat.testBit_two_pow_sub_one,Nat.sub_sub,Nat.add_comm,Nat.testBit_two_pow_sub_succ eD]
        cases hb:n.toNat.testBit i with
        |false=>simp
        |true=>
         have :i<kl k:=by
          rcases Nat.lt_or_ge i (kl k) with h|h
          · exact h
          · rw [Nat.testBit_lt_two_pow (Nat.lt_of_lt_of_le eD (Nat.pow_le_pow_right (by omega) h))] at hb;cases hb
         simp [this]
       rw [e]
       have hle:n.toNat≤(hi k).toNat:=by omega
       have hr:lo k≤(((hi k).toNat-n.toNat:Nat):Int)∧(((hi k).toNat-n.toNat:Nat):Int)≤hi k:=by
        have :lo k=0:=by cases k<;>simp [mc] at hk<;>rfl
        omega
       rw [tw hr,Na]
       omega
      have ō:lo k≤c-1-n∧c-1-n≤hi k:=by
       have :lo k=0:=by cases k<;>simp [mc] at hk<;>rfl
       omega
      refine⟨⟨rfl,rfl,rfl⟩, .int k (c-1-n),?_,by simp only [aa];exact⟨trivial,ō⟩⟩
      have KA:k.max=hi k:=by cases k<;>simp [mc] at hk<;>rfl
      simp only [Op.unary,Op.intBits,hs,Bool.false_eq_true,if_false,Sem.run_pure,KA]
      rw [hx]
   · cases h
 · cases h
theorem yk(s:List UInt8)(x y:Nat)(hy:y≤s.length):(⟨s.toArray⟩:ByteArray).extract x y=⟨((s.take y).drop x).toArray⟩:=by
 apply ByteArray.ext
 apply Array.ext'
 simp [ByteArray.data_extract,List.extract,List.drop_take]
theorem run_sliceBound {k:IntKind} {n:Int} {y:Nat} {code:BoundsCode}(h0:0≤n)(h1:n≤(y:Int)):(Instr.sliceBound (.int k n) y code).run P w= .ok n.toNat w:=by
 simp [Instr.sliceBound,asIntOf,h0,h1]
def du:Option Int→Nat
 |none=>0
 |some a=>a.toNat
def bg(len:Nat):Option Int→Nat
 |none=>len
 |some b=>b.toNat
def mT(w:World)(A:Nat→Prop)(β:Nat→Value):Option AV→Option Value→Prop
 |none,none=>True
 |some x,some v=>aa w A β v x
 |_,_=>False
theorem fm {x:Option AV} {n:Option Int} {v:Option Value}(h:mQ x=some n)(hr:mT w A β x v):
  (n=none∧v=none)∨∃k m,n=some m∧v=some (.int k m):=by
 cases x with
 |none=>
  simp [mQ] at h
  cases v with
  |none=>exact .inl ⟨h.symm,rfl⟩
  |some v=>simp [mT] at hr
 |some x=>
  cases v with
  |none=>simp [mT] at hr
  |some v=>
   cases x with
   |int k m=>
    simp only [mQ,Option.some.injEq] at h
    simp only [mT,aa] at hr
    exact .inr ⟨k,m,h.symm,by rw [hr.1]⟩
   |_=>simp [mQ] at h
theorem jJ {s:Bool} {len cap:Nat} {lo hi:Option Int} {vl vh:Option Value}(hl:(lo=none∧vl=none)∨∃k m,lo=some m∧vl=some (.int k m))(hh:(hi=none∧vh=none)∨∃k m,hi=some m∧vh=some (.int k m))
  (hlen:len≤cap) (h0:∀m,hi=some m→0≤m∧m≤(len:Int)) (h1:∀m,lo=some m→0≤m∧m≤(bg len hi:Int)):
  (Instr.sliceBounds s len cap vl vh none).run P w= .ok (du lo,bg len hi,cap) w:=by
 rcases hl with⟨rfl,rfl⟩|⟨k,m,rfl,rfl⟩<;>rcases hh with⟨rfl,rfl⟩|⟨k',m',rfl,rfl⟩
 · simp [Instr.sliceBounds,du,bg]
 · obtain⟨g0,g1⟩:=h0 m' rfl
   simp [Instr.sliceBounds,du,bg,run_sliceBound (P:=P) (w:=w) (k:=k') g0 (show m'≤(cap:Int) by omega)]
 · obtain⟨g0,g1⟩:=h1 m rfl
   simp only [bg] at g1
   simp [Instr.sliceBounds,du,bg,run_sliceBound (P:=P) (w:=w) (k:=k) g0 g1]
 · obtain⟨g0,g1⟩:=h0 m' rfl
   obtain⟨f0,f1⟩:=h1 m rfl
   simp only [bg] at f1
   simp [Instr.sliceBounds,du,bg,run_sliceBound (P:=P) (w:=w) (k:=k') g0 (show m'≤(cap:Int) by omega),run_sliceBound (P:=P) (w:=w) (k:=k) f0 f1]
theorem rV {row:List Ty} {v:Value} {l:List (Row row)}(h:Rd w A (.slice row) v l):∃ad cap,v= .slice ad l.length cap∧l.length≤cap∧cap≤maxLen:=by
 simp only [Rd] at h
 obtain⟨ad,cap,cs,h1,h2,h3,_⟩:=h
 exact⟨ad,cap,h1,h2,h3⟩
theorem KB {row:List Ty} {ad:Option Addr} {len cap:Nat} {l:List (Row row)}(h:Rd w A (.slice row) (.slice ad len cap) l)(x y:Nat)(hx:x≤y)(hy:y≤l.length)(zL:Option Addr)
  (had:x<cap→zL=ad.map (·.add (x*row.length))):Rd w A (.slice row) (.slice zL (y-x) (cap-x)) ((l.take y).drop x):=by
 simp only [Rd] at h ⊢
 obtain⟨a0,amf,cs,h1,h2,h3,h4,h5⟩:=h
 simp only [Value.slice.injEq] at h1
 obtain⟨rfl,rfl,rfl⟩:=h1
 have hs:=dV (w:=w) (A:=A) l cs y h4
 have IQ:=dV (w:=w) (A:=A) (l.take y) _ x hs.1
 have hlen:((l.take y).drop x).length=y-x:=by simp;omega
 refine⟨zL,cap-x,((cs.take (y*row.length)).drop (x*row.length)),by rw [hlen],by rw [hlen];omega,by omega,IQ.2,fun dJ=> ?_⟩
 have aqV:x<l.length:=by
  rcases Nat.lt_or_ge x l.length with eD|BT
  · exact eD
  · exfalso;apply dJ
    have :y=x:=by omega
    subst this
    rw [List.drop_take];simp
 have c8:cs≠ []:=by intro h0;apply dJ;simp [h0]
 obtain⟨b,o,hb,hA,hr⟩:=h5 c8
 refine⟨b,o+x*row.length,?_,hA,mS (gN hr)⟩
 rw [had (by omega),hb]
 simp [Addr.add_mid]
theorem zM {t:TypeId}(hu:P.underlying t=some .string)(s:List UInt8) {vl vh:Option Value} {x y c:Nat}(hy:y≤s.length)(hb:(Instr.sliceBounds false s.length s.length vl vh none).run P w= .ok (x,y,c) w):
  (Instr.sliceAt t (.string ⟨s.toArray⟩) vl vh none).run P w= .ok (.string ⟨((s.take y).drop x).toArray⟩) w:=by
 simp [Instr.sliceAt,Instr.slice,run_underlying hu,rf,hb,yk s x y hy]
theorem nO {t e:TypeId} {i:TypeInfo}(hu:P.underlying t=some (.slice e))(hi:P.info? e=some i)(ad:Option Addr)(len cap:Nat) {vl vh:Option Value} {x y:Nat}(hb:(Instr.sliceBounds true len cap vl vh none).run P w= .ok (x,y,cap) w):
  (Instr.sliceAt t (.slice ad len cap) vl vh none).run P w= .ok (.slice (if cap=x then ad else ad.map (·.add (x*i.size))) (y-x) (cap-x)) w:=by
 simp [Instr.sliceAt,Instr.slice,run_underlying hu,sizeOf,typeInfo,hi,hb]
theorem jm(hT:bt T P) {t:TypeId} {te:TE}(ht:T.find t=some te):P.underlying t=some te.desc:=(hT.ok t te ht).1
theorem IU(hT:bt T P)(hB:aD C A β st a w) {t:TypeId} {x:AV} {lo hi mx:Option AV} {vx:Value} {vl vh vm:Option Value}(hx:aa w A β vx x)
  (hl:mT w A β lo vl)
  (hh:mT w A β hi vh)
  (hm:mT w A β mx vm) {out:Out}
  (h:oB T st.h t x lo hi mx=some out) (hc:∀p∈out.cond,p):Reads P A β w (Instr.sliceAt t vx vl vh vm) out:=by
 unfold oB at h
 split at h
 · rename_i s xh gU IS Nb ri
   have Vl:vm=none:=by
    rcases fm ri hm with⟨_,h⟩|⟨k,m,h,_⟩
    · exact h
    · cases h
   subst Vl
   have iI:=fm IS hl
   have Gg:=fm Nb hh
   simp only [aa] at hx
   obtain⟨rfl,hs⟩:=hx
   cases hd:dn T t n0 with
   |false=>simp [hd] at h
   |true=>
    simp only [hd,cond_true] at h
    have hu:P.underlying t=some .string:=by
     unfold dn at hd
     cases ht:T.find t with
     |none=>simp [ht] at hd
     |some te=>
      simp only [ht] at hd
      rw [(hT.ok t te ht).1]
      cases qD:te.desc<;>simp_all [n0]
    have fin:∀(r:List UInt8),(bg s.length gU≤s.length)→(∀m,gU=some m→0≤m∧m≤(s.length:Int))→(∀m,xh=some m→0≤m∧m≤(bg s.length gU:Int))→
      r=((s.take (bg s.length gU)).drop (du xh))→∃v,(Instr.sliceAt t (.string ⟨s.toArray⟩) vl vh none).run P w= .ok v w∧aa w A β v (.str r):=by
     intro r h1 h2 h3 h4
     have hb:=jJ (P:=P) (w:=w) (s:=false) (cap:=s.length) iI Gg (Nat.le_refl _) h2 h3
     refine⟨_,zM hu s h1 hb,?_⟩
     simp only [aa,h4]
     exact⟨trivial,by simp only [List.length_drop,List.length_take];omega⟩
    split at h
    · simp only [Option.some.injEq] at h;subst h
      exact⟨⟨rfl,rfl,rfl⟩,fin s (by simp [bg]) (by simp) (by simp) (by simp [bg,du])⟩
    · rename_i b
      simp only [Option.some.injEq] at h;subst h
      obtain⟨c0,c1⟩:=dK hc
      exact⟨⟨rfl,rfl,rfl⟩,fin _ (by simp only [bg];omega) (by simp only [Option.some.injEq];rintro m rfl;exact⟨c0,c1⟩) (by simp) (by simp [bg,du])⟩
    · rename_i x
      simp only [Option.some.injEq] at h;subst h
      obtain⟨c0,c1⟩:=dK hc
      exact⟨⟨rfl,rfl,rfl⟩,fin _ (by simp [bg]) (by simp) (by simp only [Option.some.injEq,bg];rintro m rfl;exact⟨c0,c1⟩) (by simp [bg,du])⟩
    · rename_i x b
      simp only [Option.some.injEq] at h;subst h
      obtain⟨c0,c1,c2⟩:=dK hc
      exact⟨⟨rfl,rfl,rfl⟩,fin _ (by simp only [bg];omega) (by simp only [Option.some.injEq];rintro m rfl;exact⟨by omega,c2⟩) (by simp only [Option.some.injEq,bg];rintro m rfl;omega) (by simp [bg,du])⟩
 · rename_i row l xh gU IS Nb ri
   have Vl:vm=none:=by
    rcases fm ri hm with⟨_,h⟩|⟨k,m,h,_⟩
    · exact h
    · cases h
   subst Vl
   have iI:=fm IS hl
   have Gg:=fm Nb hh
   simp only [aa] at hx
   cases hs:bn T t row.length with
   |false=>simp [hs] at h
   |true=>
    simp only [hs,cond_true] at h
    obtain⟨e,ii,hu,gT,cR,iy⟩:=ep hT hs
    obtain⟨ad,cap,rfl,hle,yl⟩:=rV hx
    have fin:∀(r:List (Row row)),(bg l.length gU≤l.length)→(du xh≤bg l.length gU)→(∀m,gU=some m→0≤m∧m≤(l.length:Int))→(∀m,xh=some m→0≤m∧m≤(bg l.length gU:Int))→
      r=((l.take (bg l.length gU)).drop (du xh))→∃v,(Instr.sliceAt t (.slice ad l.length cap) vl vh none).run P w= .ok v w∧aa w A β v (.sl row r):=by
     intro r h1 TM h2 h3 h4
     have hb:=jJ (P:=P) (w:=w) (s:=true) (cap:=cap) iI Gg hle h2 h3
     refine⟨_,nO hu gT ad l.length cap hb,?_⟩
     simp only [aa,h4]
     refine KB hx _ _ TM h1 _ (fun eD=> ?_)
     rw [if_neg (by omega),cR]
    split at h
    · simp only [Option.some.injEq] at h;subst h
      exact⟨⟨rfl,rfl,rfl⟩,fin l (by simp [bg]) (by simp [du]) (by simp) (by simp) (by simp [bg,du])⟩
    · rename_i b
      simp only [Option.some.injEq] at h;subst h
      obtain⟨c0,c1⟩:=dK hc
      exact⟨⟨rfl,rfl,rfl⟩,fin _ (by simp only [bg];omega) (by simp [du]) (by simp only [Option.some.injEq];rintro m rfl;exact⟨c0,c1⟩) (by simp) (by simp [bg,du])⟩
    · rename_i x
      simp only [Option.some.injEq] at h;subst h
      obtain⟨c0,c1⟩:=dK hc
      exact⟨⟨rfl,rfl,rfl⟩,fin _ (by simp [bg]) (by simp only [bg,du];omega) (by simp) (by simp only [Option.some.injEq,bg];rintro m rfl;exact⟨c0,c1⟩) (by simp [bg,du])⟩
    · rename_i x b
      simp only [Option.some.injEq] at h;subst h
      obtain⟨c0,c1,c2⟩:=dK hc
      exact⟨⟨rfl,rfl,rfl⟩,fin _ (by simp only [bg];omega) (by simp only [bg,du];omega) (by simp only [Option.some.injEq];rintro m rfl;exact⟨by omega,c2⟩) (by simp only [Option.some.injEq,bg];rintro m rfl;omega) (by simp [bg,du])⟩
 · rename_i row l b c IS Nb ri
   have hvl:vl=none:=by
    rcases fm IS hl with⟨_,h⟩|⟨k,m,h,_⟩
    · exact h
    · cases h
   subst hvl
   obtain⟨kb,rfl⟩:∃kb,vh=some (.int kb b):=by
    rcases fm Nb hh with⟨h,_⟩|⟨k,m,h,h2⟩
    · cases h
    · cases h;exact⟨k,h2⟩
   obtain⟨kc,rfl⟩:∃kc,vm=some (.int kc c):=by
    rcases fm ri hm with⟨h,_⟩|⟨k,m,h,h2⟩
    · cases h
    · cases h;exact⟨k,h2⟩
   simp only [aa] at hx
   cases hs:bn T t row.length with
   |false=>simp [hs] at h
   |true=>
    simp only [hs,cond_true] at h
    obtain⟨e,ii,hu,gT,cR,iy⟩:=ep hT hs
    obtain⟨ad,cap,rfl,hle,yl⟩:=rV hx
    simp only [Option.some.injEq] at h;subst h
    obtain⟨c0,c1,c2⟩:=dK hc
    subst c1
    have hb:(Instr.sliceBounds true l.length cap none (some (.int kb b)) (some (.int kc b))).run P w= .ok (0,b.toNat,b.toNat) w:=by
     simp [Instr.sliceBounds,run_sliceBound (P:=P) (w:=w) (k:=kc) (n:=b) (y:=cap) (by omega) (by omega),run_sliceBound (P:=P) (w:=w) (k:=kb) (n:=b) (y:=b.toNat) (by omega) (by omega)]
    have fU:(Instr.sliceAt t (.slice ad l.length cap) none (some (.int kb b)) (some (.int kc b))).run P w=
      .ok (.slice (if b.toNat=0 then ad else ad.map (·.add (0*ii.size))) (b.toNat-0) (b.toNat-0)) w:=by
     simp [Instr.sliceAt,Instr.slice,run_underlying hu,sizeOf,typeInfo,gT,hb]
    have hR:=KB hx 0 b.toNat (by omega) (by omega) (if b.toNat=0 then ad else ad.map (·.add (0*ii.size))) (fun _=>by
     by_cases hz:b.toNat=0
     · rw [if_pos hz];cases ad<;>simp [Addr.add]
     · rw [if_neg hz];cases ad<;>simp [Addr.add])
    have hlen:((l.take b.toNat).drop 0).length=b.toNat:=by rw [List.drop_zero,List.length_take];omega
    simp only [Rd] at hR
    obtain⟨a0,amf,cs,g1,g2,g3,g4,g5⟩:=hR
    simp only [Value.slice.injEq] at g1
    obtain⟨g6,g7,g8⟩:=g1
    rw [List.drop_zero] at hlen g4
    rw [g6,Nat.sub_zero] at fU
    refine⟨⟨rfl,rfl,rfl⟩, .slice a0 b.toNat b.toNat,fU,?_⟩
    simp only [aa,Rd]
    refine⟨⟨a0,b.toNat,cs,?_,by omega,by omega,g4,g5⟩,a0,?_⟩<;>rw [hlen]
 · rename_i k xh gU IS Nb ri
   have Vl:vm=none:=by
    rcases fm ri hm with⟨_,h⟩|⟨k,m,h,_⟩
    · exact h
    · cases h
   subst Vl
   have iI:=fm IS hl
   have Gg:=fm Nb hh
   split at h
   · rename_i e' row l fr hk
     cases hs:bn T t row.length with
     |false=>simp [hs] at h
     |true=>
      simp only [hs,cond_true] at h
      obtain⟨e,ii,hu,gT,cR,iy⟩:=ep hT hs
      simp only [aa] at hx
      obtain⟨rfl,_⟩:=hx
      have fin:(bg l.length gU≤l.length)→(du xh≤bg l.length gU)→(∀m,gU=some m→0≤m∧m≤(l.length:Int))→(∀m,xh=some m→0≤m∧m≤(bg l.length gU:Int))→
        (β k= .slice none 0 0∧l= []∧(Instr.sliceAt t (β k) vl vh none).run P w= .ok (.slice none 0 0) w)∨∃b cap zL,β k= .slice (some ⟨b,0,none⟩) l.length cap∧(l.length≤cap∧cap≤maxLen)∧
          (Instr.sliceAt t (β k) vl vh none).run P w= .ok (.slice zL (bg l.length gU-du xh) (cap-du xh)) w∧(du xh<cap→zL=some ⟨b,du xh*row.length,none⟩)∧(du xh=0→zL=some ⟨b,0,none⟩):=by
       intro h1 TM h2 h3
       rcases eu hB hk with⟨g1,g2⟩|⟨b,cap,cur,g1,_,g3,g4,_⟩
       · subst g2
         have hb:=jJ (P:=P) (w:=w) (s:=true) (cap:=0) iI Gg (Nat.le_refl _) h2 h3
         have hz:bg 0 gU=0:=by simpa using h1
         have hz2:du xh=0:=by simp only [List.length_nil] at TM;omega
         refine .inl ⟨g1,rfl,?_⟩
         rw [g1,nO hu gT none 0 0 hb,hz,hz2]
         simp
       · have hb:=jJ (P:=P) (w:=w) (s:=true) (cap:=cap) iI Gg g3 h2 h3
         refine .inr ⟨b,cap,_,g1,⟨g3,g4⟩,by rw [g1];exact nO hu gT (some ⟨b,0,none⟩) l.length cap hb,fun eD=> ?_,fun hz=> ?_⟩
         · rw [if_neg (by omega),cR];simp [Addr.add_mid]
         · split
           · rfl
           · rw [hz];simp [Addr.add]
      split at h
      · simp only [Option.some.injEq] at h;subst h
        rcases fin (by simp [bg]) (by simp [du]) (by simp) (by simp) with⟨g1,g2,g3⟩|⟨b,cap,zL,g1,g2,g3,_,g5⟩
        · exact⟨⟨rfl,rfl,rfl⟩,_,g3,by simp only [aa];exact⟨g1.symm,rfl⟩⟩
        · refine⟨⟨rfl,rfl,rfl⟩,_,g3,?_⟩
          simp only [aa]
          rw [g5 rfl,g1];simp [bg,du,Value.oneCell']
      · rename_i b
        simp only [Option.some.injEq] at h;subst h
        obtain⟨c0,c1⟩:=dK hc
        rcases fin (by simp only [bg];omega) (by simp [du]) (by simp only [Option.some.injEq];rintro m rfl;exact⟨c0,c1⟩) (by simp) with⟨g1,g2,g3⟩|⟨bb,cap,zL,g1,g2,g3,_,g5⟩
        · refine⟨⟨rfl,rfl,rfl⟩,_,g3,?_⟩
          simp only [aa]
          refine .inl ⟨g1,trivial,?_⟩
          subst g2;simp at c1;omega
        · refine⟨⟨rfl,rfl,rfl⟩,_,g3,?_⟩
          simp only [aa]
          rw [g5 rfl]
          exact .inr ⟨bb,_,cap,g1,by simp [bg,du],by omega⟩
      · rename_i x
        simp only [Option.some.injEq] at h;subst h
        obtain⟨c0,c1⟩:=dK hc
        rcases fin (by simp [bg]) (by simp only [bg,du];omega) (by simp) (by simp only [Option.some.injEq,bg];rintro m rfl;exact⟨c0,c1⟩) with⟨g1,g2,g3⟩|⟨bb,cap,zL,g1,g2,g3,g4,_⟩
        · refine⟨⟨rfl,rfl,rfl⟩,_,g3,?_⟩
          simp only [aa]
          subst g2
          exact .inl ⟨by simp,none,0,rfl,by simp⟩
        · refine⟨⟨rfl,rfl,rfl⟩,_,g3,?_⟩
          simp only [aa,bg,du] at g4 ⊢
          by_cases hz:l.length-x.toNat=0
          · exact .inl ⟨hz,zL,_,by rw [hz],by omega⟩
          · exact .inr ⟨bb,_,cap,cap-x.toNat,g1,by rw [g4 (by omega)],by omega,by omega,by omega⟩
      · rename_i x b
        simp only [Option.some.injEq] at h;subst h
        obtain⟨c0,c1,c2⟩:=dK hc
        rcases fin (by simp only [bg];omega) (by simp only [bg,du];omega) (by simp only [Option.some.injEq];rintro m rfl;exact⟨by omega,c2⟩) (by simp only [Option.some.injEq,bg];rintro m rfl;omega) with⟨g1,g2,g3⟩|⟨bb,cap,zL,g1,g2,g3,g4,_⟩
        · refine⟨⟨rfl,rfl,rfl⟩,_,g3,?_⟩
          simp only [aa]
          subst g2
          exact .inl ⟨by simp at c2;omega,none,0,rfl,by simp⟩
        · refine⟨⟨rfl,rfl,rfl⟩,_,g3,?_⟩
          simp only [aa,bg,du] at g4 ⊢
          by_cases hz:b.toNat-x.toNat=0
          · exact .inl ⟨hz,zL,_,by rw [hz],by omega⟩
          · exact .inr ⟨bb,_,cap,cap-x.toNat,g1,by rw [g4 (by omega)],by omega,by omega,by omega⟩
   · cases h
 · cases h
end
end Go.Vg

end
section
namespace Go.Vg
open Go
section
variable {P:Program} {C:Ctx} {A:Nat→Prop} {β:Nat→Value} {st:St} {a:Act} {w:World} {T:bT}
theorem IV:∀(t:Ty) (v:Value) (x:D t),Rd w A t v x→v.oneCell'=true
 | .int _,v,x,h=>by simp only [Rd] at h;rw [h.1];rfl
 | .bool,v,x,h=>by simp only [Rd] at h;rw [h];rfl
 | .str,v,x,h=>by simp only [Rd] at h;rw [h.1];rfl
 | .slice _,v,x,h=>by simp only [Rd] at h;obtain⟨_,_,_,h1,_⟩:=h;rw [h1];rfl
theorem tA:∀(ts:List Ty) (vs:List Value) (x:Row ts),bh w A ts vs x→∀v∈vs,v.oneCell'=true
 | [],vs,_,h=>by simp only [bh] at h;subst h;simp
 |t::ts,vs,x,h=>by
  simp only [bh] at h
  obtain⟨v,bG,rfl,h1,h2⟩:=h
  intro u hu
  rcases List.mem_cons.1 hu with rfl|hu
  · exact IV t _ _ h1
  · exact tA ts bG _ h2 u hu
theorem tB {row:List Ty}:∀(l:List (Row row)) (cs:List Value),bX (bh w A row) cs l→∀v∈cs,v.oneCell'=true
 | [],cs,h=>by simp only [bX] at h;subst h;simp
 |x::l,cs,⟨c1,c2,hc,h1,h2⟩=>by
  subst hc
  intro u hu
  rcases List.mem_append.1 hu with hu|hu
  · exact tA row c1 x h1 u hu
  · exact tB l c2 h2 u hu
theorem hY {r r':List Ty} {l:List (Row r)} {l':List (Row r')}(h:eH r r' l=some l'):∃e:r=r',e▸l=l':=by
 unfold eH at h
 split at h
 · rename_i hb
   simp only [Option.some.injEq] at h
   exact⟨Ty.ji r r' hb,h⟩
 · cases h
structure Src (P:Program) (w:World) (A:Nat→Prop) (row:List Ty) (m:List (Row row)) (v:Value) (cs:List Value):Prop where
 rd:bX (bh w A row) cs m
 len:(Builtin.lenOf v).run P w= .ok m.length w
 first :∀w':World,w'.heap=w.heap→∀n,n≤m.length→(Builtin.firstCells row.length n v).run P w'= .ok (cs.take (n*row.length)).toArray w'
 max:m.length≤maxLen
theorem CT {w w':World}(h:w'.heap=w.heap)(p:Addr):w'.cell? p=w.cell? p:=by simp [World.cell?,h]
theorem mr {row:List Ty} {m:List (Row row)} {cs:List Value} {ad:Option Addr} {cap:Nat}(qF:bX (bh w A row) cs m)(c8:cs≠ []→∃b o,ad=some ⟨b,o,none⟩∧w.rangeAt b o cs)(KA:m.length≤maxLen):
  Src P w A row m (.slice ad m.length cap) cs:=by
 refine⟨qF,by simp [Builtin.lenOf],fun w' hw n hn=> ?_,KA⟩
 have hlen:=eE m cs qF
 by_cases h0:cs= []
 · subst h0
   simp only [List.length_nil] at hlen
   have hz:n*row.length=0:=by
    rcases Nat.eq_zero_or_pos n with h|h
    · simp [h]
    · have :m.length*row.length=0:=hlen.symm
      rcases Nat.mul_eq_zero.1 this with h'|h'
      · omega
      · simp [h']
   cases ad with
   |none=>simp [Builtin.firstCells]
   |some p=>simp [Builtin.firstCells,hz,loadCells,loadCellsFrom]
 · obtain⟨b,o,rfl,hr⟩:=c8 h0
   have eD:(cs.take (n*row.length)).length=n*row.length:=by
    rw [List.length_take,hlen]
    exact Nat.min_eq_left (Nat.mul_le_mul_right _ hn)
   have :=run_loadCells_list (P:=P) w' ⟨b,o,none⟩ (cs.take (n*row.length)) (fun j v hv=>by
    rw [Addr.add_mid,CT hw]
    exact gN hr j v hv)
   rw [eD] at this
   simp only [Builtin.firstCells,this]
theorem CU {row:List Ty}:Src P w A row ([]:List (Row row)) (.slice none 0 0) []:=
 mr (m:=([]:List (Row row))) (by simp [bX]) (fun h=>absurd rfl h) (by simp)
theorem IW {row:List Ty} {l:List (Row row)} {v:Value}(h:Rd w A (.slice row) v l):∃cs,Src P w A row l v cs:=by
 simp only [Rd] at h
 obtain⟨ad,cap,cs,rfl,h2,h3,h4,h5⟩:=h
 exact⟨cs,mr h4 (fun dJ=>let⟨b,o,h1,_,h2⟩:=h5 dJ;⟨b,o,h1,h2⟩) (by omega)⟩
theorem CV(s:List UInt8):bX (bh w A [.int .u8]) (s.map fun b=>Value.int .u8 (b.toNat:Int)) s:=by
 induction s with
 |nil=>simp [bX]
 |cons b s ih=>
  refine⟨[.int .u8 (b.toNat:Int)],s.map fun b=>Value.int .u8 (b.toNat:Int),rfl,?_,ih⟩
  simp only [bh,Rd]
  refine⟨_,[],rfl,⟨rfl,?_,?_⟩,rfl⟩
  · simp [lo,Row.hd,DI.toInt]
  · have :=b.toNat_lt
    simp only [hi,Row.hd,DI.toInt];omega
theorem Vm(s:List UInt8)(hs:s.length≤maxLen):Src P w A [.int .u8] s (.string ⟨s.toArray⟩) (s.map fun b=>Value.int .u8 (b.toNat:Int)):=by
 refine⟨CV s,by simp [Builtin.lenOf,rf],fun w' hw n hn=> ?_,hs⟩
 simp only [Builtin.firstCells,List.length_singleton,Nat.mul_one,Sem.run_pure]
 congr 1
 rw [yk s 0 n hn]
 apply Array.ext'
 simp [List.map_take]
theorem kS {k e:Nat} {row:List Ty} {l:List (Row row)} {fr:Bool}(hB:aD C A β st a w)(h:st.h k=some (.row e row l fr)):
  (β k= .slice none 0 0∧l= [])∨∃b cap cs,β k= .slice (some ⟨b,0,none⟩) l.length cap∧l.length≤cap∧cap≤maxLen∧bX (bh w A row) cs l∧w.rangeAt b 0 cs:=by
 rcases eu hB h with h|⟨b,cap,cur,h1,h2,h3,h4,h5,h6,_⟩
 · exact .inl h
 · refine .inr ⟨b,cap,_,h1,h3,h4,h6,fun j v hj=> ?_⟩
   rw [List.getElem?_take] at hj
   split at hj
   · simp [World.cell?,h2];simpa using hj
   · cases hj
theorem Ci(hB:aD C A β st a w) {x:AV} {v:Value}(hx:aa w A β v x) {row:List Ty} {m:List (Row row)}(h:j3 st.h row x=some m):∃cs,Src P w A row m v cs:=by
 unfold j3 at h
 split at h
 · rename_i s
   obtain⟨e,h⟩:=hY h
   subst e
   simp only at h;subst h
   simp only [aa] at hx
   obtain⟨rfl,hs⟩:=hx
   exact⟨_,Vm s hs⟩
 · simp only [Option.some.injEq] at h
   subst h
   simp only [aa] at hx;subst hx
   exact⟨[],CU⟩
 · rename_i h1 h2
   have key:∀r (l:List (Row r)),(fq st.h x).1= .sl r l→eH r row l=some m→∃cs,Src P w A row m v cs:=by
    intro r l hp hc
    obtain⟨e,hc⟩:=hY hc
    subst e
    simp only at hc;subst hc
    unfold fq at hp
    split at hp
    · rename_i k
      simp only [aa] at hx
      split at hp
      · rename_i e' iw l' fr hk
        simp only [AV.sl.injEq] at hp
        obtain⟨rfl,hp⟩:=hp
        simp only [heq_eq_eq] at hp;subst hp
        rcases kS hB hk with⟨g1,g2⟩|⟨b,cap,cs,g1,g2,g3,g4,g5⟩
        · subst g2;rw [hx.1,g1];exact⟨[],CU⟩
        · rw [hx.1,g1];exact⟨cs,mr g4 (fun _=>⟨b,0,rfl,g5⟩) (by omega)⟩
      · cases hp
    · rename_i k n
      simp only [aa] at hx
      split at hp
      · rename_i e' iw l' fr hk
        simp only [AV.sl.injEq] at hp
        obtain⟨rfl,hp⟩:=hp
        simp only [heq_eq_eq] at hp;subst hp
        rcases kS hB hk with⟨g1,g2⟩|⟨b,cap,cs,g1,g2,g3,g4,g5⟩
        · subst g2
          rcases hx with⟨_,hv,hn⟩|⟨b,m,cap,hv,_⟩
          · subst hn;rw [hv];exact⟨[],by have :=CU (P:=P) (w:=w) (A:=A) (row:=iw);simpa using this⟩
          · rw [g1] at hv;cases hv
        · rcases hx with⟨hv,_,_⟩|⟨b',m,hX,hv,xe,hle⟩
          · rw [g1] at hv;cases hv
          · rw [g1] at hv
            simp only [Value.slice.injEq,Option.some.injEq,Addr.mk.injEq,and_true] at hv
            obtain⟨rfl,rfl,rfl⟩:=hv
            have hl:(l'.take n).length=n:=by simp;omega
            rw [xe]
            have :=mr (P:=P) (ad:=some ⟨b,0,none⟩) (cap:=cap) (dV l' cs n g4).1 (fun _=>⟨b,0,rfl,gN g5⟩) (by omega)
            rw [hl] at this
            exact⟨_,this⟩
      · cases hp
    · rename_i k sz off n
      simp only [aa] at hx
      split at hp
      · rename_i e' iw l' fr hk
        cases cR:Nat.beq sz iw.length with
        |false=>simp [cR] at hp
        |true=>
         have cR:=Nat.eq_of_beq_eq_true cR
         subst cR
         simp only [bC,cond_true,AV.sl.injEq] at hp
         obtain⟨rfl,hp⟩:=hp
         simp only [heq_eq_eq] at hp;subst hp
         rcases hx with⟨hn,ad,cap,hv,_⟩|⟨b',m,hX,tv,hv,xe,hle,amc,ao1⟩
         · subst hn;rw [hv]
           have :=mr (P:=P) (w:=w) (A:=A) (row:=iw) (m:= []) (ad:=ad) (cap:=cap) (cs:= []) (by simp [bX]) (fun h=>absurd rfl h) (by simp)
           exact⟨[],by simpa using this⟩
         · rcases kS hB hk with⟨g1,g2⟩|⟨b,cap,cs,g1,g2,g3,g4,g5⟩
           · rw [g1] at hv;cases hv
           · rw [g1] at hv
             simp only [Value.slice.injEq,Option.some.injEq,Addr.mk.injEq,and_true] at hv
             obtain⟨rfl,rfl,rfl⟩:=hv
             have hl:((l'.drop off).take n).length=n:=by simp;omega
             rw [xe]
             have :=mr (P:=P) (ad:=some ⟨b,off*iw.length,none⟩) (cap:=tv) (dV _ _ n (dV l' cs off g4).2).1 (fun _=>⟨b,_,rfl,by have :=gN (n:=n*iw.length) (mS (n:=off*iw.length) g5);simpa using this⟩) (by omega)
             rw [hl] at this
             exact⟨_,this⟩
      · cases hp
    · rename_i TJ hn2 hn3
      simp only at hp
      subst hp
      simp only [aa] at hx
      exact IW hx
   split at h
   · rename_i r l hp
     exact key r l hp h
   · rename_i r l hp
     have jK:x= .full r l:=by
      unfold fq at hp
      split at hp
      · split at hp<;>cases hp
      · split at hp<;>cases hp
      · split at hp
        · rename_i sz _ _ _ _ iw _ _ _
          cases cR:Nat.beq sz iw.length<;>simp [cR] at hp
        · cases hp
      · exact hp
     subst jK
     simp only [aa] at hx
     obtain⟨e,hc⟩:=hY h
     subst e
     simp only at hc;subst hc
     exact IW hx.1
   · cases h
end
end Go.Vg

end
section
namespace Go.Vg
open Go
section
variable {P:Program} {C:Ctx} {A:Nat→Prop} {β:Nat→Value} {st:St} {a:Act} {w:World} {T:bT}
structure PG (P:Program) (t t' e:TypeId) (size bytes:Nat) (z:Value):Prop where
 under:P.underlying t=some (.slice e)
 aoQ:∃d,P.underlying t'=some d∧(d= .string∨∃e',d= .slice e')
 info:∃i,P.info? e=some i∧i.size=size∧i.bytes=bytes∧i.zero=some z
 Vn:z.cells.size=size
 pos:0<size
theorem lx {t t' ty e:TypeId} {size bytes:Nat} {z:Value}(hE:PG P t t' e size bytes z) {base:Option Addr} {n cap:Nat} {aew:List Value} {x:Value} {m:Nat} {news:List Value}
  (hold:∀w':World,w'.heap=w.heap→(Builtin.firstCells size n (.slice base n cap)).run P w'= .ok aew.toArray w')
  (hlen:(Builtin.lenOf x).run P w= .ok m w) (gy:∀w':World,w'.heap=w.heap→(Builtin.firstCells size m x).run P w'= .ok news.toArray w')
  (hg:cap<n+m) (KC:n+m≤maxLen) (vr:(n+m)*bytes≤140737488355328):
  (Builtin.append_ #[t,t'] ty #[.slice base n cap,x]).run P w=
    .ok (.slice (some ⟨w.heap.size,0,none⟩) (n+m) (grownCap w (n+m) cap e))
      (w.drew.alloc (.cells (aew.toArray++(news.toArray++Builtin.zeroCells z.cells (grownCap w (n+m) cap e-(n+m)))) e)):=by
 obtain⟨hu,⟨d',zN,CW⟩,⟨i,hi,hs,hb,hz⟩,Gh,iy⟩:=hE
 subst hs;subst hb
 have hn:¬(n+m≤cap):=by omega
 have aex:¬(9223372036854775807<((n:Int)+(m:Int))):=by unfold maxLen at KC;omega
 have Ŏ:=growslice_fits hg vr
 have aey:¬(281474976710656<Builtin.nextslicecap (n+m) cap*i.bytes):=by omega
 have Vj:=hold w.drew rfl
 have hf:=gy w.drew rfl
 rcases CW with rfl|⟨e',rfl⟩
 · simp [Builtin.append_,run_underlying hu,run_underlying zN,sizeOf,typeInfo,zeroValue,hi,hz,hlen,hn,aex,aey,Question.forced,hf,Vj,newRow,grownCap]
 · simp [Builtin.append_,run_underlying hu,run_underlying zN,sizeOf,typeInfo,zeroValue,hi,hz,hlen,hn,aex,aey,Question.forced,hf,Vj,newRow,grownCap]
theorem ym {t t' ty e:TypeId} {size bytes:Nat} {z:Value}(hE:PG P t t' e size bytes z) {g n cap:Nat} {cur:Array Value}(hg:w.heap[g]? =some (.cells cur e (0,0))) {x:Value} {m:Nat} {news:List Value}
  (hlen:(Builtin.lenOf x).run P w= .ok m w) (gy:∀w':World,w'.heap=w.heap→(Builtin.firstCells size m x).run P w'= .ok news.toArray w')
  (hl:news.length=m*size) (h1:∀u∈news,u.oneCell'=true) (tC:n+m≤cap) (c8:cur.size=cap*size):
  (Builtin.append_ #[t,t'] ty #[.slice (some ⟨g,0,none⟩) n cap,x]).run P w=
    .ok (.slice (some ⟨g,0,none⟩) (n+m) cap) (w.setRow g (cur.toList.take (n*size)++news++cur.toList.drop (n*size+news.length)).toArray):=by
 obtain⟨hu,⟨d',zN,CW⟩,⟨i,hi,hs,hb,hz⟩,Gh,iy⟩:=hE
 subst hs;subst hb
 have oP:n*i.size+news.length≤cur.size:=by rw [hl,c8,←Nat.add_mul];exact Nat.mul_le_mul_right _ tC
 have kn:=run_storeCells_at P g (n*i.size) e news 0 cur w hg (by simpa using oP) h1
 simp only [Nat.add_zero] at kn
 have hf:=gy w rfl
 rcases CW with rfl|⟨e',rfl⟩
 · simp [Builtin.append_,run_underlying hu,run_underlying zN,sizeOf,typeInfo,hi,hlen,tC,hf,Addr.add_lit,kn]
 · simp [Builtin.append_,run_underlying hu,run_underlying zN,sizeOf,typeInfo,hi,hlen,tC,hf,Addr.add_lit,kn]
theorem mu {t t' ty e:TypeId} {size bytes:Nat} {z:Value}(hE:PG P t t' e size bytes z) {v:Value} {n:Nat} {xs:List Value}(fM:w.ownsRow 0 e size v n xs) {x:Value} {m:Nat} {news:List Value}
  (hlen:(Builtin.lenOf x).run P w= .ok m w) (gy:∀w':World,w'.heap=w.heap→(Builtin.firstCells size m x).run P w'= .ok news.toArray w')
  (hl:news.length=m*size) (h1:∀u∈news,u.oneCell'=true) (KC:n+m≤maxLen) (vr:(n+m)*bytes≤140737488355328):
  ∃v' w',(Builtin.append_ #[t,t'] ty #[v,x]).run P w= .ok v' w'∧w'.ownsRow 0 e size v' (n+m) (xs++news)∧w.grownBy w' v.ownBlock∧∀b,aw v'=some b→aw v=some b∨w.heap.size≤b:=by
 have IX:(xs++news).length=(n+m)*size:=by rw [List.length_append,fM.1,hl,Nat.add_mul]
 have grown:∀(kg:Nat) (row:Option Nat),
   (w.drew.alloc (.cells (xs.toArray++(news.toArray++Builtin.zeroCells z.cells (grownCap w (n+m) kg e-(n+m)))) e)).ownsRow 0 e size
     (.slice (some ⟨w.heap.size,0,none⟩) (n+m) (grownCap w (n+m) kg e)) (n+m) (xs++news)∧
   w.grownBy (w.drew.alloc (.cells (xs.toArray++(news.toArray++Builtin.zeroCells z.cells (grownCap w (n+m) kg e-(n+m)))) e)) row:=by
  intro kg row
  have BT:=grownCap_ge w (n+m) kg e
  have zO:grownCap w (n+m) kg e≤maxLen:=grownCap_le_maxLen w (n+m) kg e KC
  refine⟨⟨IX, .inr ⟨w.heap.size,_,_,rfl,by omega,heap_alloc_new w.drew _,BT,zO,?_,?_⟩⟩,⟨rfl,rfl,rfl,by simp,fun k hk _=>heap_alloc_old w.drew _ k hk⟩⟩
  · simp only [Array.size_append,List.size_toArray,size_zeroCells,hE.Vn,fM.1,hl,←Nat.add_mul]
    congr 1
    omega
  · simp only [Array.toList_append]
    rw [←List.append_assoc,←IX]
    exact List.take_left
 rcases fM.2 with⟨rfl,rfl⟩|⟨g,cap,cur,rfl,hbg,hg,hnc,zO,c8,af4⟩
 · have hx:xs= []:=List.eq_nil_of_length_eq_zero (by simpa using fM.1)
   subst hx
   by_cases hm:m=0
   · subst hm
     have hn:news= []:=List.eq_nil_of_length_eq_zero (by simpa using hl)
     subst hn
     refine⟨.slice none 0 0,w,?_,by simpa using World.ownsRow_nil w 0 e size,⟨rfl,rfl,rfl,Nat.le_refl _,fun _ _ _=>rfl⟩,by simp [aw]⟩
     obtain⟨hu,⟨d',zN,CW⟩,⟨i,hi,hs,hb,hz⟩,Gh,iy⟩:=hE
     subst hs
     have hf:=gy w rfl
     rcases CW with rfl|⟨e',rfl⟩
     · simp [Builtin.append_,run_underlying hu,run_underlying zN,sizeOf,typeInfo,hi,hlen,hf]
     · simp [Builtin.append_,run_underlying hu,run_underlying zN,sizeOf,typeInfo,hi,hlen,hf]
   · have hold:∀w':World,w'.heap=w.heap→(Builtin.firstCells size 0 (.slice none 0 0)).run P w'= .ok ([]:List Value).toArray w':=fun w' _=>by simp [Builtin.firstCells]
     have hr:=lx (ty:=ty) hE hold hlen gy (by omega) KC vr
     have Vo:=grown 0 (Value.ownBlock (.slice none 0 0))
     exact⟨_,_,hr,Vo.1,Vo.2,fun b hb=> .inr (by simp only [aw,Option.some.injEq] at hb;omega)⟩
 · by_cases tC:n+m≤cap
   · have oP:n*size+news.length≤cur.size:=by rw [hl,c8,←Nat.add_mul];exact Nat.mul_le_mul_right _ tC
     have hr:=ym (ty:=ty) hE hg hlen gy hl h1 tC c8
     refine⟨_,_,hr,⟨IX, .inr ⟨g,cap,_,rfl,hbg,setRow_heap w g cur _ e _ hg,tC,zO,?_,?_⟩⟩,⟨rfl,rfl,rfl,by simp,fun k _ hk=>setRow_other w g k _ (fun e=>hk (by simp [Value.ownBlock,e]))⟩,fun b hb=> .inl hb⟩
     · simp only [List.size_toArray,List.length_append,List.length_take,List.length_drop,Array.length_toList]
       omega
     · rw [af4,←IX]
       exact List.take_left
   · have holds:=fM.cells (g:=g) rfl
     have hold:∀w':World,w'.heap=w.heap→(Builtin.firstCells size n (.slice (some ⟨g,0,none⟩) n cap)).run P w'= .ok xs.toArray w':=fun w' Vp=>by
      have :=run_loadCells_list (P:=P) w' ⟨g,0,none⟩ xs (fun j v hv=>by rw [CT Vp];exact holds j v hv)
      rw [fM.1] at this
      simpa [Builtin.firstCells] using this
     have hr:=lx (ty:=ty) hE hold hlen gy (by omega) KC vr
     have Vo:=grown cap (Value.ownBlock (.slice (some ⟨g,0,none⟩) n cap))
     exact⟨_,_,hr,Vo.1,Vo.2,fun b hb=> .inr (by simp only [aw,Option.some.injEq] at hb;omega)⟩
theorem aD.newRow(hB:aD C A β st a w) {dst:Option Nat}(hd:∀t,dst=some t→t<st.n) {d e:Nat} {row:List Ty} {l:List (Row row)} {cond:List Prop} {del:List Nat} {v':Value} {w':World} {rw :Option Nat} {xs:List Value}
  (fA:st.h d=none∧n3 d=false) (hg:w.grownBy w' rw) (jZ:∀b,rw=some b→∃k,aE del k=true∧(st.h k).isSome∧aw (β k)=some b) (jg:∀b,rw=some b→¬A b)
  (fM:w'.ownsRow 0 e row.length v' l.length xs) (qF:bX (bh w A row) xs l) (hblk:∀b,aw v'=some b→rw=some b∨w.heap.size≤b):
  aD C A (bD β d v') (st.put dst {cond:=cond,res:= .own d,del:=del,new:= [(d, .row e row l false)]}) (a.put dst v') w':=by
 have hK:cL w w' A A:=fun b hb=>⟨hb,hg.block b (hB.bound b hb) (fun h=>jg b h.symm hb)⟩
 have hf:∀k b,aq [(d,AB.row e row l false)] k=some b→k=d∧b= .row e row l false :=by
  intro k b h
  simp only [aq] at h
  by_cases hk:k=d
  · subst hk;simp only [bC,cond_true,Option.some.injEq] at h;exact⟨rfl,h.symm⟩
  · simp [aO hk] at h
 refine hB.step (out:= {cond:=cond,res:= .own d,del:=del,new:= [(d, .row e row l false)]}) hd ?_ (by simp [aq]) ?_ hK hg.os hg.tape hg.output hg.size ?_ (fun b hb=>Nat.lt_of_lt_of_le (hB.bound b hb) hg.size) (fun b hb=> .inl hb) (by simp [aq]) ?_ ?_ ?_ ?_
 · intro k b h;obtain⟨rfl,_⟩:=hf k b h;exact fA
 · intro k h
   have :k≠d:=by rintro rfl;simp [aq] at h
   simp [bD,this]
 · intro b hb ht
   refine hg.block b hb (fun h=> ?_)
   obtain⟨k,h1,h2,h3⟩:=jZ b h.symm
   exact ht k ⟨h2, .inr h1⟩ h3
 · intro k ab h
   obtain⟨rfl,rfl⟩:=hf k ab h
   refine⟨xs,by simpa [bD] using fM,bA (fun c x hx=>bB hK row c x hx) l xs qF,fun b hb=> ?_⟩
   simp only [bD,if_true] at hb
   simp only [Bool.false_eq_true,if_false]
   rcases hblk b hb with h|h
   · exact jg b h
   · intro hA;exact absurd (hB.bound b hA) (by omega)
 · intro k b ab h hb
   obtain⟨rfl,_⟩:=hf k ab h
   simp only [bD,if_true] at hb
   rcases hblk b hb with h|h
   · exact .inr (let⟨k,h1,h2,h3⟩:=jZ b h;⟨k,h1,h2,h3⟩)
   · exact .inl h
 · intro k k' b h h' _ _
   obtain⟨x,hx⟩:=Option.isSome_iff_exists.1 h
   obtain⟨y,hy⟩:=Option.isSome_iff_exists.1 h'
   rw [(hf k x hx).1,(hf k' y hy).1]
 · simp only [aa,bD,if_true,true_and]
   obtain⟨ad,l',c,rfl⟩:∃ad l c,v'= .slice ad l c:=by
    rcases fM.2 with⟨rfl,_⟩|⟨g,cap,cur,rfl,_⟩
    · exact⟨_,_,_,rfl⟩
    · exact⟨_,_,_,rfl⟩
   rfl
end
end Go.Vg

end
section
namespace Go.Vg
open Go
section
variable {P:Program} {C:Ctx} {A:Nat→Prop} {β:Nat→Value} {st:St} {a:Act} {w:World} {T:bT}
theorem yn(hT:bt T P) {t e:TypeId} {te:TE}(h1:vo T t=some e)(h2:pT T t=some te):P.underlying t=some (.slice e)∧T.find e=some te∧∃i,P.info? e=some i∧i.size=te.size∧i.bytes=te.bytes∧i.zero=some te.zero:=by
 unfold vo at h1
 unfold pT at h2
 cases ht:T.find t with
 |none=>simp [ht] at h1
 |some tt=>
  simp only [ht] at h1 h2
  cases hd:tt.desc with
  |slice e'=>
   simp only [hd,Option.some.injEq] at h1 h2
   subst h1
   exact⟨by rw [jm hT ht,hd],h2,(hT.ok _ _ h2).2⟩
  |_=>simp [hd] at h1
theorem tD(z:Value):(ofConst z).cells.length=z.cells.size:=by
 unfold ofConst
 split
 · simp [AV.cells,Value.cells]
 · rename_i h
   have h1:(rL z).cells.length=1:=by
    unfold rL
    split
    · split<;>rfl
    · split<;>rfl
    · rename_i s;cases Nat.ble s.data.toList.length 1000000<;>rfl
    all_goals rfl
   rw [h1]
   cases z<;>first|rfl|exact absurd rfl (h _)
theorem rW {n k x:Nat}(h:n≤x/k):n*k≤x:=Nat.le_trans (Nat.mul_le_mul_right _ h) (Nat.div_mul_le_self x k)
theorem oQ(hT:bt T P) {t:TypeId} {f:TypeDesc→Bool}(h:dn T t f=true):∃d,P.underlying t=some d∧f d=true :=by
 unfold dn at h
 cases ht:T.find t with
 |none=>simp [ht] at h
 |some te=>simp only [ht] at h;exact⟨te.desc,jm hT ht,h⟩
theorem Nc {d:TypeDesc}(h:Cg d=true):d= .string∨∃e,d= .slice e:=by
 cases d<;>simp_all [Cg]
theorem CX(hB:aD C A β st a w) {k e:Nat} {row:List Ty} {l:List (Row row)}(h:st.h k=some (.row e row l false)):
  ∃xs,w.ownsRow 0 e row.length (β k) l.length xs∧bX (bh w A row) xs l∧∀b,aw (β k)=some b→¬A b:=by
 obtain⟨xs,h1,h2,h3⟩:=hB.blocks k _ h
 exact⟨xs,h1,h2,fun b hb=>by simpa using h3 b hb⟩
theorem yo {v:Value}(h:(∃ad l c,v= .slice ad l c)):v.ownBlock=aw v:=by
 obtain⟨ad,l,c,rfl⟩:=h
 cases ad<;>rfl
theorem oR {w:World} {e size n:Nat} {v:Value} {xs:List Value}(h:w.ownsRow 0 e size v n xs):∃ad l c,v= .slice ad l c:=by
 rcases h.2 with⟨rfl,_⟩|⟨g,cap,cur,rfl,_⟩
 · exact⟨_,_,_,rfl⟩
 · exact⟨_,_,_,rfl⟩
theorem Gi(hT:bt T P)(hB:aD C A β st a w) {dst:Option Nat}(hd:∀t,dst=some t→t<st.n) {d:Nat}(fA:st.h d=none∧n3 d=false) {t t' ty:TypeId} {s x:AV} {vs vx:Value}(hs:aa w A β vs s)(hx:aa w A β vx x) {out:Out}
  (h:ml T st.h d t t' s x=some out) (hc:∀p∈out.cond,p):∃v' w',(Builtin.append_ #[t,t'] ty #[vs,vx]).run P w= .ok v' w'∧Rel C (st.put dst out) (a.put dst v') w':=by
 unfold ml at h
 split at h
 · rename_i e te he j5
   split at h
   · rename_i row jZ
     obtain⟨hu,IY,i,hi,nW,KD,Nd⟩:=yn hT he j5
     cases hq:(Nat.beq row.length te.size&&Nat.blt 0 te.size&&Nat.beq (ofConst te.zero).cells.length te.size&&dn T t' Cg) with
     |false=>simp [hq] at h
     |true=>
      simp only [hq,cond_true] at h
      simp only [Bool.and_eq_true] at hq
      obtain⟨⟨⟨q1,q2⟩,q3⟩,q4⟩:=hq
      have q1:=Nat.eq_of_beq_eq_true q1
      have q2:=Nat.le_of_ble_eq_true q2
      have q3:=Nat.eq_of_beq_eq_true q3
      obtain⟨d',zN,CW⟩:=oQ hT q4
      have hE:PG P t t' e row.length te.bytes te.zero:=⟨hu,⟨d',zN,Nc CW⟩,⟨i,hi,by omega,KD,Nd⟩,by rw [←tD];omega,by omega⟩
      split at h
      · rename_i m hm
        obtain⟨cs,eZ⟩:=Ci (P:=P) hB hx hm
        have hlen:=eE m cs eZ.rd
        have gR:=tB m cs eZ.rd
        have gy:∀w':World,w'.heap=w.heap→(Builtin.firstCells row.length m.length vx).run P w'= .ok cs.toArray w':=fun w' Vp=>by
         have :=eZ.first w' Vp m.length (Nat.le_refl _)
         rwa [←hlen,List.take_length] at this
        split at h
        ·
         simp only [Option.some.injEq] at h;subst h
         have mv:=dK hc
         simp only [aa] at hs;subst hs
         have fM:=World.ownsRow_nil w 0 e row.length
         obtain⟨v',w',g1,g2,g3,g4⟩:=mu (ty:=ty) hE fM eZ.len gy hlen gR (by have :=Nat.le_trans mv (Nat.div_le_self _ _);unfold maxLen;omega) (by simpa using rW mv)
         refine⟨v',w',g1,Rel.j4 (hB.newRow hd fA (rw :=none) (by simpa [Value.ownBlock] using g3) (by simp) (by simp) (by simpa using g2) eZ.rd (fun b hb=> ?_))⟩
         rcases g4 b hb with h|h
         · simp [aw] at h
         · exact .inr h
        · rename_i k
          split at h
          · rename_i e' iw l hk
            cases oO:Nat.beq e' e with
            |false=>simp [oO] at h
            |true=>
             have oO:=Nat.eq_of_beq_eq_true oO
             subst oO
             simp only [bC,cond_true] at h
             split at h
             · rename_i l' iI
               simp only [Option.some.injEq] at h;subst h
               have mv:=dK hc
               obtain⟨er,iI⟩:=hY iI
               subst er
               simp only at iI;subst iI
               simp only [aa] at hs;obtain⟨rfl,_⟩:=hs
               obtain⟨xs,o1,o2,o3⟩:=CX hB hk
               obtain⟨v',w',g1,g2,g3,g4⟩:=mu (ty:=ty) hE o1 eZ.len gy hlen gR (by have :=Nat.le_trans mv (Nat.div_le_self _ _);unfold maxLen;omega) (rW mv)
               rw [yo (oR o1)] at g3
               refine⟨v',w',g1,Rel.j4 (hB.newRow hd fA (rw :=aw (β k)) g3 (fun b hb=>⟨k,by simp [aE],by simp [hk],hb⟩) o3 (by simpa using g2) (gx l m xs cs o2 eZ.rd) (fun b hb=>g4 b hb))⟩
             · cases h
          · cases h
        · rename_i k n
          split at h
          · rename_i e' iw l hk
            cases oO:Nat.beq e' e with
            |false=>simp [oO] at h
            |true=>
             have oO:=Nat.eq_of_beq_eq_true oO
             subst oO
             simp only [bC,cond_true] at h
             split at h
             · rename_i l' iI
               simp only [Option.some.injEq] at h;subst h
               have mv:=dK hc
               obtain⟨er,iI⟩:=hY iI
               subst er
               simp only at iI;subst iI
               obtain⟨xs,o1,o2,o3⟩:=CX hB hk
               have CY:=dV l xs n o2
               simp only [aa] at hs
               have fM:w.ownsRow 0 e' iw.length vs n (xs.take (n*iw.length))∧n≤l.length∧aw vs=aw (β k):=by
                rcases hs with⟨h1,h2,h3⟩|⟨b,mm,cap,h1,h2,h3⟩
                · subst h3;subst h2;rw [h1]
                  exact⟨by simpa using World.ownsRow_nil w 0 e' iw.length,by omega,rfl⟩
                · rcases o1.2 with⟨g1,_⟩|⟨g,hX,cur,g1,g2,g3,g4,g5,g6,g7⟩
                  · rw [h1] at g1;cases g1
                  · rw [h1] at g1
                    simp only [Value.slice.injEq,Option.some.injEq,Addr.mk.injEq,and_true] at g1
                    obtain⟨rfl,rfl,rfl⟩:=g1
                    refine⟨⟨?_, .inr ⟨b,cap,cur,h2,by omega,g3,by omega,g5,g6,?_⟩⟩,h3,by rw [h1,h2];rfl⟩
                    · rw [List.length_take,o1.1]
                      exact Nat.min_eq_left (Nat.mul_le_mul_right _ h3)
                    · rw [←g7,List.take_take,Nat.min_eq_left (Nat.mul_le_mul_right _ h3)]
               obtain⟨fM,Vq,Vr⟩:=fM
               obtain⟨v',w',g1,g2,g3,g4⟩:=mu (ty:=ty) hE fM eZ.len gy hlen gR (by have :=Nat.le_trans mv (Nat.div_le_self _ _);unfold maxLen;omega) (rW mv)
               rw [yo (oR fM),Vr] at g3
               refine⟨v',w',g1,Rel.j4 (hB.newRow hd fA (rw :=aw (β k)) g3 (fun b hb=>⟨k,by simp [aE],by simp [hk],hb⟩) o3 ?_ (gx _ m _ cs CY.1 eZ.rd) (fun b hb=>by rw [←Vr];exact g4 b hb))⟩
               have :(l.take n++m).length=n+m.length:=by simp;omega
               rw [this];exact g2
             · cases h
          · cases h
        · rename_i r l
          split at h
          · rename_i l' iI
            simp only [Option.some.injEq] at h;subst h
            have hc0:=dK hc
            have mv:=aev hc
            obtain⟨er,iI⟩:=hY iI
            subst er
            simp only at iI;subst iI
            simp only [aa] at hs
            obtain⟨qF,ad,rfl⟩:=hs
            obtain⟨Nf,TN⟩:=IW (P:=P) qF
            have Ng:=eE l Nf TN.rd
            have hold:∀w':World,w'.heap=w.heap→(Builtin.firstCells r.length l.length (.slice ad l.length l.length)).run P w'= .ok Nf.toArray w':=fun w' Vp=>by
             have :=TN.first w' Vp l.length (Nat.le_refl _)
             rwa [←Ng,List.take_length] at this
            have KC:l.length+m.length≤maxLen:=by have :=Nat.le_trans mv (Nat.div_le_self _ _);unfold maxLen;omega
            have hr:=lx (ty:=ty) hE hold eZ.len gy (by omega) KC (rW mv)
            refine⟨_,_,hr,Rel.j4 (hB.newRow hd fA (rw :=none) (xs:=Nf++cs) ⟨rfl,rfl,rfl,by simp,fun k hk _=>heap_alloc_old w.drew _ k hk⟩ (by simp) (by simp) ?_ (gx l m Nf cs TN.rd eZ.rd) (fun b hb=> .inr (by simp only [aw,Option.some.injEq] at hb;omega)))⟩
            have BT:=grownCap_ge w (l.length+m.length) l.length e
            have zO:=grownCap_le_maxLen w (l.length+m.length) l.length e KC
            have KE:(Nf++cs).length=(l.length+m.length)*r.length:=by rw [List.length_append,Ng,hlen,Nat.add_mul]
            rw [List.length_append]
            refine⟨KE, .inr ⟨w.heap.size,_,_,rfl,by omega,heap_alloc_new w.drew _,BT,zO,?_,?_⟩⟩
            · simp only [Array.size_append,List.size_toArray,size_zeroCells,hE.Vn,Ng,hlen,←Nat.add_mul]
              congr 1
              omega
            · simp only [Array.toList_append]
              rw [←List.append_assoc,←KE]
              exact List.take_left
          · cases h
        · cases h
      · cases h
   · cases h
 · cases h
end
end Go.Vg

end
section
namespace Go.Vg
open Go
section
variable {P:Program} {C:Ctx} {A:Nat→Prop} {β:Nat→Value} {st:St} {a:Act} {w:World} {T:bT}
theorem one_cell {v:Value}:∀(x:AV),x.one=true→aa w A β v x→v.oneCell'=true
 | .cX,h,_=>by simp [AV.one] at h
 | .undef,h,_=>by simp [AV.one] at h
 | .agg _,h,_=>by simp [AV.one] at h
 | .cB _,h,_=>by simp [AV.one] at h
 | .int _ _,_,h=>by simp only [aa] at h;rw [h.1];rfl
 | .bool _,_,h=>by simp only [aa] at h;rw [h];rfl
 | .tt,_,h=>by simp only [aa] at h;rw [h];rfl
 | .ff,_,h=>by simp only [aa] at h;rw [h];rfl
 | .str _,_,h=>by simp only [aa] at h;rw [h.1];rfl
 | .nil,_,h=>by simp only [aa] at h;rw [h];rfl
 | .iX,_,h=>by simp only [aa] at h;rw [h];rfl
 | .nU _ _,_,h=>by simp only [aa] at h;obtain⟨b,h,_⟩:=h;rw [h];rfl
 | .jh,_,h=>by simp only [aa] at h;rw [h];rfl
 | .sl _ _,_,h=>by simp only [aa] at h;exact IV _ _ _ h
 | .full _ _,_,h=>by simp only [aa] at h;exact IV _ _ _ h.1
 | .fS _ _ _,_,h=>by simp only [aa] at h;obtain⟨b,o,cs,h,_⟩:=h;rw [h];rfl
 | .oK _ _,_,h=>by simp only [aa] at h;obtain⟨b,o,cs,h,_⟩:=h;rw [h];rfl
 | .own _,_,h=>by simp only [aa] at h;exact h.2
 | .pre _ _,_,h=>by
   simp only [aa] at h
   rcases h with⟨_,h,_⟩|⟨b,m,cap,_,h,_⟩<;>rw [h]<;>rfl
 | .view _ _ _ _,_,h=>by
   simp only [aa] at h
   rcases h with⟨_,ad,c,h,_⟩|⟨b,m,cap,hX,_,h,_⟩<;>rw [h]<;>rfl
 | .ref _ _,_,h=>by simp only [aa] at h;obtain⟨b,_,h⟩:=h;rw [h];rfl
 | .elem _ _ _ _,_,h=>by simp only [aa] at h;obtain⟨b,m,cap,_,h⟩:=h;rw [h];rfl
 | .fn _ _ _,_,h=>by simp only [aa] at h;obtain⟨_,_,h,_⟩:=h;rw [h];rfl
 | .fT _ _,_,h=>by simp only [aa] at h;obtain⟨_,_,_,h,_⟩:=h;rw [h];rfl
theorem cells_one {v:Value}(h:v.oneCell'=true):v.cells= #[v]:=by
 cases v<;>simp_all [Value.oneCell',Value.cells]
theorem KF:∀(xs:List AV) (vs:List Value),xs.all AV.one=true→ae w A β vs xs→∀v∈vs,v.oneCell'=true
 | [],vs,_,h=>by simp only [ae] at h;subst h;simp
 |x::xs,vs,ho,h=>by
  simp only [ae] at h
  obtain⟨v,bG,rfl,h1,h2⟩:=h
  simp only [List.all_cons,Bool.and_eq_true] at ho
  intro u hu
  rcases List.mem_cons.1 hu with rfl|hu
  · exact one_cell x ho.1 h1
  · exact KF xs bG ho.2 h2 u hu
theorem rX {x:AV} {v:Value}(ho:x.cells.all AV.one=true)(h:aa w A β v x):ae w A β v.cells.toList x.cells∧(∀u∈v.cells.toList,u.oneCell'=true)∧v.cells.size=x.cells.length:=by
 by_cases hx:∃cs,x= .agg cs
 · obtain⟨cs,rfl⟩:=hx
   simp only [aa] at h
   obtain⟨arr,rfl,h⟩:=h
   have :=cY cs _ h
   exact⟨h,KF cs _ ho h,by simpa [Value.cells,AV.cells] using this⟩
 · have hc:x.cells= [x]:=by cases x<;>first|rfl|exact absurd ⟨_,rfl⟩ hx
   rw [hc] at ho ⊢
   have ho':x.one=true :=by simpa using ho
   have h1:=one_cell x ho' h
   rw [cells_one h1]
   refine⟨by simp only [ae];exact⟨v,[],rfl,h,rfl⟩,by simpa using h1,rfl⟩
theorem dL:∀(xs ys:List AV) (us vs:List Value),ae w A β us xs→ae w A β vs ys→ae w A β (us++vs) (xs++ys)
 | [],ys,us,vs,h,h'=>by simp only [ae] at h;subst h;simpa using h'
 |x::xs,ys,us,vs,h,h'=>by
  simp only [ae] at h
  obtain⟨v,xd,rfl,h1,h2⟩:=h
  simp only [List.cons_append,ae]
  exact⟨v,xd++vs,rfl,h1,dL xs ys xd vs h2 h'⟩
theorem tE {cs vs:List AV} {arr us:List Value} {off:Nat}(h:ae w A β arr cs)(hv:ae w A β us vs):ae w A β (arr.take off++us++arr.drop (off+us.length)) (xT cs off vs):=by
 have hl:=cY vs us hv
 unfold xT
 rw [hl]
 exact dL _ _ _ _ (dL _ _ _ _ (fL cs arr off h).1 hv) (fL cs arr _ h).2
theorem oS(hT:bt T P) {t n:Nat}(h:jH T t n=true):∃i,P.info? t=some i∧i.size=n:=by
 unfold jH at h
 cases ht:T.find t with
 |none=>simp [ht] at h
 |some te=>
  simp only [ht] at h
  obtain⟨_,i,hi,hs,_⟩:=hT.ok t te ht
  exact⟨i,hi,hs.trans (Nat.eq_of_beq_eq_true h)⟩
theorem ly {t:TypeId} {i:TypeInfo}(hi:P.info? t=some i) {v:Value}(hs:v.cells.size=i.size)(h1:∀u∈v.cells.toList,u.oneCell'=true) {b off:Nat} {arr:Array Value} {e:TypeId}(hg:w.heap[b]? =some (.cells arr e (0,0)))
  (oP:off+v.cells.size≤arr.size):(Instr.storeAt t (.pointer (some ⟨b,off,none⟩)) v).run P w= .ok () (w.setRow b (arr.toList.take off++v.cells.toList++arr.toList.drop (off+v.cells.toList.length)).toArray):=by
 have :=run_storeCells_at P b off e v.cells.toList 0 arr w hg (by simpa using oP) h1
 simp only [Nat.add_zero] at this
 simp [Instr.storeAt,Instr.sureAddr,storeVar,sizeOf,typeInfo,hi,hs,this]
theorem Gj(b:Nat)(cs:Array Value):(w.setRow b cs).os=w.os∧(w.setRow b cs).tape=w.tape∧(w.setRow b cs).output=w.output∧(w.setRow b cs).heap.size=w.heap.size:=⟨rfl,rfl,rfl,by simp⟩
theorem aD.write(hB:aD C A β st a w) {dst:Option Nat}(hd:∀t,dst=some t→t<st.n) {out:Out} {k b:Nat} {ab:AB} {fz:List Nat} {new:Array Value} {e:Nat} {kg:Array Value} {v:Value}
  (eY:(st.h k).isSome) (hb:aw (β k)=some b) (jg:¬A b) (hg:w.heap[b]? =some (.cells kg e (0,0)))
  (nu:out.new= []∧out.del= []∧out.gk=(k,ab)::cc st.h fz) (xi:∀j∈fz,j≠k∧∃e row l fr,st.h j=some (.row e row l fr))
  (fw:∀A',(∀b',A b'→A' b')→(∀b',A' b'→A b'∨∃j∈fz,aw (β j)=some b')→(∀j∈fz,∀b',aw (β j)=some b'→A' b')→BR (w.setRow b new) A' β k ab)
  (ra:aa (w.setRow b new) A β v out.res) (amh:out.raw= []:=by rfl):Rel C (st.put dst out) (a.put dst v) (w.setRow b new):=by
 obtain⟨o1,o2,o3⟩:=nu
 let A':Nat→Prop :=fun b'=>A b'∨∃j∈fz,aw (β j)=some b'
 have eD:∀j b',(st.h j).isSome→aw (β j)=some b'→b'<w.heap.size:=by
  intro j b' hj bw
  obtain⟨ab,fw⟩:=Option.isSome_iff_exists.1 hj
  have fO:=hB.blocks j ab fw
  cases ab with
  |arr row l=>
   obtain⟨b'',arr,e,h1,h2,_⟩:=fO
   rw [h1] at bw
   simp only [aw,Option.some.injEq] at bw
   subst bw
   exact(Array.getElem?_eq_some_iff.1 h2).1
  |cells cs=>
   obtain⟨b'',arr,e,h1,h2,_⟩:=fO
   rw [h1] at bw
   simp only [aw,Option.some.injEq] at bw
   subst bw
   exact(Array.getElem?_eq_some_iff.1 h2).1
  |row e row l fr=>
   obtain⟨xs,h1,_⟩:=fO
   rcases h1.2 with⟨hn,_⟩|⟨g,cap,cur,hv,_,hg,_⟩
   · rw [hn] at bw;simp [aw] at bw
   · rw [hv] at bw
     simp only [aw,Option.some.injEq] at bw
     subst bw
     exact(Array.getElem?_eq_some_iff.1 hg).1
  |gw e j row l i=>
   obtain⟨xs,v0,h1,_⟩:=fO
   rcases h1.2 with⟨hn,_⟩|⟨g,cap,cur,hv,_,hg,_⟩
   · rw [hn] at bw;simp [aw] at bw
   · rw [hv] at bw
     simp only [aw,Option.some.injEq] at bw
     subst bw
     exact(Array.getElem?_eq_some_iff.1 hg).1
  |views e j n m sz=>
   obtain⟨xs,h1,_⟩:=fO
   rcases h1.2 with⟨hn,_⟩|⟨g,cap,cur,hv,_,hg,_⟩
   · rw [hn] at bw;simp [aw] at bw
   · rw [hv] at bw
     simp only [aw,Option.some.injEq] at bw
     subst bw
     exact(Array.getElem?_eq_some_iff.1 hg).1
 have mU:∀b',b'≠b→(w.setRow b new).heap[b']? =w.heap[b']? :=fun b' h=>setRow_other w b b' new (fun h'=>h h')
 have hK0:cL w (w.setRow b new) A A:=fun b' h=>⟨h,mU b' (fun h'=>jg (h'▸h))⟩
 have hK:cL w (w.setRow b new) A A':=fun b' h=>⟨.inl h,mU b' (fun h'=>jg (h'▸h))⟩
 have Nh:cL (w.setRow b new) (w.setRow b new) A A':=fun b' h=>⟨.inl h,rfl⟩
 have TO:∀(fz:List Nat) j x,aq (cc st.h fz) j=some x→j∈fz∧∃e row l fr,st.h j=some (.row e row l fr)∧x= .row e row l true :=by
  intro fz
  induction fz with
  |nil=>intro j x h;simp [cc,aq] at h
  |cons i fz ih=>
   intro j x h
   simp only [cc] at h
   split at h
   · rename_i e row l fr hi
     simp only [aq] at h
     by_cases zP:j=i
     · subst zP
       simp only [bC,cond_true,Option.some.injEq] at h
       exact⟨by simp,e,row,l,fr,hi,h.symm⟩
     · simp only [aO zP,cond_false] at h
       obtain⟨h1,h2⟩:=ih j x h
       exact⟨by simp [h1],h2⟩
   · obtain⟨h1,h2⟩:=ih j x h
     exact⟨by simp [h1],h2⟩
 have ami:∀(fz:List Nat) j,j∈fz→(∃e row l fr,st.h j=some (.row e row l fr))→(aq (cc st.h fz) j).isSome:=by
  intro fz
  induction fz with
  |nil=>intro j h;simp at h
  |cons i fz ih=>
   intro j h hr
   simp only [cc]
   by_cases zP:j=i
   · subst zP
     obtain⟨e,row,l,fr,hr⟩:=hr
     simp [hr,aq]
   · have :=ih j ((List.mem_cons.1 h).resolve_left zP) hr
     split
     · simp only [aq,aO zP,cond_false];exact this
     · exact this
 have yg:∀j x,aq out.gk j=some x→(j=k∧x=ab)∨(j≠k∧j∈fz∧∃e row l fr,st.h j=some (.row e row l fr)∧x= .row e row l true):=by
  intro j x h
  rw [o3] at h
  simp only [aq] at h
  by_cases yp:j=k
  · subst yp;simp only [bC,cond_true,Option.some.injEq] at h;exact .inl ⟨rfl,h.symm⟩
  · simp only [aO yp,cond_false] at h
    obtain⟨h1,h2⟩:=TO fz j x h
    exact .inr ⟨yp,h1,h2⟩
 have BS:kj st out k:=⟨eY, .inl (by rw [o3];simp [aq])⟩
 refine⟨A',β,hB.step hd (by rw [o1];simp [aq]) ?_ (fun _ _=>rfl) hK rfl rfl rfl (by simp) ?_ ?_ ?_ ?_ (by rw [o1];simp [aq]) (by rw [o1];simp [aq]) (by rw [o1];simp [aq]) (ix Nh _ _ ra) amh⟩
 · intro j x h
   rcases yg j x h with⟨rfl,_⟩|⟨_,_,e,row,l,fr,h,_⟩
   · exact eY
   · simp [h]
 · intro b' _ ht
   exact mU b' (fun h=>ht k BS (h▸hb))
 · intro b' h
   rw [(Gj b new).2.2.2]
   rcases h with h|⟨j,hj,Ni⟩
   · exact hB.bound b' h
   · obtain⟨_,e,row,l,fr,hr⟩:=xi j hj
     exact eD j b' (by simp [hr]) Ni
 · intro b' h
   rcases h with h|⟨j,hj,Ni⟩
   · exact .inl h
   · obtain⟨yp,hr⟩:=xi j hj
     refine .inr (.inr ⟨j,⟨by obtain⟨e,row,l,fr,hr⟩:=hr;simp [hr], .inl ?_⟩,Ni⟩)
     rw [o3]
     simp only [aq,aO yp,cond_false]
     exact ami fz j hj hr
 · intro j x h _
   rw [o1]
   simp only [cH]
   rcases yg j x h with⟨rfl,rfl⟩|⟨yp,hj,e',row,l,fr,hr,rfl⟩
   · exact fw A' (fun _ h=> .inl h) (fun _ h=>h) (fun j hj b' h=> .inr ⟨j,hj,h⟩)
   · obtain⟨xs,h1,h2,h3⟩:=hB.blocks j _ hr
     have tF:∀b',aw (β j)=some b'→b'≠b:=fun b' h h'=>yp (hB.apart j k b (by simp [hr]) eY (h'▸h) hb)
     refine⟨xs,fJ h1 (fun b' h=>mU b' (tF b' h)),bA (fun c x hx=>bB hK row c x hx) l xs h2,fun b' h=> ?_⟩
     simp only [if_true]
     exact .inr ⟨j,hj,h⟩
theorem zQ(hT:bt T P)(hB:aD C A β st a w) {dst:Option Nat}(hd:∀t,dst=some t→t<st.n) {t:TypeId} {k off:Nat} {x:AV} {vp vx:Value}(hp:aa w A β vp (.ref k off))(hx:aa w A β vx x) {out:Out}
  (h:hC T st.h t (.ref k off) x=some out):∃w',(Instr.storeAt t vp vx).run P w= .ok () w'∧Rel C (st.put dst out) (a.put dst undef) w':=by
 simp only [hC] at h
 split at h
 · rename_i cs hk
   cases hq:(x.cells.all AV.one&&jH T t x.cells.length&&Nat.ble (off+x.cells.length) cs.length) with
   |false=>simp [hq] at h
   |true=>
    simp only [hq,cond_true,Option.some.injEq] at h
    subst h
    simp only [Bool.and_eq_true] at hq
    obtain⟨⟨q1,q2⟩,q3⟩:=hq
    have q3:=Nat.le_of_ble_eq_true q3
    obtain⟨i,hi,cR⟩:=oS hT q2
    obtain⟨c1,c2,c3⟩:=rX q1 hx
    simp only [aa] at hp
    obtain⟨b,bU,rfl⟩:=hp
    obtain⟨b',arr,e,h1,h2,h3,h4,h5⟩:=hB.blocks k _ hk
    rw [bU] at h1
    simp only [Value.pointer.injEq,Option.some.injEq,Addr.mk.injEq,and_true] at h1
    subst h1
    have hlen:=cY cs _ h4
    have hb:aw (β k)=some b:=by rw [bU];rfl
    refine⟨_,ly hi (by omega) c2 h2 (by rw [c3];simp at hlen;omega),?_⟩
    refine hB.write hd (k:=k) (fz:= []) (ab:= .cells (xT cs off x.cells)) (by simp [hk]) hb h3 h2 ⟨rfl,rfl,rfl⟩ (by simp) ?_ (by simp [aa])
    intro A' hA1 CZ hA3
    have hK:cL w (w.setRow b (arr.toList.take off++vx.cells.toList++arr.toList.drop (off+vx.cells.toList.length)).toArray) A A':=fun b' h=>⟨hA1 b' h,setRow_other w b b' _ (fun h'=>h3 (h'▸h))⟩
    refine⟨b,_,e,bU,setRow_heap w b arr _ e _ h2,fun h=> ?_,en hK _ _ (tE h4 c1),?_⟩
    · rcases CZ b h with h|⟨j,hj,_⟩
      · exact h3 h
      · simp at hj
    · intro v hv
      rcases List.mem_append.1 hv with hv|hv
      · rcases List.mem_append.1 hv with hv|hv
        · exact h5 v (List.mem_of_mem_take hv)
        · exact c2 v hv
      · exact h5 v (List.mem_of_mem_drop hv)
 · cases h
end
end Go.Vg

end
section
namespace Go.Vg
open Go
section
variable {P:Program} {C:Ctx} {A A':Nat→Prop} {β:Nat→Value} {st:St} {a:Act} {w:World} {T:bT}
theorem GU {k:IntKind} {n:Int}(h:lo k≤n∧n≤hi k):DI.toInt k (DI.ofInt k n)=n:=by
 cases k<;>try rfl
 simp [lo,hi] at h
 simp only [DI.toInt,DI.ofInt,UInt8.toNat_ofNat']
 omega
theorem C0:∀(t:Ty) (x:AV) (v:Value) (d:D t),aa w A β v x→Ks t x=some d→Rd w A t v d:=by
 intro t x v d h hd
 unfold Ks at hd
 split at hd
 · rename_i k k' n
   split at hd
   · rename_i hk
     subst hk
     simp only [Option.some.injEq] at hd;subst hd
     simp only [aa] at h
     simp only [Rd,GU h.2]
     exact h
   · cases hd
 · simp only [Option.some.injEq] at hd;subst hd;simpa only [Rd,aa] using h
 · simp only [Option.some.injEq] at hd;subst hd;simpa only [Rd,aa] using h
 · simp only [Option.some.injEq] at hd;subst hd;simpa only [Rd,aa] using h
 · simp only [Option.some.injEq] at hd;subst hd;simpa only [Rd,aa] using h
 · obtain⟨e,hd⟩:=hY hd
   subst e;simp only at hd;subst hd
   simpa only [aa] using h
 · obtain⟨e,hd⟩:=hY hd
   subst e;simp only at hd;subst hd
   simp only [aa] at h;exact h.1
 · simp only [Option.some.injEq] at hd;subst hd
   simp only [aa] at h
   simp only [Rd]
   exact⟨none,0,[],by simpa using h,by simp,by simp,by simp [bX],by simp⟩
 · cases hd
theorem oT {t:Ty}:∀(ts:List Ty) (x:D t) (y:Row ts),Row.hd (Row.mk x y:Row (t::ts))=x
 | [],_,_=>rfl
 |_::_,_,_=>rfl
theorem tG {t:Ty}:∀(ts:List Ty) (x:D t) (y:Row ts),Row.tl (Row.mk x y:Row (t::ts))=y
 | [],_,_=>rfl
 |_::_,_,_=>rfl
theorem oU:∀(ts:List Ty) (xs:List AV) (vs:List Value) (r:Row ts),ae w A β vs xs→j2 ts xs=some r→bh w A ts vs r
 | [],[],vs,r,h,_=>by simpa only [ae,bh] using h
 |t::ts,x::xs,vs,r,h,hr=>by
  simp only [ae] at h
  obtain⟨v,bG,rfl,h1,h2⟩:=h
  simp only [j2] at hr
  split at hr
  · rename_i d y hd hy
    simp only [Option.some.injEq] at hr;subst hr
    simp only [bh]
    exact⟨v,bG,rfl,by rw [oT];exact C0 t x v d h1 hd,by rw [tG];exact oU ts xs bG y h2 hy⟩
  · cases hr
 | [],_::_,_,_,_,hr=>by simp [j2] at hr
 |_::_,[],_,_,_,hr=>by simp [j2] at hr
theorem AT:∀(ts:List Ty) (r:Row ts) (j:Nat) (x:AV) (cs:List Value) (v:Value) (r':Row ts),bh w A ts cs r→aa w A β v x→setRow ts r j x=some r'→bh w A ts (cs.set j v) r'∧j<cs.length
 | [],_,_,_,_,_,_,_,_,hr=>by simp [setRow] at hr
 |t::ts,r,0,x,cs,v,r',h,hx,hr=>by
  simp only [bh] at h
  obtain⟨u,eO,rfl,h1,h2⟩:=h
  simp only [setRow] at hr
  split at hr
  · rename_i d hd
    simp only [Option.some.injEq] at hr;subst hr
    simp only [bh,List.set_cons_zero]
    exact⟨⟨v,eO,rfl,by rw [oT];exact C0 t x v d hx hd,by rw [tG];exact h2⟩,by simp⟩
  · cases hr
 |t::ts,r,j+1,x,cs,v,r',h,hx,hr=>by
  simp only [bh] at h
  obtain⟨u,eO,rfl,h1,h2⟩:=h
  simp only [setRow] at hr
  split at hr
  · rename_i y hy
    simp only [Option.some.injEq] at hr;subst hr
    obtain⟨g1,g2⟩:=AT ts _ j x eO v y h2 hx hy
    simp only [bh,List.set_cons_succ]
    exact⟨⟨u,_,rfl,by rw [oT];exact h1,by rw [tG];exact g1⟩,by simp [g2]⟩
  · cases hr
theorem KG(cs:List Value)(j:Nat)(v:Value)(us:List Value)(h:j<cs.length):(cs.set j v).take (j+1)++us++(cs.set j v).drop (j+1+us.length)=cs.take j++(v::us)++cs.drop (j+(v::us).length):=by
 have e1:(cs.set j v).take (j+1)=cs.take j++ [v]:=by
  rw [List.take_succ_eq_append_getElem (by simpa using h)]
  simp [List.take_set_of_le]
 have e2:(cs.set j v).drop (j+1+us.length)=cs.drop (j+(us.length+1)):=by
  rw [List.drop_set_of_lt (by omega)]
  congr 1;omega
 rw [e1,e2];simp
theorem rY(ts:List Ty):∀(xs:List AV) (r:Row ts) (j:Nat) (cs us:List Value) (r':Row ts),bh w A ts cs r→ae w A β us xs→nm ts r j xs=some r'→bh w A ts (cs.take j++us++cs.drop (j+us.length)) r'∧(us≠ []→j+us.length≤cs.length)
 | [],r,j,cs,us,r',h,hx,hr=>by
   simp only [ae] at hx;subst hx
   simp only [nm,Option.some.injEq] at hr;subst hr
   simpa using h
 |x::xs,r,j,cs,us,r',h,hx,hr=>by
  simp only [ae] at hx
  obtain⟨v,xd,rfl,h1,h2⟩:=hx
  simp only [nm] at hr
  split at hr
  · rename_i y hy
    obtain⟨g1,g2⟩:=AT ts r j x cs v y h h1 hy
    obtain⟨f1,f2⟩:=rY ts xs y (j+1) (cs.set j v) xd r' g1 h2 hr
    rw [KG cs j v xd g2] at f1
    refine⟨f1,fun _=> ?_⟩
    by_cases hu:xd= []
    · subst hu;simp;omega
    · have :=f2 hu;simp at this ⊢;omega
  · cases hr
theorem oD(hB:aD C A β st a w) {x:AV} {v:Value}(h:aa w A β v x)(hA:∀b,A b→A' b)(kT:∀k∈(fq st.h x).2,∀b,aw (β k)=some b→A' b):
  aa w A' β v (fq st.h x).1∧∀k∈(fq st.h x).2,∃e row l fr,st.h k=some (.row e row l fr):=by
 have hK:cL w w A A':=fun b hb=>⟨hA b hb,rfl⟩
 unfold fq at kT ⊢
 split at kT
 · rename_i k
   simp only [aa] at h
   split at kT
   · rename_i e row l fr hk
     refine⟨?_,fun j hj=>by simp at hj;subst hj;exact⟨e,row,l,fr,hk⟩⟩
     simp only [aa,Rd]
     rcases kS hB hk with⟨g1,g2⟩|⟨b,cap,cs,g1,g2,g3,g4,g5⟩
     · subst g2;rw [h.1,g1];exact⟨none,0,[],rfl,by simp,by simp,by simp [bX],by simp⟩
     · rw [h.1,g1]
       exact⟨_,cap,cs,rfl,g2,g3,bA (fun c x hx=>bB hK row c x hx) l cs g4,fun _=>⟨b,0,rfl,kT k (by simp) b (by rw [g1];rfl),g5⟩⟩
   · exact⟨by simp [aa],by simp⟩
 · rename_i k n
   simp only [aa] at h
   split at kT
   · rename_i e row l fr hk
     refine⟨?_,fun j hj=>by simp at hj;subst hj;exact⟨e,row,l,fr,hk⟩⟩
     simp only [aa,Rd]
     rcases h with⟨h1,h2,h3⟩|⟨b',m,hX,h1,h2,h3⟩
     · subst h3;rw [h2];exact⟨none,0,[],by simp,by simp,by simp,by simp [bX],by simp⟩
     · rcases kS hB hk with⟨g1,g2⟩|⟨b,cap,cs,g1,g2,g3,g4,g5⟩
       · rw [g1] at h1;cases h1
       · rw [g1] at h1
         simp only [Value.slice.injEq,Option.some.injEq,Addr.mk.injEq,and_true] at h1
         obtain⟨rfl,rfl,rfl⟩:=h1
         have hl:(l.take n).length=n:=by simp;omega
         refine⟨_,cap,cs.take (n*row.length),by rw [h2,hl],by rw [hl];omega,g3,bA (fun c x hx=>bB hK row c x hx) _ _ (dV l cs n g4).1,fun _=>⟨b,0,rfl,kT k (by simp) b (by rw [g1];rfl),gN g5⟩⟩
   · exact⟨by simp [aa],by simp⟩
 · rename_i k sz off n
   simp only [aa] at h
   split at kT
   · rename_i e row l fr hk
     cases cR:Nat.beq sz row.length with
     |false=>exact⟨by simp [aa],by simp⟩
     |true=>
      simp only [cR,cond_true] at kT ⊢
      have cR:=Nat.eq_of_beq_eq_true cR
      subst cR
      refine⟨?_,fun j hj=>by simp at hj;subst hj;exact⟨e,row,l,fr,hk⟩⟩
      simp only [aa,Rd]
      rcases h with⟨hn,ad,cap,h2,zO⟩|⟨b',m,hX,tv,h1,h2,h3,h4,h5⟩
      · subst hn;rw [h2];exact⟨ad,cap,[],by simp,by simp,zO,by simp [bX],by simp⟩
      · rcases kS hB hk with⟨g1,g2⟩|⟨b,cap,cs,g1,g2,g3,g4,g5⟩
        · rw [g1] at h1;cases h1
        · rw [g1] at h1
          simp only [Value.slice.injEq,Option.some.injEq,Addr.mk.injEq,and_true] at h1
          obtain⟨rfl,rfl,rfl⟩:=h1
          have hl:((l.drop off).take n).length=n:=by simp;omega
          refine⟨_,tv,(cs.drop (off*row.length)).take (n*row.length),by rw [h2,hl],by rw [hl];omega,by omega,bA (fun c x hx=>bB hK row c x hx) _ _ (dV _ _ n (dV l cs off g4).2).1,fun _=>⟨b,_,rfl,kT k (by simp) b (by rw [g1];rfl),?_⟩⟩
          have :=gN (n:=n*row.length) (mS (n:=off*row.length) g5)
          simpa using this
   · exact⟨by simp [aa],by simp⟩
 · exact⟨ix hK _ _ h,by simp⟩
end
end Go.Vg

end
section
namespace Go.Vg
open Go
section
variable {P:Program} {C:Ctx} {A A':Nat→Prop} {β:Nat→Value} {st:St} {a:Act} {w:World} {T:bT}
theorem GV(hB:aD C A β st a w)(hA:∀b,A b→A' b):∀(xs:List AV) (vs:List Value),ae w A β vs xs→(∀k∈(lk st.h xs).2,∀b,aw (β k)=some b→A' b)→
  ae w A' β vs (lk st.h xs).1∧∀k∈(lk st.h xs).2,∃e row l fr,st.h k=some (.row e row l fr)
 | [],vs,h,_=>by simp only [ae] at h;subst h;simp [lk,ae]
 |x::xs,vs,h,kT=>by
  simp only [ae] at h
  obtain⟨v,bG,rfl,h1,h2⟩:=h
  simp only [lk] at kT ⊢
  obtain⟨p1,p2⟩:=oD hB h1 hA (fun k hk=>kT k (by simp [hk]))
  obtain⟨q1,q2⟩:=GV hB hA xs bG h2 (fun k hk=>kT k (by simp [hk]))
  refine⟨by simp only [ae];exact⟨v,bG,rfl,p1,q1⟩,fun k hk=> ?_⟩
  rcases List.mem_append.1 hk with hk|hk
  · exact p2 k hk
  · exact q2 k hk
theorem tH(hB:aD C A β st a w)(hA:∀b,A b→A' b)(x:AV)(v:Value)(h:aa w A β v x)(kT:∀k∈(lX st.h x).2,∀b,aw (β k)=some b→A' b):
  aa w A' β v (lX st.h x).1∧∀k∈(lX st.h x).2,∃e row l fr,st.h k=some (.row e row l fr):=by
 unfold lX at kT ⊢
 split at kT
 · rename_i cs
   simp only [aa] at h
   obtain⟨arr,rfl,h⟩:=h
   obtain⟨p1,p2⟩:=GV hB hA cs _ h kT
   exact⟨by simp only [aa];exact⟨arr,rfl,p1⟩,p2⟩
 · exact oD hB h hA kT
theorem zR(hB:aD C A β st a w)(hA:∀b,A b→A' b):∀(xs:List AV) (vs:List Value),ae w A β vs xs→(∀k∈(jk st.h xs).2,∀b,aw (β k)=some b→A' b)→
  ae w A' β vs (jk st.h xs).1∧∀k∈(jk st.h xs).2,∃e row l fr,st.h k=some (.row e row l fr)
 | [],vs,h,_=>by simp only [ae] at h;subst h;simp [jk,ae]
 |x::xs,vs,h,kT=>by
  simp only [ae] at h
  obtain⟨v,bG,rfl,h1,h2⟩:=h
  simp only [jk] at kT ⊢
  obtain⟨p1,p2⟩:=tH hB hA x v h1 (fun k hk=>kT k (by simp [hk]))
  obtain⟨q1,q2⟩:=zR hB hA xs bG h2 (fun k hk=>kT k (by simp [hk]))
  refine⟨by simp only [ae];exact⟨v,bG,rfl,p1,q1⟩,fun k hk=> ?_⟩
  rcases List.mem_append.1 hk with hk|hk
  · exact p2 k hk
  · exact q2 k hk
theorem yq {h:aP}:∀(xs:List AV),(lk h xs).1.length=xs.length
 | []=>rfl
 |x::xs=>by simp [lk,yq xs]
theorem pZ {h:aP}(x:AV):(lX h x).1.cells.length=x.cells.length:=by
 unfold lX
 split
 · simp [AV.cells,yq]
 · rename_i hna
   have hz:x.cells.length=1:=by cases x<;>first|rfl|exact absurd rfl (hna _)
   rw [hz]
   unfold fq
   split
   · split<;>rfl
   · split<;>rfl
   · split
     · rename_i sz _ _ _ _ rr _ _ _;cases Nat.beq sz rr.length<;>rfl
     · rfl
   · exact hz
theorem C1 {x:AV} {v:Value}(h:aa w A β v x) {row:List Ty} {r r':Row row} {cs:List Value} {j:Nat}(hr:bh w A row cs r)(hs:nm row r j x.cells=some r'):
  ae w A β v.cells.toList x.cells∧bh w A row (cs.take j++v.cells.toList++cs.drop (j+v.cells.toList.length)) r'∧(∀u∈v.cells.toList,u.oneCell'=true)∧(v.cells.toList≠ []→j+v.cells.toList.length≤cs.length)∧v.cells.size=x.cells.length:=by
 have key:∀us,ae w A β us x.cells→bh w A row (cs.take j++us++cs.drop (j+us.length)) r'∧(∀u∈us,u.oneCell'=true)∧(us≠ []→j+us.length≤cs.length):=by
  intro us nP
  obtain⟨f1,f2⟩:=rY row x.cells r j cs us r' hr nP hs
  exact⟨f1,fun u hu=>tA row _ r' f1 u (by simp [hu]),f2⟩
 by_cases hx:∃cs,x= .agg cs
 · obtain⟨xs,rfl⟩:=hx
   simp only [aa] at h
   obtain⟨arr,rfl,h⟩:=h
   obtain⟨k1,k2,k3⟩:=key arr.toList h
   exact⟨h,k1,k2,k3,by simpa [Value.cells,AV.cells] using cY xs _ h⟩
 · have hc:x.cells= [x]:=by cases x<;>first|rfl|exact absurd ⟨_,rfl⟩ hx
   have nP:ae w A β [v] x.cells:=by rw [hc];simp only [ae];exact⟨v,[],rfl,h,rfl⟩
   obtain⟨k1,k2,k3⟩:=key [v] nP
   have h1:=k2 v (by simp)
   rw [cells_one h1]
   exact⟨nP,k1,k2,k3,by rw [hc];rfl⟩
theorem C2 {row:List Ty} {l:List (Row row)} {i j:Nat} {cur:Array Value} {us:List Value} {y:Row row}(hi:i<l.length)(hL:bX (bh w A row) (cur.toList.take (l.length*row.length)) l)
  (hy:∀c,bh w A row c l[i]→bh w A row (c.take j++us++c.drop (j+us.length)) y∧(us≠ []→j+us.length≤c.length)) (c8:l.length*row.length≤cur.size):
  let new:=(cur.toList.take (i*row.length+j)++us++cur.toList.drop (i*row.length+j+us.length)).toArray
  new.size=cur.size∧bX (bh w A row) (new.toList.take (l.length*row.length)) (l.set i y)∧i*row.length+j+us.length≤cur.size∨us= []:=by
 intro new
 by_cases nP:us= []
 · exact .inr nP
 left
 obtain⟨c1,c,c2,e1,e2,e3,e4,e5⟩:=oN l _ i hi hL
 obtain⟨f1,f2⟩:=hy c e3
 have f2:=f2 nP
 have hc:=fK row c _ e3
 have gz:(cur.toList.take (l.length*row.length)).length=l.length*row.length:=by rw [List.length_take];simp;omega
 have eD:i*row.length+row.length≤l.length*row.length:=by
  have :(i+1)*row.length≤l.length*row.length:=Nat.mul_le_mul_right _ hi
  rwa [Nat.add_mul,Nat.one_mul] at this
 have oP:i*row.length+j+us.length≤cur.size:=by omega
 refine⟨by simp [new];omega,?_,oP⟩
 have Cj:cur.toList=c1++(c++c2)++cur.toList.drop (l.length*row.length):=by rw [←e1,List.take_append_drop]
 have dg:new.toList=c1++((c.take j++us++c.drop (j+us.length))++c2)++cur.toList.drop (l.length*row.length):=by
  have t1:cur.toList.take (i*row.length+j)=c1++c.take j:=by
   rw [Cj,←e2,List.append_assoc,List.take_length_add_append,List.append_assoc,List.take_append_of_le_length (by omega)]
  have t2:cur.toList.drop (i*row.length+j+us.length)=c.drop (j+us.length)++c2++cur.toList.drop (l.length*row.length):=by
   conv=>lhs;rw [Cj]
   rw [show i*row.length+j+us.length=c1.length+(j+us.length) by omega,List.append_assoc,List.drop_length_add_append,List.append_assoc,List.drop_append_of_le_length (by omega),List.append_assoc]
  simp only [new,t1,t2]
  simp
 rw [dg]
 have af8:(c1++((c.take j++us++c.drop (j+us.length))++c2)).length=l.length*row.length:=by
  have :=congrArg List.length e1
  rw [gz] at this
  simp at this ⊢
  omega
 rw [←af8,List.take_left]
 have sS:l.set i y=l.take i++(y::l.drop (i+1)):=by
  rw [List.set_eq_take_append_cons_drop,if_pos hi]
 rw [sS]
 exact gx _ _ _ _ e4 ⟨_,c2,rfl,f1,e5⟩
theorem yr(hT:bt T P)(hB:aD C A β st a w) {dst:Option Nat}(hd:∀t,dst=some t→t<st.n) {t:TypeId} {k sz i j:Nat} {x:AV} {vp vx:Value}(hp:aa w A β vp (.elem k sz i j))(hx:aa w A β vx x) {out:Out}
  (h:hC T st.h t (.elem k sz i j) x=some out) (hc:∀p∈out.cond,p):∃w',(Instr.storeAt t vp vx).run P w= .ok () w'∧Rel C (st.put dst out) (a.put dst undef) w':=by
 simp only [hC] at h
 split at h
 · rename_i e row l hk
   cases hq:(Nat.beq sz row.length&&jH T t x.cells.length&&Nat.blt 0 x.cells.length) with
   |false=>simp [hq] at h
   |true=>
    simp only [hq,cond_true] at h
    simp only [Bool.and_eq_true] at hq
    obtain⟨⟨q1,q2⟩,q3⟩:=hq
    have q3:=Nat.le_of_ble_eq_true q3
    have q1:=Nat.eq_of_beq_eq_true q1
    subst q1
    split at h
    · rename_i y hy
      cases C3:(lX st.h x).2.elem k with
      |true=>rw [C3] at h;simp at h
      |false=>
       rw [C3] at h
       simp only [cond_false,Option.some.injEq] at h
       subst h
       have hi:i<l.length:=dK hc
       rw [getD_eq l _ _ hi] at hy
       simp only [aa] at hp
       obtain⟨b,m,cap,bU,rfl⟩:=hp
       rcases eu hB hk with⟨_,hl⟩|⟨b',hX,cur,hv,hg,hle,ri,c8,hL,jg⟩
       · subst hl;simp at hi
       · rw [bU] at hv
         simp only [Value.slice.injEq,Option.some.injEq,Addr.mk.injEq,and_true] at hv
         obtain⟨rfl,rfl,rfl⟩:=hv
         simp only [Bool.false_eq_true,if_false] at jg
         have hb:aw (β k)=some b:=by rw [bU];rfl
         obtain⟨ii,gT,nW⟩:=oS hT q2
         let A1:Nat→Prop :=fun b'=>A b'∨∃j∈(lX st.h x).2,aw (β j)=some b'
         obtain⟨px,pk⟩:=tH (A':=A1) hB (fun b h=> .inl h) x vx hx (fun k hk b hb=> .inr ⟨k,hk,hb⟩)
         have hKA:cL w w A A1:=fun b h=>⟨.inl h,rfl⟩
         have ŏ:bX (bh w A1 row) (cur.toList.take (l.length*row.length)) l:=bA (fun c x hx=>bB hKA row c x hx) l _ hL
         have yu:l.length*row.length≤cur.size:=by rw [c8];exact Nat.mul_le_mul_right _ hle
         have hyy:∀c,bh w A1 row c l[i]→bh w A1 row (c.take j++vx.cells.toList++c.drop (j+vx.cells.toList.length)) y∧(vx.cells.toList≠ []→j+vx.cells.toList.length≤c.length):=
          fun c hc=>let h:=C1 px hc hy;⟨h.2.1,h.2.2.2.1⟩
         obtain⟨c1,c,c2,e1,e2,e3,e4,e5⟩:=oN l _ i hi ŏ
         have yv:=C1 px e3 hy
         have nN:vx.cells.size=ii.size:=by
          have h1:=yv.2.2.2.2
          have h2:=pZ (h:=st.h) x
          omega
         rcases C2 hi ŏ hyy yu with⟨g1,g2,g3⟩|nP
         · refine⟨_,ly gT nN yv.2.2.1 hg (by simpa using g3),?_⟩
           refine hB.write hd (k:=k) (fz:=(lX st.h x).2) (ab:= .row e row (l.set i y) false) (by simp [hk]) hb jg hg ⟨rfl,rfl,rfl⟩ (fun q hq=>⟨?_,pk q hq⟩) ?_ (by simp [aa])
           · rintro rfl;rw [List.elem_eq_mem] at C3;simp [hq] at C3
           · intro A2 h1 h2 h3
             have hK:cL w (w.setRow b (cur.toList.take (i*row.length+j)++vx.cells.toList++cur.toList.drop (i*row.length+j+vx.cells.toList.length)).toArray) A1 A2:=by
              intro b' bw
              rcases bw with bw|⟨q,hq,wa⟩
              · exact⟨h1 b' bw,setRow_other w b b' _ (fun h'=>jg (h'▸bw))⟩
              · refine⟨h3 q hq b' wa,setRow_other w b b' _ (fun h'=> ?_)⟩
                subst h'
                obtain⟨e',iw,l',zD,lb⟩:=pk q hq
                have :q=k:=hB.apart q k b' (by simp [lb]) (by simp [hk]) wa hb
                subst this
                rw [List.elem_eq_mem] at C3;simp [hq] at C3
             refine⟨_,⟨?_, .inr ⟨b,cap,_,by rw [bU];simp,by omega,setRow_heap w b cur _ e _ hg,by simpa using hle,ri,g1.trans c8,rfl⟩⟩,?_,fun b' bw=> ?_⟩
             · rw [List.length_take]
               refine Nat.min_eq_left ?_
               rw [List.length_set]
               exact Nat.le_trans yu (Nat.le_of_eq g1.symm)
             · simp only [List.length_set]
               exact bA (fun c x hx=>bB hK row c x hx) _ _ g2
             · rw [hb] at bw;simp only [Option.some.injEq] at bw;subst bw
               simp only [Bool.false_eq_true,if_false]
               intro CZ
               rcases h2 _ CZ with h|⟨q,hq,wa⟩
               · exact jg h
               · obtain⟨e',iw,l',zD,lb⟩:=pk q hq
                 have :q=k:=hB.apart q k _ (by simp [lb]) (by simp [hk]) wa hb
                 subst this
                 rw [List.elem_eq_mem] at C3;simp [hq] at C3
         · exfalso
           have h1:=yv.2.2.2.2
           have h2:=pZ (h:=st.h) x
           have h3:vx.cells.size=0:=by simpa using congrArg List.length nP
           omega
    · cases h
 · cases h
end
end Go.Vg

end
section
namespace Go.Vg
open Go
section
variable {P:Program} {C:Ctx} {A A':Nat→Prop} {β:Nat→Value} {st:St} {a:Act} {w:World} {T:bT}
theorem dw {d k:Nat} {ab b:AB}(h:aq [(d,ab)] k=some b):k=d∧b=ab:=by
 simp only [aq] at h
 by_cases hk:k=d
 · subst hk;simp only [bC,cond_true,Option.some.injEq] at h;exact⟨rfl,h.symm⟩
 · simp [aO hk] at h
theorem mw(o:Obj)(k:Nat)(hk:k<w.heap.size):(w.alloc o).heap[k]? =w.heap[k]? :=heap_alloc_old w o k hk
theorem aD.GW(hB:aD C A β st a w) {dst:Option Nat}(hd:∀t,dst=some t→t<st.n) {d e:Nat} {cs:List AV} {arr:Array Value} {cond:List Prop}
  (fA:st.h d=none∧n3 d=false) (hrel:ae w A β arr.toList cs) (gR:∀v∈arr.toList,v.oneCell'=true):
  aD C A (bD β d (.pointer (some ⟨w.heap.size,0,none⟩))) (st.put dst {cond:=cond,res:= .ref d 0,new:= [(d, .cells (eV d cs))]}) (a.put dst (.pointer (some ⟨w.heap.size,0,none⟩))) (w.alloc (.cells arr e)):=by
 have hK:cL w (w.alloc (.cells arr e)) A A:=fun b hb=>⟨hb,mw _ b (hB.bound b hb)⟩
 have bU:∀k,aq [(d,AB.cells (eV d cs))] k=none→bD β d (.pointer (some ⟨w.heap.size,0,none⟩)) k=β k:=by
  intro k h
  have :k≠d:=by rintro rfl;simp [aq] at h
  simp [bD,this]
 refine hB.step (out:= {cond:=cond,res:= .ref d 0,new:= [(d, .cells (eV d cs))]}) hd ?_ (by simp [aq]) bU hK rfl rfl rfl (by simp) (fun b hb _=>mw _ b hb) (fun b hb=>by have :=hB.bound b hb;simp;omega) (fun b hb=> .inl hb) (by simp [aq]) ?_ ?_ ?_ ?_
 · intro k b h;obtain⟨rfl,_⟩:=dw h;exact fA
 · intro k ab h
   obtain⟨rfl,rfl⟩:=dw h
   refine⟨w.heap.size,arr,e,by simp [bD],heap_alloc_new w _,fun h=>absurd (hB.bound _ h) (by omega),fI k _ _ _ (en hK _ _ hrel),gR⟩
 · intro k b ab h hb
   obtain⟨rfl,_⟩:=dw h
   simp only [bD,if_true,aw,Option.some.injEq] at hb
   exact .inl (by omega)
 · intro k k' b h h' _ _
   obtain⟨x,hx⟩:=Option.isSome_iff_exists.1 h
   obtain⟨y,hy⟩:=Option.isSome_iff_exists.1 h'
   rw [(dw hx).1,(dw hy).1]
 · simp only [aa]
   exact⟨w.heap.size,by simp [bD],rfl⟩
theorem gO {h:aP}:∀(fz:List Nat) j x,aq (cc h fz) j=some x→j∈fz∧∃e row l fr,h j=some (.row e row l fr)∧x= .row e row l true :=by
 intro fz
 induction fz with
 |nil=>intro j x h;simp [cc,aq] at h
 |cons i fz ih=>
  intro j x h
  simp only [cc] at h
  split at h
  · rename_i e row l fr hi
    simp only [aq] at h
    by_cases zP:j=i
    · subst zP
      simp only [bC,cond_true,Option.some.injEq] at h
      exact⟨by simp,e,row,l,fr,hi,h.symm⟩
    · simp only [aO zP,cond_false] at h
      obtain⟨h1,h2⟩:=ih j x h
      exact⟨by simp [h1],h2⟩
  · obtain⟨h1,h2⟩:=ih j x h
    exact⟨by simp [h1],h2⟩
theorem mV {h:aP}:∀(fz:List Nat) j,j∈fz→(∃e row l fr,h j=some (.row e row l fr))→(aq (cc h fz) j).isSome:=by
 intro fz
 induction fz with
 |nil=>intro j h;simp at h
 |cons i fz ih=>
  intro j h hr
  simp only [cc]
  by_cases zP:j=i
  · subst zP
    obtain⟨e,row,l,fr,hr⟩:=hr
    simp [hr,aq]
  · have :=ih j ((List.mem_cons.1 h).resolve_left zP) hr
    split
    · simp only [aq,aO zP,cond_false];exact this
    · exact this
def bK(A:Nat→Prop)(β:Nat→Value)(fz:List Nat):Nat→Prop :=fun b=>A b∨∃j∈fz,aw (β j)=some b
theorem ko(hB:aD C A β st a w) {j b':Nat}(hj:(st.h j).isSome)(bw:aw (β j)=some b'):b'<w.heap.size:=by
 obtain⟨ab,fw⟩:=Option.isSome_iff_exists.1 hj
 have fO:=hB.blocks j ab fw
 cases ab with
 |arr row l=>
  obtain⟨b'',arr,e,h1,h2,_⟩:=fO
  rw [h1] at bw
  simp only [aw,Option.some.injEq] at bw
  subst bw
  exact(Array.getElem?_eq_some_iff.1 h2).1
 |cells cs=>
  obtain⟨b'',arr,e,h1,h2,_⟩:=fO
  rw [h1] at bw
  simp only [aw,Option.some.injEq] at bw
  subst bw
  exact(Array.getElem?_eq_some_iff.1 h2).1
 |row e row l fr=>
  obtain⟨xs,h1,_⟩:=fO
  rcases h1.2 with⟨hn,_⟩|⟨g,cap,cur,hv,_,hg,_⟩
  · rw [hn] at bw;simp [aw] at bw
  · rw [hv] at bw
    simp only [aw,Option.some.injEq] at bw
    subst bw
    exact(Array.getElem?_eq_some_iff.1 hg).1
 |gw e j row l i=>
  obtain⟨xs,v0,h1,_⟩:=fO
  rcases h1.2 with⟨hn,_⟩|⟨g,cap,cur,hv,_,hg,_⟩
  · rw [hn] at bw;simp [aw] at bw
  · rw [hv] at bw
    simp only [aw,Option.some.injEq] at bw
    subst bw
    exact(Array.getElem?_eq_some_iff.1 hg).1
 |views e j n m sz=>
  obtain⟨xs,h1,_⟩:=fO
  rcases h1.2 with⟨hn,_⟩|⟨g,cap,cur,hv,_,hg,_⟩
  · rw [hn] at bw;simp [aw] at bw
  · rw [hv] at bw
    simp only [aw,Option.some.injEq] at bw
    subst bw
    exact(Array.getElem?_eq_some_iff.1 hg).1
theorem aD.KH(hB:aD C A β st a w) {dst:Option Nat}(hd:∀t,dst=some t→t<st.n) {d e:Nat} {row:List Ty} {l:List (Row row)} {cond:List Prop} {fz:List Nat} {v':Value} {w':World} {xs:List Value}
  (fA:st.h d=none∧n3 d=false) (hg:w.grownBy w' none) (xi:∀j∈fz,∃e row l fr,st.h j=some (.row e row l fr))
  (fM:w'.ownsRow 0 e row.length v' l.length xs) (qF:bX (bh w (bK A β fz) row) xs l) (hblk:∀b,aw v'=some b→w.heap.size≤b):
  aD C (bK A β fz) (bD β d v') (st.put dst {cond:=cond,res:= .own d,gk:=cc st.h fz,new:= [(d, .row e row l false)]}) (a.put dst v') w':=by
 have Nj:∀b,bK A β fz b→b<w.heap.size:=by
  intro b h
  rcases h with h|⟨j,hj,hb⟩
  · exact hB.bound b h
  · obtain⟨e',r',l',f',hr⟩:=xi j hj
    exact ko hB (by simp [hr]) hb
 have hK:cL w w' A (bK A β fz):=fun b hb=>⟨.inl hb,hg.block b (hB.bound b hb) (by simp)⟩
 have Ő:cL w w' (bK A β fz) (bK A β fz):=fun b hb=>⟨hb,hg.block b (Nj b hb) (by simp)⟩
 have bU:∀k,aq [(d,AB.row e row l false)] k=none→bD β d v' k=β k:=by
  intro k h
  have :k≠d:=by rintro rfl;simp [aq] at h
  simp [bD,this]
 refine hB.step (out:= {cond:=cond,res:= .own d,gk:=cc st.h fz,new:= [(d, .row e row l false)]}) hd ?_ ?_ bU hK hg.os hg.tape hg.output hg.size (fun b hb _=>hg.block b hb (by simp)) (fun b hb=>Nat.lt_of_lt_of_le (Nj b hb) hg.size) ?_ ?_ ?_ ?_ ?_ ?_
 · intro k b h;obtain⟨rfl,_⟩:=dw h;exact fA
 · intro k b h;obtain⟨_,_,_,_,_,h,_⟩:=gO fz k b h;simp [h]
 · intro b h
   rcases h with h|⟨j,hj,hb⟩
   · exact .inl h
   · have hr:=xi j hj
     exact .inr (.inr ⟨j,⟨by obtain⟨_,_,_,_,hr⟩:=hr;simp [hr], .inl (mV fz j hj hr)⟩,hb⟩)
 · intro k ab h _
   obtain⟨hk,e',iw,l',zD,hr,rfl⟩:=gO fz k ab h
   rw [jI]
   have IN:k≠d:=by rintro rfl;rw [fA.1] at hr;cases hr
   have xc:bD β d v' k=β k:=by simp [bD,IN]
   obtain⟨xs',h1,h2,h3⟩:=hB.blocks k _ hr
   simp only [BR,xc]
   refine⟨xs',fJ h1 (fun b hb=>hg.block b (ko hB (by simp [hr]) hb) (by simp)),bA (fun c x hx=>bB hK iw c x hx) l' xs' h2,fun b hb=> ?_⟩
   simp only [if_true]
   exact .inr ⟨k,hk,hb⟩
 · intro k ab h
   obtain⟨rfl,rfl⟩:=dw h
   refine⟨xs,by simpa [bD] using fM,bA (fun c x hx=>bB Ő row c x hx) l xs qF,fun b hb=> ?_⟩
   simp only [bD,if_true] at hb
   simp only [Bool.false_eq_true,if_false]
   intro hA;exact absurd (Nj b hA) (by have :=hblk b hb;omega)
 · intro k b ab h hb
   obtain⟨rfl,_⟩:=dw h
   simp only [bD,if_true] at hb
   exact .inl (hblk b hb)
 · intro k k' b h h' _ _
   obtain⟨x,hx⟩:=Option.isSome_iff_exists.1 h
   obtain⟨y,hy⟩:=Option.isSome_iff_exists.1 h'
   rw [(dw hx).1,(dw hy).1]
 · simp only [aa,bD,if_true,true_and]
   obtain⟨ad,l',c,rfl⟩:=oR fM
   rfl
theorem IZ(hT:bt T P)(hB:aD C A β st a w) {dst:Option Nat}(hd:∀t,dst=some t→t<st.n) {d:Nat}(fA:st.h d=none∧n3 d=false) {t:TypeId} {te:TE}(ht:T.find t=some te)(gR:(ofConst te.zero).cells.all AV.one=true):
  ∃v' w',(Instr.alloc t true (.tuple #[])).run P w= .ok v' w'∧Rel C (st.put dst {cond:= [],res:= .ref d 0,new:= [(d, .cells (eV d (ofConst te.zero).cells))]}) (a.put dst v') w':=by
 obtain⟨hu,i,hi,hs,hb,hz⟩:=hT.ok t te ht
 obtain⟨c1,c2,c3⟩:=rX gR (rQ (w:=w) (A:=A) (β:=β) te.zero)
 refine⟨.pointer (some ⟨w.heap.size,0,none⟩),w.alloc (.cells te.zero.cells t),?_,Rel.j4 (hB.GW hd fA c1 c2)⟩
 simp [Instr.alloc,zeroValue,typeInfo,hi,hz,newVar,newRow]
theorem Nk(hB:aD C A β st a w) {dst:Option Nat}(hd:∀t,dst=some t→t<st.n) {d:Nat}(fA:st.h d=none∧n3 d=false) {t:TypeId} {x:AV} {v:Value}(hx:aa w A β v x)(gR:x.cells.all AV.one=true):
  ∃v' w',(Instr.box t v).run P w= .ok v' w'∧Rel C (st.put dst {cond:= [],res:= .ref d 0,new:= [(d, .cells (eV d x.cells))]}) (a.put dst v') w':=by
 obtain⟨c1,c2,c3⟩:=rX gR hx
 refine⟨.pointer (some ⟨w.heap.size,0,none⟩),w.alloc (.cells v.cells t),?_,Rel.j4 (hB.GW hd fA c1 c2)⟩
 simp [Instr.box,newVar,newRow]
theorem AU(off:Nat):∀(l:List Value) (k:Nat) (arr:Array Value),off+k+l.length≤arr.size→
  ((l.zipIdx k).foldl (fun cs (x:Value×Nat)=>cs.setIfInBounds (off+x.2) x.1) arr).toList=arr.toList.take (off+k)++l++arr.toList.drop (off+k+l.length)
 | [],k,arr,_=>by simp
 |v::l,k,arr,h=>by
  simp only [List.zipIdx_cons,List.foldl_cons]
  rw [AU off l (k+1) _ (by simp at h ⊢;omega)]
  have e:=list_seg_step arr.toList (off+k) v l (by simp at h ⊢;omega)
  simpa [Array.toList_setIfInBounds,Nat.add_assoc] using e
theorem vt(place:Nat→Option (Nat×Nat)):∀(parts:List (Nat×AV)) (gA:List (Nat×Value)) (cs:List AV) (arr:Array Value) (r:List AV),ae w A β arr.toList cs→
  gA.map (·.1)=parts.map (·.1)→ae w A β (gA.map (·.2)) (parts.map (·.2))→w7 place cs parts=some r→
  ∃p0,Instr.fill place arr gA=some p0∧ae w A β p0.toList r
 | [],[],cs,arr,r,h,_,_,hr=>by
   simp only [w7,Option.some.injEq] at hr;subst hr
   exact⟨arr,rfl,h⟩
 |(i,x)::parts,(i',v)::gA,cs,arr,r,h,hk,hv,hr=>by
  simp only [List.map_cons,List.cons.injEq] at hk
  obtain⟨hi,hk⟩:=hk
  subst hi
  simp only [List.map_cons,ae] at hv
  obtain⟨v0,C4,h0,h1,h2⟩:=hv
  simp only [List.cons.injEq] at h0
  obtain⟨rfl,rfl⟩:=h0
  simp only [w7] at hr
  split at hr
  · cases hr
  · rename_i off size hp
    cases hq:(Nat.beq x.cells.length size&&Nat.ble (off+size) cs.length&&x.cells.all AV.one) with
    |false=>simp [hq] at hr
    |true=>
     simp only [hq,cond_true] at hr
     simp only [Bool.and_eq_true] at hq
     obtain⟨⟨q1,q2⟩,q3⟩:=hq
     have q1:=Nat.eq_of_beq_eq_true q1
     have q2:=Nat.le_of_ble_eq_true q2
     obtain⟨c1,c2,c3⟩:=rX q3 h1
     have hlen:=cY cs _ h
     have CY:=tE (off:=off) h c1
     have aga:(v.cells.zipIdx.foldl (fun cs (x:Value×Nat)=>cs.setIfInBounds (off+x.2) x.1) arr).toList=arr.toList.take off++v.cells.toList++arr.toList.drop (off+v.cells.toList.length):=by
      have :=AU off v.cells.toList 0 arr (by simp;simp at hlen;omega)
      simp only [Nat.add_zero] at this
      rw [←this,←Array.foldl_toList,Array.toList_zipIdx]
     obtain⟨p0,g1,g2⟩:=vt place parts gA _ (v.cells.zipIdx.foldl (fun cs (x:Value×Nat)=>cs.setIfInBounds (off+x.2) x.1) arr) r (by rw [aga];exact CY) hk h2 hr
     refine⟨p0,?_,g2⟩
     simp only [Instr.fill,hp]
     rw [if_neg (by simp;simp at hlen;omega)]
     exact g1
 | [],_::_,_,_,_,_,hk,_,_=>by simp at hk
 |_::_,[],_,_,_,_,hk,_,_=>by simp at hk
end
end Go.Vg

end
section
namespace Go.Vg
open Go
section
variable {P:Program} {C:Ctx} {A A':Nat→Prop} {β:Nat→Value} {st:St} {a:Act} {w:World} {T:bT}
theorem run_places(hT:bt T P):∀(fs:List Field) (ps:List (Nat×Nat)),placesOf T fs=some ps→
  (List.mapM (m:=Sem) (fun(f:Field)=>do pure (f.offset,←sizeOf f.type)) fs).run P w= .ok ps w
 | [],ps,h=>by simp only [placesOf,Option.some.injEq] at h;subst h;simp
 |f::fs,ps,h=>by
  simp only [placesOf] at h
  split at h
  · rename_i te ps' ht hp
    simp only [Option.some.injEq] at h;subst h
    obtain⟨_,i,hi,hs,_⟩:=hT.ok _ _ ht
    have ih:=run_places hT fs ps' hp
    have h1:(sizeOf f.type).run P w= .ok te.size w:=by simp [sizeOf,typeInfo,hi,hs]
    simp only [List.mapM_cons,Sem.run_bind,h1,Result.andThen_ok,Sem.run_pure]
    rw [ih]
    rfl
  · cases h
theorem jL(z:Value):ae w A β z.cells.toList (ofConst z).cells:=by
 have h:=rQ (w:=w) (A:=A) (β:=β) z
 by_cases hx:∃cs,ofConst z= .agg cs
 · obtain⟨cs,hc⟩:=hx
   rw [hc] at h ⊢
   simp only [aa] at h
   obtain⟨arr,rfl,h⟩:=h
   exact h
 · have hc:(ofConst z).cells= [ofConst z]:=by
    cases hz:ofConst z<;>first|rfl|exact absurd ⟨_,hz⟩ hx
   have hz:z.cells= #[z]:=by
    cases z<;>first|rfl|exact absurd ⟨_,rfl⟩ hx
   rw [hc,hz]
   simp only [ae]
   exact⟨z,[],rfl,h,rfl⟩
theorem I0(hT:bt T P) {t:TypeId} {parts:List (Nat×AV)} {gA:Array (Nat×Value)}(hk:gA.toList.map (·.1)=parts.map (·.1))(hv:ae w A β (gA.toList.map (·.2)) (parts.map (·.2))) {out:Out}
  (h:zC T t parts=some out):Reads P A β w (Instr.build t gA) out:=by
 unfold zC at h
 split at h
 · rename_i te ht
   obtain⟨hu,i,hi,hs,hb,hz⟩:=hT.ok t te ht
   split at h
   · rename_i fs hd
     split at h
     · rename_i ps hp
       split at h
       · rename_i cs hf
         simp only [Option.some.injEq] at h;subst h
         obtain⟨p0,g1,g2⟩:=vt (fun i=>ps[i]?) parts gA.toList _ te.zero.cells cs (jL te.zero) hk hv hf
         refine⟨⟨rfl,rfl,rfl⟩, .agg p0,?_,by simp only [aa];exact⟨p0,rfl,g2⟩⟩
         have hm:=run_places (w:=w) hT fs.toList ps hp
         rw [hd] at hu
         simp only [Instr.build,zeroValue,typeInfo,Sem.run_bind,run_program,Result.andThen_ok,hi,hz,Sem.run_pure,run_underlying hu,Array.mapM_eq_mapM_toList,Sem.run_map,hm]
         have e:(fun(x:Nat)=>ps.toArray[x]?)=(fun(x:Nat)=>ps[x]?):=by funext x;simp
         simp [g1]
       · cases h
     · cases h
   · rename_i n e hd
     split at h
     · rename_i ee he
       split at h
       · rename_i cs hf
         simp only [Option.some.injEq] at h;subst h
         obtain⟨_,i2,BU,IQ,_⟩:=hT.ok e ee he
         obtain⟨p0,g1,g2⟩:=vt (fun i=>some (i*ee.size,ee.size)) parts gA.toList _ te.zero.cells cs (jL te.zero) hk hv hf
         refine⟨⟨rfl,rfl,rfl⟩, .agg p0,?_,by simp only [aa];exact⟨p0,rfl,g2⟩⟩
         rw [hd] at hu
         simp [Instr.build,zeroValue,typeInfo,hi,hz,run_underlying hu,sizeOf,BU,IQ,g1]
       · cases h
     · cases h
   · cases h
 · cases h
theorem oa(z:Array Value)(hz:0<z.size):∀n,(List.range (n*z.size)).map (fun i=>z[i%z.size]!)=(List.replicate n z.toList).flatten
 |0=>by simp
 |n+1=>by
  rw [Nat.add_mul,Nat.one_mul,List.range_add,List.map_append,oa z hz n,List.replicate_succ',List.flatten_append]
  congr 1
  simp only [List.map_map,List.flatten_cons,List.flatten_nil,List.append_nil]
  apply List.ext_getElem
  · simp
  · intro i h1 h2
    simp at h1
    simp [Nat.add_mod,Nat.mod_eq_of_lt h1,h1]
theorem p6 {vs:List Value} {xs:List AV}(h:ae w A β vs xs):∀n,ae w A β (List.replicate n vs).flatten (List.replicate n xs).flatten
 |0=>by simp [ae]
 |n+1=>by
  simp only [List.replicate_succ,List.flatten_cons]
  exact dL _ _ _ _ h (p6 h n)
theorem tI(ts:List Ty):∀(n:Nat) (xs:List AV) (vs:List Value) (l:List (Row ts)),ae w A β vs xs→rK ts n xs=some l→bX (bh w A ts) vs l∧l.length=n
 |0,[],vs,l,h,hl=>by
  simp only [rK,Option.some.injEq] at hl;subst hl
  simp only [ae] at h;subst h
  simp [bX]
 |0,_::_,_,_,_,hl=>by simp [rK] at hl
 |n+1,xs,vs,l,h,hl=>by
  simp only [rK] at hl
  split at hl
  · rename_i x l' hx iI
    simp only [Option.some.injEq] at hl;subst hl
    obtain⟨s1,s2⟩:=fL xs vs ts.length h
    obtain⟨g1,g2⟩:=tI ts n _ _ l' s2 iI
    exact⟨⟨_,_,(List.take_append_drop _ _).symm,oU ts _ _ x s1 hx,g1⟩,by simp [g2]⟩
  · cases hl
theorem GX(hB:aD C A β st a w)(hA:∀b,A b→A' b):∀(ps:List (Nat×AV)) (vs:List Value),ae w A β vs (ps.map (·.2))→(∀k∈(lp st.h ps).2,∀b,aw (β k)=some b→A' b)→
  ae w A' β vs ((lp st.h ps).1.map (·.2))∧(lp st.h ps).1.map (·.1)=ps.map (·.1)∧∀k∈(lp st.h ps).2,∃e row l fr,st.h k=some (.row e row l fr)
 | [],vs,h,_=>by simp only [List.map_nil,ae] at h;subst h;simp [lp,ae]
 |(i,x)::ps,vs,h,kT=>by
  simp only [List.map_cons,ae] at h
  obtain⟨v,bG,rfl,h1,h2⟩:=h
  simp only [lp] at kT ⊢
  obtain⟨p1,p2⟩:=tH hB hA x v h1 (fun k hk=>kT k (by simp [hk]))
  obtain⟨q1,q2,q3⟩:=GX hB hA ps bG h2 (fun k hk=>kT k (by simp [hk]))
  refine⟨by simp only [List.map_cons,ae];exact⟨v,bG,rfl,p1,q1⟩,by simp [q2],fun k hk=> ?_⟩
  rcases List.mem_append.1 hk with hk|hk
  · exact p2 k hk
  · exact q3 k hk
theorem yw(hT:bt T P)(hB:aD C A β st a w) {dst:Option Nat}(hd:∀t,dst=some t→t<st.n) {d:Nat}(fA:st.h d=none∧n3 d=false) {t:TypeId} {len:Nat} {parts:List (Nat×AV)} {gA:Array (Nat×Value)}
  (hk:gA.toList.map (·.1)=parts.map (·.1)) (hv:ae w A β (gA.toList.map (·.2)) (parts.map (·.2))) {out:Out}
  (h:hJ T st.h d t len parts=some out):∃v' w',(Instr.buildSlice t len gA).run P w= .ok v' w'∧Rel C (st.put dst out) (a.put dst v') w':=by
 unfold hJ at h
 split at h
 · rename_i e te he j5
   split at h
   · rename_i row jZ
     obtain⟨hu,IY,i,hi,nW,KD,Nd⟩:=yn hT he j5
     cases hq:(Nat.beq row.length te.size&&Nat.blt 0 te.size&&Nat.beq (ofConst te.zero).cells.length te.size&&Nat.ble (len*te.size) 16777216) with
     |false=>simp [hq] at h
     |true=>
      simp only [hq,cond_true] at h
      simp only [Bool.and_eq_true] at hq
      obtain⟨⟨⟨q1,q2⟩,q3⟩,q4⟩:=hq
      have q1:=Nat.eq_of_beq_eq_true q1
      have q2:=Nat.le_of_ble_eq_true q2
      have q3:=Nat.eq_of_beq_eq_true q3
      have q4:=Nat.le_of_ble_eq_true q4
      split at h
      · rename_i cs hf
        split at h
        · rename_i l hl
          simp only [Option.some.injEq] at h;subst h
          have Gh:te.zero.cells.size=te.size:=by rw [←tD];exact q3
          obtain⟨p1,p2,p3⟩:=GX (A':=bK A β (lp st.h parts).2) hB (fun b h=> .inl h) parts _ hv (fun k hk b hb=> .inr ⟨k,hk,hb⟩)
          have gB:(((Array.range (len*i.size)).map (te.zero.cells[· %te.zero.cells.size]!)).toList)=(List.replicate len te.zero.cells.toList).flatten:=by
           have :=oa te.zero.cells (by omega) len
           rw [Gh] at this
           simp [nW,Gh,this]
          obtain⟨p0,g1,g2⟩:=vt (w:=w) (A:=bK A β (lp st.h parts).2) (β:=β) (fun i=>some (i*te.size,te.size)) _ gA.toList _ ((Array.range (len*i.size)).map (te.zero.cells[· %te.zero.cells.size]!)) cs
           (by rw [gB];exact p6 (jL te.zero) len) (hk.trans p2.symm) p1 hf
          obtain⟨f1,f2⟩:=tI row len cs _ l g2 hl
          have hlen:=eE l _ f1
          have fU:(Instr.buildSlice t len gA).run P w= .ok (.slice (some ⟨w.heap.size,0,none⟩) len len) (w.alloc (.cells p0 e)):=by
           have Vs:¬(16777216<len*i.size):=by rw [nW];omega
           by_cases hz:len*i.size=0
           · have hln:len=0:=by
              rcases Nat.mul_eq_zero.1 hz with h|h
              · exact h
              · omega
             subst hln
             rw [nW] at g1
             simp only [Nat.zero_mul] at g1
             simp [Instr.buildSlice,run_underlying hu,sizeOf,typeInfo,hi,nW,newRow]
             have e0:∀f:Nat→Value,(Array.range 0).map f= #[]:=fun f=>by apply Array.eq_empty_of_size_eq_zero;simp
             rw [e0] at g1
             rw [e0,g1]
             simp
           · rw [←nW] at g1
             simp [Instr.buildSlice,run_underlying hu,sizeOf,typeInfo,zeroValue,hi,Nd,Vs,hz,g1,newRow]
          refine⟨_,_,fU,Rel.j4 (hB.KH hd fA (xs:=p0.toList) ⟨rfl,rfl,rfl,by simp,fun k hk _=>heap_alloc_old w _ k hk⟩ p3 ?_ f1 (fun b hb=>by simp only [aw,Option.some.injEq] at hb;omega))⟩
          refine⟨hlen, .inr ⟨w.heap.size,len,p0,by rw [f2],by omega,heap_alloc_new w _,by omega,?_,?_,?_⟩⟩
          · have :len≤len*te.size:=Nat.le_mul_of_pos_right _ (by omega)
            unfold maxLen;omega
          · simp at hlen;rw [hlen,f2]
          · rw [←hlen];exact List.take_length
        · cases h
      · cases h
   · cases h
 · cases h
end
end Go.Vg

end
section
namespace Go.Vg
open Go
section
variable {P:Program} {C:Ctx} {A A':Nat→Prop} {β:Nat→Value} {st:St} {a:Act} {w:World} {T:bT}
theorem hZ:∀(row:List Ty) (vs:List Value),cy.bP row vs=true→bh w A row vs (Row.zero row)
 | [],[],_=>by simp [bh]
 | .int k::ts, .int k' n::vs,h=>by
   simp only [cy.bP,Bool.and_eq_true,decide_eq_true_eq] at h
   obtain⟨⟨h1,h2⟩,h3⟩:=h
   subst h1;subst h2
   simp only [bh,Row.zero,oT,tG]
   refine⟨_,vs,rfl,?_,hZ ts vs h3⟩
   simp only [Rd,D.zero]
   cases k<;>simp [DI.zero,DI.toInt,lo,hi]
 | .bool::ts, .bool b::vs,h=>by
   cases b with
   |true=>simp [cy.bP] at h
   |false=>
    simp only [cy.bP] at h
    simp only [bh,Row.zero,oT,tG]
    exact⟨_,vs,rfl,by simp [Rd,D.zero],hZ ts vs h⟩
 | .str::ts, .string s::vs,h=>by
   simp only [cy.bP,Bool.and_eq_true] at h
   simp only [bh,Row.zero,oT,tG]
   refine⟨_,vs,rfl,?_,hZ ts vs h.2⟩
   simp only [Rd,D.zero]
   refine⟨?_,by simp⟩
   have :s.data.toList= []:=by simpa using h.1
   have hs:s=⟨#[]⟩:=by
    apply ByteArray.ext
    apply Array.ext'
    exact this
   rw [hs]
 | .slice r::ts, .slice ad l c::vs,h=>by
   cases ad with
   |some p=>simp [cy.bP] at h
   |none=>
    cases l with
    |succ l=>simp [cy.bP] at h
    |zero=>
     cases c with
     |succ c=>simp [cy.bP] at h
     |zero=>
      simp only [cy.bP] at h
      simp only [bh,Row.zero,oT,tG]
      refine⟨_,vs,rfl,?_,hZ ts vs h⟩
      simp only [Rd,D.zero]
      exact⟨none,0,[],by simp,by simp,by simp,by simp [bX],by simp⟩
 | [],_::_,h=>by simp [cy.bP] at h
 | .int _::_,[],h=>by simp [cy.bP] at h
 | .bool::_,[],h=>by simp [cy.bP] at h
 | .str::_,[],h=>by simp [cy.bP] at h
 | .slice _::_,[],h=>by simp [cy.bP] at h
 | .int _::_, .bool _::_,h| .int _::_, .string _::_,h| .int _::_, .slice .. ::_,h| .int _::_, .float .. ::_,h| .int _::_, .complex .. ::_,h| .int _::_, .pointer _::_,h
 | .int _::_, .map _::_,h| .int _::_, .chan _::_,h| .int _::_, .func .. ::_,h| .int _::_, .nilFunc::_,h| .int _::_, .iface .. ::_,h| .int _::_, .nilIface::_,h| .int _::_, .agg _::_,h| .int _::_, .tuple _::_,h=>by simp [cy.bP] at h
 | .bool::_, .int .. ::_,h| .bool::_, .string _::_,h| .bool::_, .slice .. ::_,h| .bool::_, .float .. ::_,h| .bool::_, .complex .. ::_,h| .bool::_, .pointer _::_,h
 | .bool::_, .map _::_,h| .bool::_, .chan _::_,h| .bool::_, .func .. ::_,h| .bool::_, .nilFunc::_,h| .bool::_, .iface .. ::_,h| .bool::_, .nilIface::_,h| .bool::_, .agg _::_,h| .bool::_, .tuple _::_,h=>by simp [cy.bP] at h
 | .str::_, .int .. ::_,h| .str::_, .bool _::_,h| .str::_, .slice .. ::_,h| .str::_, .float .. ::_,h| .str::_, .complex .. ::_,h| .str::_, .pointer _::_,h
 | .str::_, .map _::_,h| .str::_, .chan _::_,h| .str::_, .func .. ::_,h| .str::_, .nilFunc::_,h| .str::_, .iface .. ::_,h| .str::_, .nilIface::_,h| .str::_, .agg _::_,h| .str::_, .tuple _::_,h=>by simp [cy.bP] at h
 | .slice _::_, .int .. ::_,h| .slice _::_, .bool _::_,h| .slice _::_, .string .. ::_,h| .slice _::_, .float .. ::_,h| .slice _::_, .complex .. ::_,h| .slice _::_, .pointer _::_,h
 | .slice _::_, .map _::_,h| .slice _::_, .chan _::_,h| .slice _::_, .func .. ::_,h| .slice _::_, .nilFunc::_,h| .slice _::_, .iface .. ::_,h| .slice _::_, .nilIface::_,h| .slice _::_, .agg _::_,h| .slice _::_, .tuple _::_,h=>by simp [cy.bP] at h
theorem qG {row:List Ty} {z:Value}(h:cy row z=true):bh w A row z.cells.toList (Row.zero row):=by
 unfold cy at h
 split at h
 · exact hZ row _ h
 · rename_i hna
   have hz:z.cells= #[z]:=by cases z<;>first|rfl|exact absurd rfl (hna _)
   rw [hz];exact hZ row _ h
theorem oV {row:List Ty} {vs:List Value} {x:Row row}(h:bh w A row vs x):∀n,bX (bh w A row) (List.replicate n vs).flatten (List.replicate n x)
 |0=>by simp [bX]
 |n+1=>by
  simp only [List.replicate_succ,List.flatten_cons]
  exact⟨vs,_,rfl,h,oV h n⟩
theorem zS(hT:bt T P)(hB:aD C A β st a w) {dst:Option Nat}(hd:∀t,dst=some t→t<st.n) {d:Nat}(fA:st.h d=none∧n3 d=false) {t:TypeId} {x y:AV} {vx vy:Value}(hx:aa w A β vx x)(hy:aa w A β vy y) {out:Out}
  (h:qy T d t x y=some out) (hc:∀p∈out.cond,p):∃v' w',(Instr.makeSlice t vx vy).run P w= .ok v' w'∧Rel C (st.put dst out) (a.put dst v') w':=by
 unfold qy at h
 split at h
 · rename_i k n k' c
   split at h
   · rename_i e te he j5
     split at h
     · rename_i row jZ
       obtain⟨hu,IY,i,hi,nW,KD,Nd⟩:=yn hT he j5
       cases hq:(Nat.beq row.length te.size&&Nat.blt 0 te.size&&cy row te.zero) with
       |false=>simp [hq] at h
       |true=>
        simp only [hq,cond_true,Option.some.injEq] at h
        subst h
        simp only [Bool.and_eq_true] at hq
        obtain⟨⟨q1,q2⟩,q3⟩:=hq
        have q1:=Nat.eq_of_beq_eq_true q1
        have q2:=Nat.le_of_ble_eq_true q2
        obtain⟨c0,c1,c2⟩:=dK hc
        simp only [aa] at hx hy
        obtain⟨rfl,_⟩:=hx
        obtain⟨rfl,yv⟩:=hy
        have hz:=qG (w:=w) (A:=A) q3
        have Nl:=fK row _ _ hz
        have Gh:te.zero.cells.size=te.size:=by simp at Nl;omega
        have amk:(te.bytes:Int)*c≤281474976710656:=by
         rcases Nat.eq_zero_or_pos te.bytes with BO|BO
         · rw [BO];simp
         · have :=(Int.le_ediv_iff_mul_le (show(0:Int)<te.bytes by omega)).1 c2
           rw [Int.mul_comm];omega
        have zO:c≤9223372036854775807:=by
         have :=Int.ediv_le_self (te.bytes:Int) (show(0:Int)≤140737488355328 by omega)
         omega
        have hr:=run_make (P:=P) w t e i te.zero hu hi Nd k k' n c c0 c1 (by rw [KD];exact amk) zO
        refine⟨_,_,hr,Rel.j4 (hB.KH hd fA (fz:= []) (xs:=(List.replicate n.toNat te.zero.cells.toList).flatten) ⟨rfl,rfl,rfl,by simp,fun k hk _=>heap_alloc_old w _ k hk⟩ (by simp) ?_ ?_ (fun b hb=>by simp only [aw,Option.some.injEq] at hb;omega))⟩
        · have gB:(madeCells te.zero.cells (c.toNat*i.size)).toList=(List.replicate c.toNat te.zero.cells.toList).flatten:=by
           have :=oa te.zero.cells (by omega) c.toNat
           rw [Gh] at this
           simp [madeCells,nW,Gh,this]
          have zT:∀m,(List.replicate m te.zero.cells.toList).flatten.length=m*te.size:=by
           intro m;simp [Gh]
          simp only [List.length_replicate]
          refine⟨by rw [zT,q1], .inr ⟨w.heap.size,c.toNat,_,rfl,by omega,heap_alloc_new w _,by omega,by unfold maxLen;omega,?_,?_⟩⟩
          · have :=congrArg List.length gB
            rw [zT,Array.length_toList] at this
            rw [this,q1]
          · rw [gB]
            have CY:c.toNat=n.toNat+(c.toNat-n.toNat):=by omega
            rw [CY,←List.replicate_append_replicate,List.flatten_append,q1,←zT n.toNat,List.take_left]
        · exact oV (qG q3) _
     · cases h
   · cases h
 · cases h
theorem C5 {t t' ty e:TypeId} {i:TypeInfo}(hu:P.underlying t=some (.slice e))(hi:P.info? e=some i) {b off dLen dCap:Nat} {cur:Array Value} {be:TypeId}(hg:w.heap[b]? =some (.cells cur be (0,0))) {x:Value} {m:Nat} {cs:List Value}
  (hlen:(Builtin.lenOf x).run P w= .ok m w) (gy:(Builtin.firstCells i.size (min m dLen) x).run P w= .ok cs.toArray w) (h1:∀u∈cs,u.oneCell'=true) (oP:off+cs.length≤cur.size):
  (Builtin.copy_ #[t,t'] ty #[.slice (some ⟨b,off,none⟩) dLen dCap,x]).run P w= .ok (.int .i64 ((min m dLen:Nat):Int)) (w.setRow b (cur.toList.take off++cs++cur.toList.drop (off+cs.length)).toArray):=by
 have kn:=run_storeCells_at P b off be cs 0 cur w hg (by simpa using oP) h1
 simp only [Nat.add_zero] at kn
 have hm:Nat.min m dLen=min m dLen:=rfl
 simp [Builtin.copy_,run_underlying hu,sizeOf,typeInfo,hi,hlen,hm,gy,kn,goInt]
theorem tJ {t t' ty e:TypeId} {i:TypeInfo}(hu:P.underlying t=some (.slice e))(hi:P.info? e=some i) {ad:Option Addr} {dCap:Nat} {x:Value} {m:Nat}
  (hlen:(Builtin.lenOf x).run P w= .ok m w) (gy:(Builtin.firstCells i.size 0 x).run P w= .ok #[] w):
  (Builtin.copy_ #[t,t'] ty #[.slice ad 0 dCap,x]).run P w= .ok (.int .i64 0) w:=by
 have hm:Nat.min m 0=0:=Nat.min_eq_right (Nat.zero_le _)
 cases ad<;>simp [Builtin.copy_,run_underlying hu,sizeOf,typeInfo,hi,hlen,gy,goInt,storeCells]
theorem aD.same(hB:aD C A β st a w) {dst:Option Nat}(hd:∀t,dst=some t→t<st.n) {c:List Prop} {r:AV} {k:Nat} {ab:AB}(hk:st.h k=some ab) {v:Value}(h:aa w A β v r):
  aD C A β (st.put dst {cond:=c,res:=r,gk:= [(k,ab)]}) (a.put dst v) w:=by
 refine hB.step (out:= {cond:=c,res:=r,gk:= [(k,ab)]}) hd (by simp [aq]) ?_ (fun _ _=>rfl) (cL.refl w A) rfl rfl rfl (Nat.le_refl _) (fun _ _ _=>rfl) hB.bound (fun b h=> .inl h) ?_ (by simp [aq]) (by simp [aq]) (by simp [aq]) h
 · intro j b h;obtain⟨rfl,_⟩:=dw h;simp [hk]
 · intro j b h _
   obtain⟨rfl,rfl⟩:=dw h
   simp only [cH]
   exact hB.blocks _ _ hk
theorem tK(n:Nat)(h:n≤maxLen):aa w A β (.int .i64 (n:Int)) (.int .i64 (n:Int)):=by
 simp only [aa,lo,hi,true_and]
 unfold maxLen at h;omega
theorem zU(hB:aD C A β st a w) {dst:Option Nat}(hd:∀t,dst=some t→t<st.n) {k e:Nat} {row:List Ty} {l m':List (Row row)}(hk:st.h k=some (.row e row l false)) {b cap off:Nat}(bU:β k= .slice (some ⟨b,0,none⟩) l.length cap)
  {cs:List Value} (c8:bX (bh w A row) cs m') (oP:off+m'.length≤l.length) {c:List Prop} {r:AV} {v:Value} (ra:∀w',aa w' A β v r) {cur:Array Value} (hg:w.heap[b]? =some (.cells cur e (0,0)))
  (cR:cur.size=cap*row.length) (hle:l.length≤cap) (ri:cap≤maxLen) (hL:bX (bh w A row) (cur.toList.take (l.length*row.length)) l) (jg:¬A b):
  Rel C (st.put dst {cond:=c,res:=r,gk:= [(k, .row e row (l.take off++m'++l.drop (off+m'.length)) false)]}) (a.put dst v)
   (w.setRow b (cur.toList.take (off*row.length)++cs++cur.toList.drop (off*row.length+cs.length)).toArray):=by
 have hb:aw (β k)=some b:=by rw [bU];rfl
 have hlen:=eE m' cs c8
 have Vt:l.length*row.length≤cur.size:=by rw [cR];exact Nat.mul_le_mul_right _ hle
 have TO:off*row.length+cs.length≤l.length*row.length:=by rw [hlen,←Nat.add_mul];exact Nat.mul_le_mul_right _ oP
 refine hB.write hd (k:=k) (fz:= []) (ab:= .row e row _ false) (by simp [hk]) hb jg hg ⟨rfl,rfl,rfl⟩ (by simp) ?_ (ra _)
 intro A2 h1 h2 h3
 have hK:cL w (w.setRow b (cur.toList.take (off*row.length)++cs++cur.toList.drop (off*row.length+cs.length)).toArray) A A2:=fun b' bw=>⟨h1 b' bw,setRow_other w b b' _ (fun h'=>jg (h'▸bw))⟩
 have KE:(l.take off++m'++l.drop (off+m'.length)).length=l.length:=by simp;omega
 have TP:(cur.toList.take (off*row.length)++cs++cur.toList.drop (off*row.length+cs.length)).toArray.size=cur.size:=by simp;omega
 refine⟨_,⟨?_, .inr ⟨b,cap,_,by rw [bU,KE],by omega,setRow_heap w b cur _ e _ hg,by omega,ri,TP.trans cR,rfl⟩⟩,?_,fun b' bw=> ?_⟩
 · rw [List.length_take,KE]
   refine Nat.min_eq_left (Nat.le_trans Vt (Nat.le_of_eq TP.symm))
 · rw [KE]
   have Cj:(cur.toList.take (off*row.length)++cs++cur.toList.drop (off*row.length+cs.length)).take (l.length*row.length)=
     (cur.toList.take (l.length*row.length)).take (off*row.length)++cs++(cur.toList.take (l.length*row.length)).drop ((off+m'.length)*row.length):=by
    rw [List.take_take,Nat.min_eq_left (by omega),List.take_append,List.take_of_length_le (by simp;omega),Nat.add_mul,←hlen,List.drop_take]
    congr 1
    congr 1
    simp;omega
   have e1:(cur.toList.take (off*row.length)++cs++cur.toList.drop (off*row.length+cs.length)).toArray.toList=cur.toList.take (off*row.length)++cs++cur.toList.drop (off*row.length+cs.length):=by simp
   rw [e1,Cj]
   have s1:=dV l _ off hL
   have s2:=dV l _ (off+m'.length) hL
   exact bA (fun c x hx=>bB hK row c x hx) _ _ (gx _ _ _ _ (gx _ _ _ _ s1.1 c8) s2.2)
 · rw [hb] at bw;simp only [Option.some.injEq] at bw;subst bw
   simp only [Bool.false_eq_true,if_false]
   intro CZ
   rcases h2 _ CZ with h|⟨q,hq,_⟩
   · exact jg h
   · simp at hq
theorem KI(hT:bt T P)(hB:aD C A β st a w) {dst:Option Nat}(hd:∀t,dst=some t→t<st.n) {t t' ty:TypeId} {s x:AV} {vs vx:Value}(hs:aa w A β vs s)(hx:aa w A β vx x) {out:Out}
  (h:nq T st.h t t' s x=some out) (hc:∀p∈out.cond,p):∃v' w',(Builtin.copy_ #[t,t'] ty #[vs,vx]).run P w= .ok v' w'∧Rel C (st.put dst out) (a.put dst v') w':=by
 unfold nq at h
 split at h
 · rename_i k
   split at h
   · rename_i e row l hk
     cases hq:bn T t row.length with
     |false=>simp [hq] at h
     |true=>
      simp only [hq,cond_true] at h
      obtain⟨el,i,hu,hi,cR,iy⟩:=ep hT hq
      split at h
      · rename_i m hm
        simp only [Option.some.injEq] at h;subst h
        obtain⟨cs,eZ⟩:=Ci (P:=P) hB hx hm
        simp only [aa] at hs
        obtain⟨rfl,_⟩:=hs
        rcases eu hB hk with⟨g1,g2⟩|⟨b,cap,cur,g1,g2,g3,g4,g5,g6,g7⟩
        · subst g2
          have hf:=eZ.first w rfl 0 (Nat.zero_le _)
          simp only [Nat.zero_mul,List.take_zero] at hf
          rw [g1]
          refine⟨_,_,tJ (ty:=ty) hu hi eZ.len (by rw [cR];exact hf),?_⟩
          have :=hB.same (dst:=dst) hd (c:= []) (r:= .int .i64 0) (v:= .int .i64 0) hk (by simp [aa,lo,Vg.hi])
          simpa using Rel.j4 this
        · simp only [Bool.false_eq_true,if_false] at g7
          have hn:min m.length l.length≤m.length:=Nat.min_le_left _ _
          have hf:=eZ.first w rfl _ hn
          have tL:=(dV m cs (min m.length l.length) eZ.rd).1
          have hlen:=eE _ _ tL
          have yl:(m.take (min m.length l.length)).length=min m.length l.length:=by simp
          have hr:=C5 (P:=P) (ty:=ty) (t':=t') (dLen:=l.length) (dCap:=cap) (off:=0) hu hi g2 eZ.len (by rw [cR];exact hf) (tB _ _ tL) (by
           rw [hlen,yl,g5]
           have :min m.length l.length*row.length≤cap*row.length:=Nat.mul_le_mul_right _ (by omega)
           omega)
          rw [g1]
          refine⟨_,_,hr,?_⟩
          have yx:=zU hB hd hk g1 (off:=0) (c:= []) tL (by rw [yl];omega) (fun w'=>tK (w:=w') (min m.length l.length) (by unfold maxLen;unfold maxLen at g4;omega)) g2 g5 g3 g4 g6 g7
          have e1:m.take l.length++l.drop m.length=l.take 0++m.take (min m.length l.length)++l.drop (0+(m.take (min m.length l.length)).length):=by
           rw [yl]
           simp only [List.take_zero,List.nil_append,Nat.zero_add]
           rcases Nat.le_total m.length l.length with hh|hh
           · rw [Nat.min_eq_left hh,List.take_of_length_le hh,List.take_length]
           · rw [Nat.min_eq_right hh,List.drop_length,List.drop_of_length_le hh]
          rw [e1]
          simpa using yx
      · cases h
   · cases h
 · rename_i k sz off n
   split at h
   · rename_i e row l hk
     cases hq:(bn T t row.length&&Nat.beq sz row.length) with
     |false=>simp [hq] at h
     |true=>
      simp only [hq,cond_true] at h
      simp only [Bool.and_eq_true] at hq
      obtain⟨q1,q2⟩:=hq
      have q2:=Nat.eq_of_beq_eq_true q2
      subst q2
      obtain⟨el,i,hu,hi,cR,iy⟩:=ep hT q1
      split at h
      · rename_i m hm
        simp only [Option.some.injEq] at h;subst h
        obtain⟨cs,eZ⟩:=Ci (P:=P) hB hx hm
        have hon:=dK hc
        simp only [aa] at hs
        rcases hs with⟨hn0,ad,cap,hv,zO⟩|⟨b',mm,hX,tv,hv,xe,amm,amn,amo⟩
        · subst hn0
          have hf:=eZ.first w rfl 0 (Nat.zero_le _)
          simp only [Nat.zero_mul,List.take_zero] at hf
          rw [hv]
          refine⟨_,_,tJ (ty:=ty) hu hi eZ.len (by rw [cR];exact hf),?_⟩
          have :=hB.same (dst:=dst) hd (c:= [off+0≤l.length]) (r:= .int .i64 0) (v:= .int .i64 0) hk (by simp [aa,lo,Vg.hi])
          simpa using Rel.j4 this
        · rcases eu hB hk with⟨g1,g2⟩|⟨b,cap,cur,g1,g2,g3,g4,g5,g6,g7⟩
          · rw [g1] at hv;cases hv
          · rw [g1] at hv
            simp only [Value.slice.injEq,Option.some.injEq,Addr.mk.injEq,and_true] at hv
            obtain⟨rfl,rfl,rfl⟩:=hv
            simp only [Bool.false_eq_true,if_false] at g7
            have hn:min m.length n≤m.length:=Nat.min_le_left _ _
            have hf:=eZ.first w rfl _ hn
            have tL:=(dV m cs (min m.length n) eZ.rd).1
            have hlen:=eE _ _ tL
            have yl:(m.take (min m.length n)).length=min m.length n:=by simp
            have hr:=C5 (P:=P) (ty:=ty) (t':=t') (dLen:=n) (dCap:=tv) (off:=off*row.length) hu hi g2 eZ.len (by rw [cR];exact hf) (tB _ _ tL) (by
             rw [hlen,yl,g5,←Nat.add_mul]
             exact Nat.mul_le_mul_right _ (by omega))
            rw [xe]
            refine⟨_,_,hr,?_⟩
            have yx:=zU hB hd hk g1 (off:=off) (c:= [off+n≤l.length]) tL (by rw [yl];omega) (fun w'=>tK (w:=w') (min m.length n) (by unfold maxLen;unfold maxLen at g4;omega)) g2 g5 g3 g4 g6 g7
            have e1:m.take n=m.take (min m.length n):=by
             rcases Nat.le_total m.length n with hh|hh
             · rw [Nat.min_eq_left hh,List.take_of_length_le hh,List.take_length]
             · rw [Nat.min_eq_right hh]
            rw [e1]
            rw [yl] at yx
            exact yx
      · cases h
   · cases h
 · cases h
end
end Go.Vg

end
section
namespace Go.Vg
open Go
section
variable {P:Program} {C:Ctx} {A A':Nat→Prop} {β:Nat→Value} {st:St} {a:Act} {w:World} {T:bT}
theorem KJ {t ty e:TypeId} {i:TypeInfo}(hu:P.underlying t=some (.slice e))(hi:P.info? e=some i) {z:Value}(hz:i.zero=some z) {b off n cap:Nat} {cur:Array Value} {be:TypeId}(hg:w.heap[b]? =some (.cells cur be (0,0)))
  {cs:List Value} (c8:(Builtin.zeroCells z.cells n).toList=cs) (h1:∀u∈cs,u.oneCell'=true) (oP:off+cs.length≤cur.size) (hn:0<n):
  (Builtin.clear_ #[t] ty #[.slice (some ⟨b,off,none⟩) n cap]).run P w= .ok (.tuple #[]) (w.setRow b (cur.toList.take off++cs++cur.toList.drop (off+cs.length)).toArray):=by
 have kn:=run_storeCells_at P b off be cs 0 cur w hg (by simpa using oP) h1
 simp only [Nat.add_zero] at kn
 obtain⟨m,rfl⟩:∃m,n=m+1:=⟨n-1,by omega⟩
 simp [Builtin.clear_,run_underlying hu,zeroValue,typeInfo,hi,hz,c8,kn]
theorem I1(hT:bt T P)(hB:aD C A β st a w) {dst:Option Nat}(hd:∀t,dst=some t→t<st.n) {t ty:TypeId} {x:AV} {vx:Value}(hx:aa w A β vx x) {out:Out}
  (h:mn T st.h t x=some out) (hc:∀p∈out.cond,p):∃v' w',(Builtin.clear_ #[t] ty #[vx]).run P w= .ok v' w'∧Rel C (st.put dst out) (a.put dst v') w':=by
 have Vu:∀w',aa w' A β (.tuple #[]) (.cB []):=fun w'=>by simp only [aa];exact⟨#[],rfl,by simp [ae]⟩
 unfold mn at h
 split at h
 · rename_i k sz off n
   split at h
   · rename_i e row l hk
     split at h
     · rename_i el te he j5
       obtain⟨hu,IY,i,hi,nW,KD,Nd⟩:=yn hT he j5
       cases hq:(bn T t row.length&&Nat.beq sz row.length&&Nat.beq row.length te.size&&cy row te.zero) with
       |false=>simp [hq] at h
       |true=>
        simp only [hq,cond_true,Option.some.injEq] at h
        subst h
        simp only [Bool.and_eq_true] at hq
        obtain⟨⟨⟨q0,q1⟩,q2⟩,q3⟩:=hq
        have q1:=Nat.eq_of_beq_eq_true q1
        have q2:=Nat.eq_of_beq_eq_true q2
        subst q1
        obtain⟨el',i',zN,gU,aqW,iy⟩:=ep hT q0
        have hon:=dK hc
        have hz:=qG (w:=w) (A:=A) q3
        have Nl:=fK row _ _ hz
        have Gh:te.zero.cells.size=te.size:=by simp at Nl;omega
        simp only [aa] at hx
        rcases hx with⟨hn0,ad,cap,hv,zO⟩|⟨b',mm,hX,tv,hv,xe,amm,amn,amo⟩
        · subst hn0
          rw [hv]
          refine⟨.tuple #[],w,by cases ad<;>simp [Builtin.clear_,run_underlying hu],?_⟩
          have :=hB.same (dst:=dst) hd (c:= [off+0≤l.length]) (r:= .cB []) (v:= .tuple #[]) hk (Vu w)
          simpa using Rel.j4 this
        · rcases eu hB hk with⟨g1,g2⟩|⟨b,cap,cur,g1,g2,g3,g4,g5,g6,g7⟩
          · rw [g1] at hv;cases hv
          · rw [g1] at hv
            simp only [Value.slice.injEq,Option.some.injEq,Addr.mk.injEq,and_true] at hv
            obtain⟨rfl,rfl,rfl⟩:=hv
            simp only [Bool.false_eq_true,if_false] at g7
            have gB:(Builtin.zeroCells te.zero.cells n).toList=(List.replicate n te.zero.cells.toList).flatten:=by
             have :=oa te.zero.cells (by omega) n
             simp [Builtin.zeroCells,this]
            have tL:=oV hz n
            have hlen:=eE _ _ tL
            rw [List.length_replicate] at hlen
            rw [xe]
            by_cases hn:n=0
            · subst hn
              refine⟨.tuple #[],w,by simp [Builtin.clear_,run_underlying hu],?_⟩
              have :=hB.same (dst:=dst) hd (c:= [off+0≤l.length]) (r:= .cB []) (v:= .tuple #[]) hk (Vu w)
              simpa using Rel.j4 this
            · have hr:=KJ (P:=P) (ty:=ty) (n:=n) (cap:=tv) (off:=off*row.length) hu hi Nd g2 gB (tB _ _ tL) (by
               rw [hlen,g5,←Nat.add_mul]
               exact Nat.mul_le_mul_right _ (by omega)) (by omega)
              refine⟨_,_,hr,?_⟩
              have yx:=zU hB hd hk g1 (off:=off) (c:= [off+n≤l.length]) (r:= .cB []) (v:= .tuple #[]) tL (by rw [List.length_replicate];omega) Vu g2 g5 g3 g4 g6 g7
              rw [List.length_replicate] at yx
              exact yx
     · cases h
   · cases h
 · cases h
end
end Go.Vg

end
section
namespace Go.Vg
open Go
section
variable {P:Program} {C:Ctx} {A A':Nat→Prop} {β:Nat→Value} {st:St} {a:Act} {w:World} {T:bT}
theorem yy:∀(u:List UInt8) (cs:List Value),bX (bh w A [.int .u8]) cs u→cs=u.map fun b=>Value.int .u8 (b.toNat:Int)
 | [],cs,h=>by simp only [bX] at h;simp [h]
 |b::u,cs,⟨c1,c2,hc,h1,h2⟩=>by
  subst hc
  simp only [bh] at h1
  obtain⟨v,vs,rfl,h3,rfl⟩:=h1
  simp only [Rd] at h3
  rw [yy u c2 h2]
  simp only [List.map_cons,List.cons_append,List.nil_append,List.cons.injEq,and_true]
  exact h3.1
theorem foldl_push:∀(u:List UInt8) (r:ByteArray),(u.map fun b=>(b.toNat:Int)).foldl (fun r n=>r.push (UInt8.ofNat n.toNat)) r=⟨(r.data.toList++u).toArray⟩
 | [],r=>by simp
 |b::u,r=>by
  simp only [List.map_cons,List.foldl_cons]
  rw [foldl_push u]
  simp
theorem tM(hB:aD C A β st a w) {x:AV} {v:Value}(hx:aa w A β v x) {u:List UInt8}(h:j3 st.h [.int .u8] x=some u)(KK:∀n c,v= .slice none n c→n=0)(ny:∃ad n c,v= .slice ad n c):
  (Conv.bytesToString v).run P w= .ok (.string ⟨u.toArray⟩) w∧u.length≤maxLen:=by
 obtain⟨cs,eZ⟩:=Ci (P:=P) hB hx h
 have c8:=yy u cs eZ.rd
 obtain⟨ad,n,c,rfl⟩:=ny
 have hn:n=u.length:=by
  have :=eZ.len
  simpa [Builtin.lenOf] using this
 refine⟨?_,eZ.max⟩
 cases ad with
 |none=>
  have :=KK n c rfl
  have hu:u= []:=List.eq_nil_of_length_eq_zero (by omega)
  subst hu
  simp [Conv.bytesToString]
  rfl
 |some p=>
  have hf:=eZ.first w rfl u.length (Nat.le_refl _)
  have hl:=eE (row:= [.int .u8]) u cs eZ.rd
  simp only [List.length_singleton,Nat.mul_one] at hf hl
  rw [←hl,List.take_length] at hf
  have agd:(loadCells p n).run P w= .ok ((u.map fun b=>(b.toNat:Int)).map (Value.int .u8)).toArray w:=by
   simp only [Builtin.firstCells,Nat.mul_one] at hf
   rw [hn,←hl,hf,c8]
   simp
  rw [run_bytesToString w p n c _ agd,foldl_push]
  simp
theorem tN(hB:aD C A β st a w) {dst:Option Nat}(hd:∀t,dst=some t→t<st.n) {e:TypeId} {u:List UInt8}(hu:u.length≤maxLen) {c:List Prop}:
  ∃v' w',(Conv.stringToBytes e ⟨u.toArray⟩).run P w= .ok v' w'∧Rel C (st.put dst {cond:=c,res:= .sl [.int .u8] u}) (a.put dst v') w':=by
 let cap:=grownCap w u.length 0 e
 have GY:u.length≤cap:=grownCap_ge w u.length 0 e
 have zO:cap≤maxLen:=grownCap_le_maxLen w u.length 0 e hu
 let arr:Array Value:=(u.map fun b=>Value.int .u8 (b.toNat:Int)).toArray++Array.replicate (cap-u.length) (.int .u8 0)
 let w':World:=(w.drew.alloc (.cells arr e)).freeze ⟨w.heap.size,arr.size,none⟩ 1
 have fU:(Conv.stringToBytes e ⟨u.toArray⟩).run P w= .ok (.slice (some ⟨w.heap.size,0,none⟩) u.length cap) w':=by
  have Gk:(w.drew.alloc (.cells arr e)).shape? w.heap.size=some (e,arr.size):=by
   have :=heap_alloc_new w.drew (.cells arr e)
   unfold World.shape?
   rw [show(w.drew.alloc (.cells arr e)).heap[w.heap.size]? =some (.cells arr e) from this]
  have h1:(⟨u.toArray⟩:ByteArray).size=u.length:=rf u
  simp only [Conv.stringToBytes,Sem.run_bind,run_choose,Question.forced,Bool.false_eq_true,if_false,Result.andThen_ok,h1,newRow,run_newObj,Sem.run_pure,markStringish,run_shape]
  have hg:(Question.appendCap u.length 0 e).cut (w.tape w.drawn (Question.appendCap u.length 0 e))=cap:=rfl
  rw [hg]
  have Vv:Array.map (fun b:UInt8=>Value.int IntKind.u8 (b.toNat:Int)) u.toArray++Array.replicate (cap-u.length) (Value.int IntKind.u8 0)=arr:=by
   simp [arr]
  rw [Vv]
  have hw2:({heap:=w.heap.push (Obj.cells arr e),tape:=w.tape,drawn:=w.drawn+1,os:=w.os,output:=w.output}:World)=w.drew.alloc (.cells arr e):=rfl
  simp only [hw2,Gk,run_freeze,Result.andThen_ok]
  rfl
 have mU:∀b,b<w.heap.size→w'.heap[b]? =w.heap[b]? :=by
  intro b hb
  have h2:(w.drew.alloc (.cells arr e)).heap[b]? =w.heap[b]? :=mw (w:=w.drew) _ b hb
  simp only [w',World.freeze,Nat.one_ne_zero,if_false,Array.getElem?_modify]
  rw [if_neg (by omega)]
  exact h2
 have dg:∃fz,w'.heap[w.heap.size]? =some (.cells arr e fz):=by
  have h2:(w.drew.alloc (.cells arr e)).heap[w.heap.size]? =some (.cells arr e):=heap_alloc_new w.drew _
  simp only [w',World.freeze,Nat.one_ne_zero,if_false,Array.getElem?_modify,if_true,h2,Option.map_some]
  exact⟨_,rfl⟩
 obtain⟨fz,dg⟩:=dg
 have nN:w'.heap.size=w.heap.size+1:=by
  have :(w.drew.alloc (.cells arr e)).heap.size=w.heap.size+1:=by simp
  simp only [w',World.freeze,Nat.one_ne_zero,if_false,Array.size_modify]
  exact this
 let A':Nat→Prop :=fun b=>A b∨b=w.heap.size
 have hK:cL w w' A A':=fun b hb=>⟨.inl hb,mU b (hB.bound b hb)⟩
 refine⟨_,w',fU,A',β,?_⟩
 refine hB.step (out:= {cond:=c,res:= .sl [.int .u8] u}) hd (by simp [aq]) (by simp [aq]) (fun _ _=>rfl) hK rfl rfl rfl (by omega) (fun b hb _=>mU b hb) ?_ ?_ (by simp [aq]) (by simp [aq]) (by simp [aq]) (by simp [aq]) ?_
 · intro b hb
   rcases hb with hb|rfl
   · have :=hB.bound b hb;omega
   · omega
 · intro b hb
   rcases hb with hb|rfl
   · exact .inl hb
   · exact .inr (.inl (Nat.le_refl _))
 · simp only [aa,Rd]
   refine⟨_,cap,_,rfl,GY,zO,CV u,fun _=>⟨w.heap.size,0,rfl, .inr rfl,fun j v hj=> ?_⟩⟩
   simp only [World.cell?,dg,Nat.zero_add]
   have eD:j<(u.map fun b=>Value.int .u8 (b.toNat:Int)).length:=by
    rcases Nat.lt_or_ge j (u.map fun b=>Value.int .u8 (b.toNat:Int)).length with h|h
    · exact h
    · rw [List.getElem?_eq_none h] at hj;cases hj
   simp only [arr,Option.isSome_none,Bool.false_eq_true,if_false]
   rw [Array.getElem?_append_left (by simpa using eD)]
   simpa using hj
theorem Vw {row:List Ty} {n c:Nat} {l:List (Row row)}(h:Rd w A (.slice row) (.slice none n c) l)(hp:0<row.length):n=0:=by
 simp only [Rd] at h
 obtain⟨ad,cap,cs,h1,h2,h3,h4,h5⟩:=h
 simp only [Value.slice.injEq] at h1
 obtain⟨rfl,rfl,rfl⟩:=h1
 have hl:=eE l cs h4
 by_cases hc:cs= []
 · subst hc
   simp only [List.length_nil] at hl
   rcases Nat.mul_eq_zero.1 hl.symm with h|h
   · exact h
   · omega
 · obtain⟨b,o,h,_⟩:=h5 hc
   cases h
theorem Nn(hB:aD C A β st a w) {x:AV} {v:Value}(hx:aa w A β v x)(hn:rM x=true) {u:List UInt8}(h:j3 st.h [.int .u8] x=some u):
  (∃ad n c,v= .slice ad n c)∧∀n c,v= .slice none n c→n=0:=by
 have ny:∀ {row:List Ty} {l:List (Row row)},row= [.int .u8]→Rd w A (.slice row) v l→(∃ad n c,v= .slice ad n c)∧∀n c,v= .slice none n c→n=0:=by
  intro row l hr h
  obtain⟨ad,cap,rfl,_⟩:=rV h
  refine⟨⟨_,_,_,rfl⟩,fun n c he=> ?_⟩
  simp only [Value.slice.injEq] at he
  obtain⟨rfl,rfl,rfl⟩:=he
  exact Vw h (by subst hr;simp)
 unfold j3 at h
 split at h
 · simp [rM] at hn
 · simp only [aa] at hx;subst hx
   exact⟨⟨_,_,_,rfl⟩,fun n c h=>by simp only [Value.slice.injEq] at h;omega⟩
 · rename_i h1 h2
   cases x with
   |sl r l=>
    simp only [fq] at h
    obtain⟨e,_⟩:=hY h
    exact ny e hx
   |full r l=>
    simp only [fq] at h
    obtain⟨e,_⟩:=hY h
    simp only [aa] at hx
    exact ny e hx.1
   |own k=>
    simp only [fq] at h
    simp only [aa] at hx
    cases hk:st.h k with
    |none=>simp [hk] at h
    |some ab=>
     cases ab with
     |cells cs=>simp [hk] at h
     |arr _ _=>simp [hk] at h
     |views e j n m sz=>simp [hk] at h
     |gw _ _ _ _ _=>simp [hk] at h
     |row e row l fr=>
      rcases kS hB hk with⟨g1,g2⟩|⟨b,cap,cs,g1,_⟩
      · rw [hx.1,g1];exact⟨⟨_,_,_,rfl⟩,fun n c h=>by simp only [Value.slice.injEq] at h;omega⟩
      · rw [hx.1,g1];exact⟨⟨_,_,_,rfl⟩,fun n c h=>by simp only [Value.slice.injEq] at h;cases h.1⟩
   |pre k n=>
    simp only [aa] at hx
    rcases hx with⟨_,h,_⟩|⟨b,m,cap,_,h,_⟩
    · rw [h];exact⟨⟨_,_,_,rfl⟩,fun n c h=>by simp only [Value.slice.injEq] at h;omega⟩
    · rw [h];exact⟨⟨_,_,_,rfl⟩,fun n c h=>by simp only [Value.slice.injEq] at h;cases h.1⟩
   |view k sz off n=>
    simp only [aa] at hx
    rcases hx with⟨_,ad,c,h,_⟩|⟨b,m,cap,hX,_,h,_⟩
    · rw [h];exact⟨⟨_,_,_,rfl⟩,fun n c h=>by simp only [Value.slice.injEq] at h;omega⟩
    · rw [h];exact⟨⟨_,_,_,rfl⟩,fun n c h=>by simp only [Value.slice.injEq] at h;cases h.1⟩
   |_=>simp [fq] at h
def Vx(P:Program)(C:Ctx)(st:St)(a:Act)(w:World)(d:Option Nat)(out:Out)(s:Sem Value):Prop :=∃v w',s.run P w= .ok v w'∧Rel C (st.put d out) (a.put d v) w'
theorem Reads.oW(hB:aD C A β st a w) {dst:Option Nat}(hd:∀t,dst=some t→t<st.n) {s:Sem Value} {out:Out}(h:Reads P A β w s out):Vx P C st a w dst out s:=
 let⟨hq,v,h1,h2⟩:=h
 ⟨v,w,h1,Rel.j4 (hB.quiet hd hq h2)⟩
theorem Np(hT:bt T P)(hB:aD C A β st a w) {dst:Option Nat}(hd:∀t,dst=some t→t<st.n) {s d:TypeId} {k:Nat} {v:Value}(hx:aa w A β v (.own k)) {out:Out}
  (h:vq T st.h s d k=some out) (hc:∀p∈out.cond,p):Vx P C st a w dst out (convert s d v):=by
 unfold vq at h
 cases ő:Nat.beq s d with
 |false=>simp [ő] at h
 |true=>
  have ő:=Nat.eq_of_beq_eq_true ő
  subst ő
  simp only [Nat.beq_refl,cond_true] at h
  split at h
  · rename_i ts xj
    have nP:=jm hT xj
    split at h
    · rename_i e BV
      rw [BV] at nP
      split at h
      · rename_i te e0 row l j5 hk
        have KL:=jm hT j5
        split at h
        · rename_i l' Vy gz
          rw [Vy] at KL
          obtain⟨he,hl⟩:=hY gz
          subst he
          simp only at hl
          subst hl
          simp only [Option.some.injEq] at h
          subst h
          have iy:0<l.length:=dK hc
          obtain⟨xs,ho,qF,jg⟩:=hB.blocks k _ hk
          simp only [aa] at hx
          rcases ho.2 with⟨_,h0⟩|⟨g,cap,cur,hv,_,hg,hn,GY,cR,BS⟩
          · omega
          · have xc:aw (β k)=some g:=by rw [hv];rfl
            have amp:¬A g:=by have :=jg g xc;simpa using this
            have aqX:g<w.heap.size:=(Array.getElem?_eq_some_iff.1 hg).1
            rw [hx.1,hv]
            let w':World:=w.freeze ⟨g,cur.size,none⟩ 1
            have Gk:w.shape? g=some (e0,cur.size):=by simp [World.shape?,hg]
            have fU:(convert s s (.slice (some ⟨g,0,none⟩) l.length cap)).run P w= .ok (.slice (some ⟨g,0,none⟩) l.length cap) w':=by
             simp only [convert,Sem.run_bind,run_underlying nP,run_underlying KL,Result.andThen_ok,beq_self_eq_true,markStringish,run_shape,Gk,run_freeze,Sem.run_pure]
             rfl
            have mU:∀b,b≠g→w'.heap[b]? =w.heap[b]? :=by
             intro b hb
             simp only [w',World.freeze,Nat.one_ne_zero,if_false,Array.getElem?_modify]
             rw [if_neg (Ne.symm hb)]
            have dg:∃fz,w'.heap[g]? =some (.cells cur e0 fz):=by
             simp only [w',World.freeze,Nat.one_ne_zero,if_false,Array.getElem?_modify,if_true,hg,Option.map_some]
             exact⟨_,rfl⟩
            obtain⟨fz,dg⟩:=dg
            have nN:w'.heap.size=w.heap.size:=by simp only [w',World.freeze,Nat.one_ne_zero,if_false,Array.size_modify]
            have hK:cL w w' A (fun b=>A b∨b=g):=fun b hb=>⟨.inl hb,mU b (fun h=>amp (h▸hb))⟩
            have aez:kj st {cond:= [0<l.length],res:= .sl [.int .u8] l,del:= [k]} k:=⟨by simp [hk], .inr (by simp [aE])⟩
            refine⟨_,w',fU,fun b=>A b∨b=g,β,?_⟩
            refine hB.step (out:= {cond:= [0<l.length],res:= .sl [.int .u8] l,del:= [k]}) hd (by simp [aq]) (by simp [aq]) (fun _ _=>rfl) hK rfl rfl rfl (by omega) (fun b hb ŉ=>mU b (fun h=>ŉ k aez (by rw [h];exact xc))) ?_ ?_ (by simp [aq]) (by simp [aq]) (by simp [aq]) (by simp [aq]) ?_
            · intro b hb
              rcases hb with hb|rfl
              · have :=hB.bound b hb;omega
              · omega
            · intro b hb
              rcases hb with hb|rfl
              · exact .inl hb
              · exact .inr (.inr ⟨k,aez,xc⟩)
            · simp only [aa,Rd]
              refine⟨_,cap,xs,rfl,hn,GY,bA (fun c x hx=>bB hK _ c x hx) _ _ qF,fun _=>⟨g,0,rfl, .inr rfl,fun j u hj=> ?_⟩⟩
              rw [←BS,List.getElem?_take] at hj
              split at hj
              · simp only [World.cell?,dg,Nat.zero_add,Option.isSome_none,Bool.false_eq_true,if_false]
                simpa using hj
              · cases hj
        · cases h
      · cases h
    · cases h
  · cases h
theorem C6(hT:bt T P)(hB:aD C A β st a w) {dst:Option Nat}(hd:∀t,dst=some t→t<st.n) {s d:TypeId} {x:AV} {v:Value}(hx:aa w A β v x) {out:Out}
  (h:kZ T st.h s d x=some out) (hc:∀p∈out.cond,p):Vx P C st a w dst out (convert s d v):=by
 unfold kZ at h
 split at h
 · rename_i ts td xj htd
   have nP:=jm hT xj
   have KM:=jm hT htd
   split at h
   · rename_i k0 k k' n BV qD
     rw [BV] at nP;rw [qD] at KM
     simp only [aa] at hx
     obtain⟨rfl,hn⟩:=hx
     have fU:(convert s d (.int k' n)).run P w= .ok (.int k (k.wrap n)) w:=by
      simp [convert,run_underlying nP,run_underlying KM,Conv.intToInt]
     split at h
     · rename_i hr
       simp only [Option.some.injEq] at h;subst h
       have Vz:lo k≤n∧n≤hi k:=by omega
       rw [tw Vz] at fU
       exact Reads.oW hB hd ⟨⟨rfl,rfl,rfl⟩,_,fU,by simp only [aa];exact⟨trivial,Vz⟩⟩
     · obtain⟨hq,hr,_⟩:=mq (w:=w) (A:=A) (β:=β) h hc
       exact Reads.oW hB hd ⟨hq,_,fU,hr⟩
   · rename_i u BV qD
     rw [BV] at nP;rw [qD] at KM
     simp only [Option.some.injEq] at h;subst h
     have jK:=hx
     simp only [aa] at hx
     obtain⟨rfl,hn⟩:=hx
     exact Reads.oW hB hd ⟨⟨rfl,rfl,rfl⟩,_,by simp [convert,run_underlying nP,run_underlying KM],jK⟩
   · rename_i e u BV qD
     rw [BV] at nP;rw [qD] at KM
     simp only [aa] at hx
     obtain⟨rfl,hn⟩:=hx
     split at h
     · rename_i te j5
       have KL:=jm hT j5
       split at h
       · rename_i Vy
         rw [Vy] at KL
         simp only [Option.some.injEq] at h;subst h
         obtain⟨v',w',h1,h2⟩:=tN (P:=P) hB hd (e:=e) hn (c:= [])
         exact⟨v',w',by simp [convert,run_underlying nP,run_underlying KM,run_underlying KL,h1],h2⟩
       · cases h
     · cases h
   · rename_i e BV qD
     rw [BV] at nP;rw [qD] at KM
     split at h
     · rename_i te j5
       have KL:=jm hT j5
       split at h
       · rename_i Vy
         rw [Vy] at KL
         split at h
         · rename_i u TP hu
           simp only [Option.some.injEq] at h;subst h
           have hvs:=Nn hB hx TP hu
           obtain⟨h1,h2⟩:=tM (P:=P) hB hx hu hvs.2 hvs.1
           obtain⟨ad,n,c,rfl⟩:=hvs.1
           refine Reads.oW hB hd ⟨⟨rfl,rfl,rfl⟩, .string ⟨u.toArray⟩,?_,by simp only [aa];exact⟨trivial,h2⟩⟩
           simp [convert,run_underlying nP,run_underlying KM,run_underlying KL,h1]
         · cases h
       · cases h
     · cases h
   · exact Np hT hB hd hx h hc
   · cases h
 · cases h
end
end Go.Vg

end
section
namespace Go.Vg
open Go
structure jM (w:World) (A:Nat→Prop) (w':World) (v:Value) (res:AV) (bs:List AB) (A':Nat→Prop) (aI:Nat→Value):Prop where
 os:w'.os=w.os
 tape:w'.tape=w.tape
 output:w'.output=w.output
 size:w.heap.size≤w'.heap.size
 same:∀b,b<w.heap.size→w'.heap[b]? =w.heap[b]?
 mono:∀b,A b→A' b
 kg:∀b,b<w.heap.size→A' b→A b
 bound:∀b,A' b→b<w'.heap.size
 res:aa w' A' aI v res
 rows:∀i ab,bs[i]? =some ab→BR w' A' aI i ab∧∀b,aw (aI i)=some b→w.heap.size≤b
 apart:∀i j b,i<bs.length→j<bs.length→aw (aI i)=some b→aw (aI j)=some b→i=j
def Valid(P:Program)(G:Nat→Option GD)(f:FuncId)(s:bI):Prop :=
 ∀(w:World) (A:Nat→Prop) (β:Nat→Value) (args:List Value) (cC:List AV) (pre:Prop) (res:AV) (bs:List AB),
  (∀b,A b→b<w.heap.size)→(∀i d,G i=some d→oM w A i d)→ae w A β args cC→s cC=some (pre,res,bs)→pre→
  Calls P f args.toArray w fun e w'=>∃v,e= .returned v∧∃A' aI,jM w A w' v res bs A' aI
def HM(β:Nat→Value)(n:Nat)(b:Nat):Prop :=∃i,i<n∧aw (β (50000+i))=some b
def Nq(r:fv)(k:Nat):Prop :=(∃i ab,k=50000+i∧i<10000∧r.heap[i]? =some (some ab))∨∃j,k=60000+j∧j<r.new.length
structure I2 (w:World) (A:Nat→Prop) (β:Nat→Value) (n:Nat) (w':World) (v:Value) (r:fv) (A':Nat→Prop) (aI:Nat→Value):Prop where
 os:w'.os=w.os
 tape:w'.tape=w.tape
 output:w'.output=w.output
 size:w.heap.size≤w'.heap.size
 same:∀b,b<w.heap.size→¬HM β n b→w'.heap[b]? =w.heap[b]?
 mono:∀b,A b→A' b∧w'.heap[b]? =w.heap[b]?
 kg:∀b,b<w.heap.size→A' b→A b∨HM β n b
 bound:∀b,A' b→b<w'.heap.size
 res:aa w' A' aI v r.res
 kept:∀i ab,r.heap[i]? =some (some ab)→BR w' A' aI (50000+i) ab∧aI (50000+i)=β (50000+i)
 rows:∀j ab,r.new[j]? =some ab→BR w' A' aI (60000+j) ab∧∀b,aw (aI (60000+j))=some b→w.heap.size≤b∨HM β n b
 apart:∀k k' b,Nq r k→Nq r k'→aw (aI k)=some b→aw (aI k')=some b→k=k'
def bZ(P:Program)(G:Nat→Option GD)(f:FuncId)(s:eX):Prop :=
 ∀(w:World) (A:Nat→Prop) (β:Nat→Value) (args:List Value) (cC:List AV) (hs:List AB) (r:fv),
  (∀b,A b→b<w.heap.size)→(∀i d,G i=some d→oM w A i d)→ae w A β args cC→
  (∀i ab,hs[i]? =some ab→BR w A β (50000+i) ab)→(∀i j b,i<hs.length→j<hs.length→aw (β (50000+i))=some b→aw (β (50000+j))=some b→i=j)→
  s cC hs=some r→r.pre→r.heap.length=hs.length→hs.length≤100→
  Calls P f args.toArray w fun e w'=>∃v,e= .returned v∧∃A' aI,I2 w A β hs.length w' v r A' aI
section
variable {P:Program} {C:Ctx} {A A':Nat→Prop} {β aI:Nat→Value} {st:St} {a:Act} {w:World} {T:bT}
theorem C7 {β aI:Nat→Value}:∀(cs:List AV) (vs:List Value),cs.all CJ=true→ae w A β vs cs→ae w A aI vs cs
 | [],vs,_,h=>by simpa only [ae] using h
 |c::cs,vs,ho,h=>by
  simp only [List.all_cons,Bool.and_eq_true] at ho
  simp only [ae] at h ⊢
  obtain⟨v,bG,rfl,h1,h2⟩:=h
  refine⟨v,bG,rfl,?_,C7 cs bG ho.2 h2⟩
  have ho1:=ho.1
  unfold CJ at ho1
  split at ho1
  · simpa only [aa,ae] using h1
  · cases ho1
mutual
theorem rZ(base n:Nat)(bU:∀i,i<n→aI (base+i)=β i):∀(x:AV) (v:Value),iF n x=true→aa w A β v x→aa w A aI v (de base x)
 | .own k,v,ho,h=>by
   simp only [iF] at ho
   have :=Nat.le_of_ble_eq_true ho
   simp only [de,aa] at h ⊢
   rw [bU k (by omega)];exact h
 | .agg cs,v,ho,h=>by
   simp only [iF] at ho
   simp only [de,aa] at h ⊢
   obtain⟨arr,h1,h2⟩:=h
   exact⟨arr,h1,tO base n bU cs _ ho h2⟩
 | .cB cs,v,ho,h=>by
   simp only [iF] at ho
   simp only [de,aa] at h ⊢
   obtain⟨arr,h1,h2⟩:=h
   exact⟨arr,h1,tO base n bU cs _ ho h2⟩
 | .cX,v,ho,h=>by simp [iF] at ho
 | .pre _ _,v,ho,h=>by simp [iF] at ho
 | .view _ _ _ _,v,ho,h=>by simp [iF] at ho
 | .ref _ _,v,ho,h=>by simp [iF] at ho
 | .elem _ _ _ _,v,ho,h=>by simp [iF] at ho
 | .fn _ _ _,v,ho,h=>by simp [iF] at ho
 | .fS _ _ _,v,ho,h=>by simp [iF] at ho
 | .undef,v,_,h=>by simpa only [de,aa] using h
 | .int _ _,v,_,h=>by simpa only [de,aa] using h
 | .bool _,v,_,h=>by simpa only [de,aa] using h
 | .tt,v,_,h=>by simpa only [de,aa] using h
 | .ff,v,_,h=>by simpa only [de,aa] using h
 | .str _,v,_,h=>by simpa only [de,aa] using h
 | .nil,v,_,h=>by simpa only [de,aa] using h
 | .iX,v,_,h=>by simpa only [de,aa] using h
 | .nU _ _,v,_,h=>by simpa only [de,aa] using h
 | .jh,v,_,h=>by simpa only [de,aa] using h
 | .fT ks cs,v,ho,h=>by
   simp only [iF] at ho
   simp only [de,aa] at h ⊢
   obtain⟨b,es,ck,h1,h2,h3,h4,h5⟩:=h
   exact⟨b,es,ck,h1,h2,h3,h4,C7 cs _ ho h5⟩
 | .sl _ _,v,_,h=>by simpa only [de,aa] using h
 | .full _ _,v,_,h=>by simpa only [de,aa] using h
theorem tO(base n:Nat)(bU:∀i,i<n→aI (base+i)=β i):∀(xs:List AV) (vs:List Value),xX n xs=true→ae w A β vs xs→ae w A aI vs (oC base xs)
 | [],vs,_,h=>by simpa only [oC,ae] using h
 |x::xs,vs,ho,h=>by
  simp only [xX,Bool.and_eq_true] at ho
  simp only [ae] at h
  obtain⟨v,bG,rfl,h1,h2⟩:=h
  simp only [oC,ae]
  exact⟨v,bG,rfl,rZ base n bU x v ho.1 h1,tO base n bU xs bG ho.2 h2⟩
end
mutual
theorem C8:∀(x:AV) (v:Value),x.eh=true→aa w A β v x→aa w A' β v x
 | .own _,v,_,h=>by simpa only [aa] using h
 | .agg cs,v,ho,h=>by
   simp only [AV.eh] at ho
   simp only [aa] at h ⊢
   obtain⟨arr,h1,h2⟩:=h
   exact⟨arr,h1,tP cs _ ho h2⟩
 | .cB cs,v,ho,h=>by
   simp only [AV.eh] at ho
   simp only [aa] at h ⊢
   obtain⟨arr,h1,h2⟩:=h
   exact⟨arr,h1,tP cs _ ho h2⟩
 | .cX,v,ho,h=>by simp [AV.eh] at ho
 | .pre _ _,v,ho,h=>by simp [AV.eh] at ho
 | .view _ _ _ _,v,ho,h=>by simp [AV.eh] at ho
 | .ref _ _,v,ho,h=>by simp [AV.eh] at ho
 | .elem _ _ _ _,v,ho,h=>by simp [AV.eh] at ho
 | .fn _ _ _,v,ho,h=>by simp [AV.eh] at ho
 | .fS _ _ _,v,ho,h=>by simp [AV.eh] at ho
 | .iX,v,ho,h=>by simp [AV.eh] at ho
 | .nU _ _,v,ho,h=>by simp [AV.eh] at ho
 | .jh,v,ho,h=>by simp [AV.eh] at ho
 | .fT _ _,v,ho,h=>by simp [AV.eh] at ho
 | .sl _ _,v,ho,h=>by simp [AV.eh] at ho
 | .full _ _,v,ho,h=>by simp [AV.eh] at ho
 | .undef,v,_,h=>by simpa only [aa] using h
 | .int _ _,v,_,h=>by simpa only [aa] using h
 | .bool _,v,_,h=>by simpa only [aa] using h
 | .tt,v,_,h=>by simpa only [aa] using h
 | .ff,v,_,h=>by simpa only [aa] using h
 | .str _,v,_,h=>by simpa only [aa] using h
 | .nil,v,_,h=>by simpa only [aa] using h
theorem tP:∀(xs:List AV) (vs:List Value),xW xs=true→ae w A β vs xs→ae w A' β vs xs
 | [],vs,_,h=>by simpa only [ae] using h
 |x::xs,vs,ho,h=>by
  simp only [xW,Bool.and_eq_true] at ho
  simp only [ae] at h ⊢
  obtain⟨v,bG,rfl,h1,h2⟩:=h
  exact⟨v,bG,rfl,C8 x v ho.1 h1,tP xs bG ho.2 h2⟩
end
theorem KN:∀(row:List Ty) (vs:List Value) (x:Row row),row.all Ch=true→bh w A row vs x→bh w A' row vs x
 | [],vs,_,_,h=>by simpa only [bh] using h
 |t::ts,vs,x,hf,h=>by
  simp only [List.all_cons,Bool.and_eq_true] at hf
  simp only [bh] at h ⊢
  obtain⟨v,bG,rfl,h1,h2⟩:=h
  refine⟨v,bG,rfl,?_,KN ts bG _ hf.2 h2⟩
  cases t with
  |slice r=>simp [Ch] at hf
  |int k=>simpa only [Rd] using h1
  |bool=>simpa only [Rd] using h1
  |str=>simpa only [Rd] using h1
theorem p7(base:Nat):∀(bs:List AB) (n k:Nat),aq (eN (base+n) bs) k=(if base+n≤k then bs[k-(base+n)]? else none)
 | [],n,k=>by simp [eN,aq]
 |b::bs,n,k=>by
  simp only [eN,aq]
  by_cases hk:k=base+n
  · subst hk;simp
  · simp only [aO hk,cond_false]
    have :=p7 base bs (n+1) k
    rw [show base+(n+1)=base+n+1 by omega] at this
    rw [this]
    by_cases h1:base+n≤k
    · rw [if_pos h1,if_pos (by omega)]
      have :k-(base+n)=(k-(base+n+1))+1:=by omega
      rw [this,List.getElem?_cons_succ]
    · rw [if_neg h1,if_neg (by omega)]
theorem wE:∀(bs:List AB) (i:Nat) (ab:AB),hU bs=true→bs[i]? =some ab→∃e row l,ab= .row e row l false
 | [],i,ab,_,h=>by simp at h
 | .cells _::bs,_,_,h,_=>by simp [hU] at h
 | .arr _ _::bs,_,_,h,_=>by simp [hU] at h
 | .gw _ _ _ _ _::bs,_,_,h,_=>by simp [hU] at h
 | .views _ _ _ _ _::bs,_,_,h,_=>by simp [hU] at h
 | .row e row l true ::bs,_,_,h,_=>by simp [hU] at h
 | .row e row l false ::bs,0,ab,_,h=>by simp at h;exact⟨e,row,l,h.symm⟩
 | .row e row l false ::bs,i+1,ab,ho,h=>wE bs i ab (by simpa [hU] using ho) (by simpa using h)
theorem wF:∀(bs:List AB) (i:Nat) (e:Nat) (row:List Ty) (l:List (Row row)) (fr:Bool),c7 bs=true→bs[i]? =some (.row e row l fr)→row.all Ch=true
 | [],i,_,_,_,_,_,h=>by simp at h
 | .cells _::bs,_,_,_,_,_,h,_=>by simp [c7] at h
 | .arr _ _::bs,_,_,_,_,_,h,_=>by simp [c7] at h
 | .gw _ _ _ _ _::bs,_,_,_,_,_,h,_=>by simp [c7] at h
 | .views _ _ _ _ _::bs,_,_,_,_,_,h,_=>by simp [c7] at h
 | .row e row l fr::bs,0,e',iw,l',zD,ho,h=>by
   simp only [c7,Bool.and_eq_true] at ho
   simp only [List.getElem?_cons_zero,Option.some.injEq,AB.row.injEq] at h
   obtain⟨_,rfl,_⟩:=h
   exact ho.1
 | .row e row l fr::bs,i+1,e',iw,l',zD,ho,h=>by
   simp only [c7,Bool.and_eq_true] at ho
   exact wF bs i e' iw l' zD ho.2 (by simpa using h)
theorem iz {h:aP}:∀(new:List (Nat×AB)) (k:Nat) (b:AB),iH h new=true→aq new k=some b→h k=none∧n3 k=false
 | [],k,b,_,hf=>by simp [aq] at hf
 |(j,x)::r,k,b,ho,hf=>by
  simp only [iH,Bool.and_eq_true] at ho
  simp only [aq] at hf
  by_cases hk:k=j
  · subst hk
    cases hh:h k with
    |none=>rw [hh] at ho;exact⟨rfl,by simpa using ho.1⟩
    |some y=>simp [hh] at ho
  · simp only [aO hk,cond_false] at hf
    exact iz r k b ho.2 hf
theorem aD.call(hB:aD C A β st a w) {dst:Option Nat}(hd:∀t,dst=some t→t<st.n) {base:Nat} {res:AV} {bs:List AB} {fz:List Nat} {cond:List Prop} {v:Value} {w':World} {A1:Nat→Prop} {kU:Nat→Value}
  (xi:∀j∈fz,∃e row l fr,st.h j=some (.row e row l fr)) (dg:iH st.h (eN base bs)=true) (Œ:iF bs.length res=true) (hor:hU bs=true)
  (hp:jM w (bK A β fz) w' v res bs A1 kU):
  Rel C (st.put dst {cond:=cond,res:=de base res,gk:=bif res.eh&&c7 bs then [] else cc st.h fz,new:=eN base bs}) (a.put dst v) w':=by
 let aI:Nat→Value:=fun k=>if base≤k∧k<base+bs.length then kU (k-base) else β k
 have C9:∀i,i<bs.length→aI (base+i)=kU i:=by
  intro i hi
  simp only [aI]
  rw [if_pos (by omega)]
  congr 1;omega
 have p8:∀k,aq (eN base bs) k=(if base≤k then bs[k-base]? else none):=fun k=>by simpa using p7 base bs 0 k
 have bU:∀k,aq (eN base bs) k=none→aI k=β k:=by
  intro k h
  rw [p8 k] at h
  simp only [aI]
  rw [if_neg]
  rintro⟨h1,h2⟩
  rw [if_pos h1,List.getElem?_eq_none_iff] at h
  omega
 have me:∀k ab,aq (eN base bs) k=some ab→base≤k∧bs[k-base]? =some ab∧k-base<bs.length:=by
  intro k ab h
  rw [p8 k] at h
  split at h
  · rename_i hb
    exact⟨hb,h,(List.getElem?_eq_some_iff.1 h).1⟩
  · cases h
 have wG:∀k ab,aq (eN base bs) k=some ab→aI k=kU (k-base):=by
  intro k ab h
  obtain⟨h1,h2,h3⟩:=me k ab h
  have :=C9 (k-base) h3
  rwa [show base+(k-base)=k by omega] at this
 let A2:Nat→Prop :=bif res.eh&&c7 bs then A else A1
 have amq:∀b,A b→A2 b:=by
  intro b hb
  simp only [A2]
  cases res.eh&&c7 bs with
  |true=>exact hb
  |false=>exact hp.mono b (.inl hb)
 have hK:cL w w' A A2:=fun b hb=>⟨amq b hb,hp.same b (hB.bound b hb)⟩
 have yg:∀k ab,aq (bif res.eh&&c7 bs then [] else cc st.h fz) k=some ab→(res.eh&&c7 bs)=false∧k∈fz∧∃e row l fr,st.h k=some (.row e row l fr)∧ab= .row e row l true :=by
  intro k ab h
  cases hl:res.eh&&c7 bs with
  |true=>simp [hl,aq] at h
  |false=>
   rw [hl] at h
   obtain⟨h1,h2⟩:=gO fz k ab h
   exact⟨rfl,h1,h2⟩
 refine⟨A2,aI,?_⟩
 refine hB.step (out:= {cond:=cond,res:=de base res,gk:=bif res.eh&&c7 bs then [] else cc st.h fz,new:=eN base bs}) hd (fun k b h=>iz _ k b dg h) ?_ bU hK hp.os hp.tape hp.output hp.size (fun b hb _=>hp.same b hb) ?_ ?_ ?_ ?_ ?_ ?_ ?_
 · intro k b h
   obtain⟨_,_,e,row,l,fr,h,_⟩:=yg k b h
   simp [h]
 · intro b hb
   simp only [A2] at hb
   cases hl:res.eh&&c7 bs with
   |true=>rw [hl] at hb;exact Nat.lt_of_lt_of_le (hB.bound b hb) hp.size
   |false=>rw [hl] at hb;exact hp.bound b hb
 · intro b hb
   simp only [A2] at hb
   cases hl:res.eh&&c7 bs with
   |true=>rw [hl] at hb;exact .inl hb
   |false=>
    rw [hl] at hb
    rcases Nat.lt_or_ge b w.heap.size with eD|BT
    · rcases hp.kg b eD hb with h|⟨j,hj,Ni⟩
      · exact .inl h
      · have hr:=xi j hj
        refine .inr (.inr ⟨j,⟨by obtain⟨_,_,_,_,hr⟩:=hr;simp [hr], .inl ?_⟩,Ni⟩)
        simp only [cond_false]
        exact mV fz j hj hr
    · exact .inr (.inl BT)
 · intro k ab h _
   obtain⟨hl,hk,e,row,l,fr,hr,rfl⟩:=yg k ab h
   rw [jI]
   have hkn:aq (eN base bs) k=none:=by
    cases hh:aq (eN base bs) k with
    |none=>rfl
    |some y=>have :=(iz _ k y dg hh).1;rw [hr] at this;cases this
   obtain⟨xs,h1,h2,h3⟩:=hB.blocks k _ hr
   simp only [BR,bU k hkn]
   refine⟨xs,fJ h1 (fun b hb=>hp.same b (ko hB (by simp [hr]) hb)),bA (fun c x hx=>bB hK row c x hx) l xs h2,fun b hb=> ?_⟩
   simp only [if_true,A2,hl,cond_false]
   exact hp.mono b (.inr ⟨k,hk,hb⟩)
 · intro k ab h
   obtain⟨h1,h2,h3⟩:=me k ab h
   obtain⟨e,row,l,rfl⟩:=wE bs _ ab hor h2
   obtain⟨⟨xs,g1,g2,g3⟩,g4⟩:=hp.rows _ _ h2
   simp only [BR,wG k _ h]
   have qF:bX (bh w' A2 row) xs l:=by
    simp only [A2]
    cases hl:res.eh&&c7 bs with
    |true=>
     simp only [Bool.and_eq_true] at hl
     exact bA (fun c x hx=>KN row c x (wF bs _ e row l false hl.2 h2) hx) l xs g2
    |false=>exact g2
   refine⟨xs,g1,qF,fun b hb=> ?_⟩
   have œ:=g3 b hb
   simp only [Bool.false_eq_true,if_false] at œ ⊢
   simp only [A2]
   cases hl:res.eh&&c7 bs with
   |true=>intro hA;exact absurd (hB.bound b hA) (by have :=g4 b hb;omega)
   |false=>exact œ
 · intro k b ab h hb
   obtain⟨h1,h2,h3⟩:=me k ab h
   rw [wG k _ h] at hb
   exact .inl ((hp.rows _ _ h2).2 b hb)
 · intro k k' b h h' hb bw
   obtain⟨x,hx⟩:=Option.isSome_iff_exists.1 h
   obtain⟨y,hy⟩:=Option.isSome_iff_exists.1 h'
   obtain⟨h1,h2,h3⟩:=me k x hx
   obtain⟨g1,g2,g3⟩:=me k' y hy
   rw [wG k _ hx] at hb
   rw [wG k' _ hy] at bw
   have :=hp.apart _ _ b h3 g3 hb bw
   omega
 · have ra:=rZ (aI:=aI) base bs.length C9 res v Œ hp.res
   simp only [A2]
   cases hl:res.eh&&c7 bs with
   |false=>exact ra
   |true=>
    simp only [Bool.and_eq_true] at hl
    exact rZ (aI:=aI) base bs.length C9 res v Œ (C8 res v hl.1 hp.res)
end
end Go.Vg

end
section
namespace Go.Vg
open Go
def aN(P:Program)(f:FuncId):Prop :=∀(args:Array Value) (w:World),(callFunc f args).run P w= .ok (.enter f args) w
structure ak (P:Program) (E:Env):Prop where
 fB:bt E.T P
 sig:∀f s,E.sig f=some s→Valid P E.lq f s∧aN P f
 nV:∀f m s,E.nV f=some (m,s)→bZ P E.lq f s∧aN P f
structure fl (P:Program) (C:Ctx) (E:Env):Prop where
 ok:ak P E
 g:C.G=E.lq
theorem fl.fB {P:Program} {C:Ctx} {E:Env}(h:fl P C E):bt E.T P:=h.ok.fB
theorem fl.nV {P:Program} {C:Ctx} {E:Env}(h:fl P C E):∀f m s,E.nV f=some (m,s)→bZ P E.lq f s∧aN P f:=h.ok.nV
theorem fl.sig {P:Program} {C:Ctx} {E:Env}(h:fl P C E):∀f s,E.sig f=some s→Valid P E.lq f s∧aN P f:=h.ok.sig
def ia(st:St)(o:Oper):Bool:=match o.dst with
 |some d=>Nat.blt d st.n
 |none=>true
section
variable {P:Program} {C:Ctx} {A A':Nat→Prop} {β aI:Nat→Value} {st:St} {a:Act} {w:World} {E:Env}
theorem nz(hB:aD C A β st a w):∀(xs:List Operand),ae w A β (xs.map a.eval) (xs.map (ev st))
 | []=>by simp [ae]
 |x::xs=>by
  simp only [List.map_cons,ae]
  exact⟨_,_,rfl,aQ hB x,nz hB xs⟩
theorem cu {dst:Option Tmp} {op:Op} {type:TypeId} {pos:String} {after:Array Edge} {guard:Option (Nat×Bool)} {s:Sem Value} {out:Out}
  (hs:∀w,(execOp a.eval ⟨dst,op,type,pos,after,guard⟩).run P w=(s.run P w).andThen fun v w'=> .ok (.value v) w') (h:∃v w',s.run P w= .ok v w'∧Rel C (st.put dst out) (a.put dst v) w')
  {K:Act→World→Prop} {Q:Exit→Act→World→Prop} (hK:∀a' w',Rel C (st.put dst out) a' w'→K a' w'):Oper.wp P ⟨dst,op,type,pos,after,guard⟩ a w K Q:=by
 obtain⟨v,w',h1,h2⟩:=h
 refine cP (v:=v) (w':=w') ?_ (hK _ _ h2)
 rw [hs,h1];rfl
theorem Da(hB:aD C A β st a w):∀(x:Option Operand),mT w A β (x.map (ev st)) (x.map a.eval)
 |none=>by simp [mT]
 |some x=>by simp only [Option.map_some,mT];exact aQ hB x
theorem Db {d:Nat} {b:AB}(h:iH st.h [(d,b)]=true):st.h d=none∧n3 d=false :=iz _ d b h (by simp [aq])
theorem zV {h:aP} {k:Nat}(hf:fresh h k=true):h k=none∧n3 k=false :=by
 unfold fresh at hf
 cases hk:h k with
 |none=>rw [hk] at hf;exact⟨rfl,by simpa using hf⟩
 |some b=>simp [hk] at hf
theorem KO(hE:fl P C E)(hB:aD C A β st a w) {o:Oper} {out:Out}(h:cM E st o=some out)(iY:ia st o=true)(dg:iH st.h out.new=true)(hc:∀p∈out.cond,p)
  {K:Act→World→Prop} {Q:Exit→Act→World→Prop} (hK:∀a' w',Rel C (st.put o.dst out) a' w'→K a' w'):o.wp P a w K Q:=by
 have hd:∀t,o.dst=some t→t<st.n:=by
  intro t ht
  unfold ia at iY
  rw [ht] at iY
  exact Nat.le_of_ble_eq_true iY
 obtain⟨dst,op,type,pos,after,guard⟩:=o
 simp only at hd hK
 cases op with
 |move x=>
  simp only [cM,Option.some.injEq] at h;subst h
  exact cP (by simp [execOp]) (hK _ _ (Rel.j4 (hB.quiet hd ⟨rfl,rfl,rfl⟩ (aQ hB x))))
 |assign x=>
  simp only [cM,Option.some.injEq] at h;subst h
  exact cP (by simp [execOp]) (hK _ _ (Rel.j4 (hB.quiet hd ⟨rfl,rfl,rfl⟩ (aQ hB x))))
 |pick c x y=>
  simp only [cM] at h
  have yv:=aQ hB c
  have hx:=aQ hB x
  have hy:=aQ hB y
  split at h
  · rename_i Gl
    simp only [Option.some.injEq] at h;subst h
    rw [Gl] at yv;simp only [aa] at yv
    exact cP (v:=a.eval x) (by simp [execOp,yv,asBool]) (hK _ _ (Rel.j4 (hB.quiet hd ⟨rfl,rfl,rfl⟩ hx)))
  · rename_i Gl
    simp only [Option.some.injEq] at h;subst h
    rw [Gl] at yv;simp only [aa] at yv
    exact cP (v:=a.eval y) (by simp [execOp,yv,asBool]) (hK _ _ (Rel.j4 (hB.quiet hd ⟨rfl,rfl,rfl⟩ hy)))
  · rename_i p Gl
    simp only [Option.some.injEq] at h;subst h
    rw [Gl] at yv;simp only [aa] at yv
    refine cP (v:=if p then a.eval x else a.eval y) (by simp [execOp,yv,asBool]) (hK _ _ (Rel.j4 (hB.quiet hd ⟨rfl,rfl,rfl⟩ ?_)))
    refine wA p _ _ ?_
    cases p
    · simpa using hy
    · simpa using hx
  · cases h
 |alloc t=>
  simp only [cM] at h
  split at h
  · rename_i te d ht
    cases Nr:Nat.ble te.size 40 with
    |false=>rw [Nr] at h;cases h
    |true=>
    rw [Nr] at h
    simp only [cond_true] at h
    cases gR:(ofConst te.zero).cells.all AV.one with
    |false=>simp [gR] at h
    |true=>
     simp only [gR,cond_true,Option.some.injEq] at h;subst h
     exact cu (fun w=>by simp [execOp]) (IZ hE.fB hB hd (Db dg) ht gR) hK
  · cases h
 |box t x=>
  simp only [cM] at h
  split at h
  · rename_i d
    cases gR:(ev st x).cells.all AV.one with
    |false=>simp [gR] at h
    |true=>
     simp only [gR,cond_true,Option.some.injEq] at h;subst h
     exact cu (fun w=>by simp [execOp]) (Nk (t:=t) hB hd (Db dg) (aQ hB x) gR) hK
  · cases h
 |build t parts=>
  simp only [cM] at h
  refine cu (s:=Instr.build t (parts.map fun(i,x)=>(i,a.eval x))) (fun w=>by simp [execOp]) (Reads.oW hB hd (I0 hE.fB ?_ ?_ h)) hK
  · simp [Function.comp_def]
  · have :=nz hB (parts.toList.map (·.2))
    simpa [Function.comp_def] using this
 |buildSlice t len parts=>
  simp only [cM] at h
  split at h
  · rename_i d
    cases hf:fresh st.h (st.kb+d) with
    |false=>simp [hf] at h
    |true=>
    simp only [hf,cond_true] at h
    have hn:=zV hf
    refine cu (s:=Instr.buildSlice t len (parts.map fun(i,x)=>(i,a.eval x))) (fun w=>by simp [execOp]) (yw hE.fB hB hd hn ?_ ?_ h) hK
    · simp [Function.comp_def]
    · have :=nz hB (parts.toList.map (·.2))
      simpa [Function.comp_def] using this
  · cases h
 |load t x=>
  simp only [cM] at h
  exact cu (fun w=>by simp [execOp]) (Reads.oW hB hd (AQ hE.fB hB (aQ hB x) h hc)) hK
 |store t x y=>
  simp only [cM] at h
  have hx:=aQ hB x
  have hy:=aQ hB y
  have key:∃w',(Instr.storeAt t (a.eval x) (a.eval y)).run P w= .ok () w'∧Rel C (st.put dst out) (a.put dst undef) w':=by
   cases xk:ev st x with
   |ref k off=>rw [xk] at h hx;exact zQ hE.fB hB hd hx hy h
   |elem k sz i j=>rw [xk] at h hx;exact yr hE.fB hB hd hx hy h hc
   |_=>rw [xk] at h;simp [hC] at h
  obtain⟨w',h1,h2⟩:=key
  exact rb (w':=w') (by simp [execOp,h1]) (hK _ _ h2)
 |nilCheck x=>
  simp only [cM] at h
  have hx:=aQ hB x
  have fin:∀r,ev st x=r→out= {cond:= [],res:=r}→(execOp a.eval {dst,op:= .nilCheck x,type,pos,after,guard}).run P w= .ok (.value (a.eval x)) w→Oper.wp P {dst,op:= .nilCheck x,type,pos,after,guard} a w K Q:=by
   intro r hr ho fU
   subst ho
   exact cP fU (hK _ _ (Rel.j4 (hB.quiet hd ⟨rfl,rfl,rfl⟩ (by rw [←hr];exact hx))))
  split at h
  · rename_i k off hv
    simp only [Option.some.injEq] at h
    refine fin _ hv h.symm ?_
    rw [hv] at hx;simp only [aa] at hx
    obtain⟨b,_,hx⟩:=hx
    simp [execOp,hx]
  · rename_i r y j hv
    simp only [Option.some.injEq] at h
    refine fin _ hv h.symm ?_
    rw [hv] at hx;simp only [aa] at hx
    obtain⟨b,o,cs,hx,_⟩:=hx
    simp [execOp,hx]
  · rename_i k sz i j hv
    simp only [Option.some.injEq] at h
    refine fin _ hv h.symm ?_
    rw [hv] at hx;simp only [aa] at hx
    obtain⟨b,m,cap,_,hx⟩:=hx
    simp [execOp,hx]
  · rename_i f first bk hv
    simp only [Option.some.injEq] at h
    refine fin _ hv h.symm ?_
    rw [hv] at hx;simp only [aa] at hx
    obtain⟨a1,a2,hx,_⟩:=hx
    simp [execOp,hx]
  · cases h
 |binOp op t x y yt=>
  simp only [cM] at h
  exact cu (s:=do eqGuard op t x y (a.eval x) (a.eval y);binOp op t (a.eval x) (a.eval y)) (fun w=>by
   simp only [execOp,Sem.run_bind]
   cases (eqGuard op t x y (a.eval x) (a.eval y)).run P w<;>simp) (Reads.oW hB hd (M8 hE.fB (aQ hB x) (aQ hB y) h hc)) hK
 |unOp op t x=>
  simp only [cM] at h
  exact cu (fun w=>by simp [execOp]) (Reads.oW hB hd (TL (aQ hB x) h hc)) hK
 |convert s d x=>
  simp only [cM] at h
  exact cu (fun w=>by simp [execOp]) (C6 hE.fB hB hd (aQ hB x) h hc) hK
 |makeFunc f first bk=>
  simp only [cM,Option.some.injEq] at h;subst h
  refine cP (v:= .func f (first.map a.eval) (bk.map a.eval)) (by simp [execOp,Instr.makeFunc]) (hK _ _ (Rel.j4 (hB.quiet hd ⟨rfl,rfl,rfl⟩ ?_)))
  simp only [aa]
  exact⟨_,_,rfl,by simpa using nz hB first.toList,by simpa using nz hB bk.toList⟩
 |makeSlice t l c=>
  simp only [cM] at h
  split at h
  · rename_i d
    cases hf:fresh st.h (st.kb+d) with
    |false=>simp [hf] at h
    |true=>
    simp only [hf,cond_true] at h
    exact cu (fun w=>by simp [execOp]) (zS hE.fB hB hd (zV hf) (aQ hB l) (aQ hB c) h hc) hK
  · cases h
 |slice t x l hi mx=>
  simp only [cM] at h
  exact cu (fun w=>by simp [execOp]) (Reads.oW hB hd (IU hE.fB hB (aQ hB x) (Da hB l) (Da hB hi) (Da hB mx) h hc)) hK
 |fieldAddr s x f=>
  simp only [cM] at h
  exact cu (fun w=>by simp [execOp]) (Reads.oW hB hd (zH hE.fB (aQ hB x) h)) hK
 |field s x f=>
  simp only [cM] at h
  have hx:=aQ hB x
  split at h
  · rename_i ft off cs hf hv
    split at h
    · rename_i te ht
      split at h
      · rename_i r hp
        simp only [Option.some.injEq] at h;subst h
        rw [hv] at hx;simp only [aa] at hx
        obtain⟨arr,hx,hr⟩:=hx
        obtain⟨fs,fd,hu,Vi,e1,e2⟩:=AR hE.fB hf
        obtain⟨v,g1,g2⟩:=re hE.fB ht hr hp
        refine cP (v:=v) (w':=w) ?_ (hK _ _ (Rel.j4 (hB.quiet hd ⟨rfl,rfl,rfl⟩ g2)))
        rw [←e1,←e2] at g1
        simp [execOp,Instr.field,run_underlying hu,Vi,hx,asAgg,g1]
      · cases h
    · cases h
  · cases h
 |indexAddr t x i=>
  simp only [cM,pY] at h
  exact cu (fun w=>by simp [execOp]) (Reads.oW hB hd (zG hE.fB hB (aQ hB x) (aQ hB i) h hc)) hK
 |lookup t x i ok=>
  simp only [cM] at h
  have hx:=aQ hB x
  have hi:=aQ hB i
  split at h
  · rename_i ks cs n xk VA
    rw [xk] at hx
    rw [VA] at hi
    simp only [aa] at hi
    refine cu (s:=Instr.lookup t (a.eval x) (a.eval i) ok) (fun w=>by simp [execOp]) (Reads.oW hB hd ?_) hK
    rw [hi.1]
    exact Gf hE.fB hx h hc
  · cases h
 |extract x i=>
  simp only [cM] at h
  have hx:=aQ hB x
  split at h
  · rename_i vs hv
    split at h
    · rename_i r hr
      simp only [Option.some.injEq] at h;subst h
      rw [hv] at hx;simp only [aa] at hx
      obtain⟨arr,hx,hrel⟩:=hx
      obtain⟨v,g1,g2⟩:=pX vs _ i r hrel hr
      have g1':arr[i]? =some v:=by simpa using g1
      exact cP (v:=v) (w':=w) (by simp [execOp,Instr.extract,hx,g1']) (hK _ _ (Rel.j4 (hB.quiet hd ⟨rfl,rfl,rfl⟩ g2)))
    · cases h
  · cases h
 |index t x i=>
  simp only [cM] at h
  have hx:=aQ hB x
  have hi:=aQ hB i
  split at h
  · rename_i s k n xk VA
    cases qD:dn E.T t n0 with
    |false=>simp [qD] at h
    |true=>
    simp only [qD,cond_true,Option.some.injEq] at h;subst h
    obtain⟨h0,h1⟩:=dK hc
    obtain⟨dd,hu,aqY⟩:=oQ hE.fB qD
    have hu:P.underlying t=some .string:=by rw [hu];cases dd<;>simp_all [n0]
    rw [xk] at hx;rw [VA] at hi;simp only [aa] at hx hi
    have eD:n.toNat<s.length:=by omega
    refine cP (v:= .int .u8 ((s.getD n.toNat 0).toNat:Int)) (w':=w) ?_ (hK _ _ (Rel.j4 (hB.quiet hd ⟨rfl,rfl,rfl⟩ ?_)))
    · have hg:(⟨s.toArray⟩:ByteArray)[n.toNat]? =some (s.getD n.toNat 0):=by
       rw [getElem?_pos _ _ (by rw [rf];exact eD)]
       simp [List.getD,List.getElem?_eq_getElem eD]
       rfl
      simp [execOp,Instr.index,hx.1,hi.1,asIntOf,run_underlying hu,h0,hg]
    · simp only [aa,true_and]
      have :=(s.getD n.toNat 0).toNat_lt
      simp only [lo,Vg.hi];omega
  · rename_i cs k n xk VA
    rw [xk] at hx;rw [VA] at hi;simp only [aa] at hx hi
    obtain⟨arr,hxe,wb⟩:=hx
    exact cu (s:=Instr.index t (.agg arr) (a.eval i)) (fun w=>by simp [execOp,hxe]) (Reads.oW hB hd (BQ hE.fB wb hi.1 h hc)) hK
  · cases h
 |call c=>
  obtain⟨callee,args,argTypes⟩:=c
  simp only [cM] at h
  split at h
  · rename_i b
    split at h
    · rename_i x t bx xj
      have hx:=aQ hB x
      split at h
      · rename_i n hn
        cases hq:(bif rM (ev st x) then dn E.T t gu else dn E.T t n0) with
        |false=>simp [hq] at h
        |true=>
         simp only [hq,cond_true,Option.some.injEq] at h;subst h
         have ea:args= #[x]:=by apply Array.ext';simpa using bx
         have et:argTypes= #[t]:=by apply Array.ext';simpa using xj
         subst ea;subst et
         rcases M5 hB hx hn with⟨ad,l,c,hv,hl,hm⟩|⟨s,hs,hl⟩
         · have TP:rM (ev st x)=true :=by
            cases xk:ev st x<;>first|rfl|skip
            rw [xk] at hx;simp only [aa] at hx;rw [hv] at hx;cases hx.1
           rw [TP] at hq;simp only [cond_true] at hq
           obtain⟨d,hu,qD⟩:=oQ hE.fB hq
           obtain⟨e,rfl⟩:∃e,d= .slice e:=by cases d<;>simp_all [gu]
           refine cP (v:= .int .i64 (l:Int)) (w':=w) ?_ (hK _ _ (Rel.j4 (hB.quiet hd ⟨rfl,rfl,rfl⟩ (by rw [hl];exact tK l hm))))
           simp [execOp,resolve,invoke,builtin,hv,Builtin.len_,run_underlying hu,goInt]
         · rw [hs] at hx hq
           simp only [rM,cond_false] at hq
           obtain⟨d,hu,qD⟩:=oQ hE.fB hq
           have hu:P.underlying t=some .string:=by rw [hu];cases d<;>simp_all [n0]
           simp only [aa] at hx
           refine cP (v:= .int .i64 (s.length:Int)) (w':=w) ?_ (hK _ _ (Rel.j4 (hB.quiet hd ⟨rfl,rfl,rfl⟩ (by rw [hl];exact tK _ hx.2))))
           simp [execOp,resolve,invoke,builtin,hx.1,Builtin.len_,run_underlying hu,goInt,rf]
      · cases h
    · rename_i x y t t' bx xj
      split at h
      · rename_i d
        cases hf:fresh st.h (st.kb+d) with
        |false=>simp [hf] at h
        |true=>
         simp only [hf,cond_true] at h
         have ea:args= #[x,y]:=by apply Array.ext';simpa using bx
         have et:argTypes= #[t,t']:=by apply Array.ext';simpa using xj
         subst ea;subst et
         exact cu (s:=Builtin.append_ #[t,t'] type #[a.eval x,a.eval y]) (fun w=>by simp [execOp,resolve,invoke,builtin]) (Gi hE.fB hB hd (zV hf) (aQ hB x) (aQ hB y) h hc) hK
      · cases h
    · rename_i x y t t' bx xj
      have ea:args= #[x,y]:=by apply Array.ext';simpa using bx
      have et:argTypes= #[t,t']:=by apply Array.ext';simpa using xj
      subst ea;subst et
      exact cu (s:=Builtin.copy_ #[t,t'] type #[a.eval x,a.eval y]) (fun w=>by simp [execOp,resolve,invoke,builtin]) (KI hE.fB hB hd (aQ hB x) (aQ hB y) h hc) hK
    · rename_i x t bx xj
      have ea:args= #[x]:=by apply Array.ext';simpa using bx
      have et:argTypes= #[t]:=by apply Array.ext';simpa using xj
      subst ea;subst et
      exact cu (s:=Builtin.clear_ #[t] type #[a.eval x]) (fun w=>by simp [execOp,resolve,invoke,builtin]) (I1 hE.fB hB hd (aQ hB x) h hc) hK
    · rename_i x y bx
      have ea:args= #[x,y]:=by apply Array.ext';simpa using bx
      subst ea
      have hx:=aQ hB x
      have hy:=aQ hB y
      split at h
      · rename_i k n k' m xk hyv
        split at h
        · rename_i hk
          subst hk
          simp only [Option.some.injEq] at h;subst h
          rw [xk] at hx;rw [hyv] at hy;simp only [aa] at hx hy
          refine cP (v:= .int k (min n m)) (w':=w) ?_ (hK _ _ (Rel.j4 (hB.quiet hd ⟨rfl,rfl,rfl⟩ (by simp only [aa,true_and];omega))))
          have e:(if m<n then m else n)=min n m:=by split<;>omega
          simp [execOp,resolve,invoke,builtin,hx.1,hy.1,run_min_int2,e]
        · cases h
      · cases h
    · rename_i x y bx
      have ea:args= #[x,y]:=by apply Array.ext';simpa using bx
      subst ea
      have hx:=aQ hB x
      have hy:=aQ hB y
      split at h
      · rename_i k n k' m xk hyv
        split at h
        · rename_i hk
          subst hk
          simp only [Option.some.injEq] at h;subst h
          rw [xk] at hx;rw [hyv] at hy;simp only [aa] at hx hy
          refine cP (v:= .int k (max n m)) (w':=w) ?_ (hK _ _ (Rel.j4 (hB.quiet hd ⟨rfl,rfl,rfl⟩ (by simp only [aa,true_and];omega))))
          have e:(if m>n then m else n)=max n m:=by split<;>omega
          simp [execOp,resolve,invoke,builtin,hx.1,hy.1,run_max_int2,e]
        · cases h
      · cases h
    · cases h
  · rename_i f
    have hf:=aQ hB f
    have key:∀(jn:FuncId) (first bk:List AV) (base:Nat),ev st f= .fn (.func jn) first bk→lr E st.h base jn (first++(args.toList.map (ev st))++bk)=some out→
      Oper.wp P {dst,op:= .call {callee:= .value f,args,argTypes},type,pos,after,guard} a w K Q:=by
     intro jn first bk base oX iR
     rw [oX] at hf;simp only [aa] at hf
     obtain⟨a1,a2,IY,r1,r2⟩:=hf
     unfold lr at iR
     split at iR
     · rename_i s hs
       split at iR
       · rename_i pre res bs TQ
         cases hq:(Nat.ble bs.length 100&&iF bs.length res&&hU bs) with
         |false=>simp [hq] at iR
         |true=>
          simp only [hq,cond_true,Option.some.injEq] at iR
          subst iR
          simp only [Bool.and_eq_true] at hq
          obtain⟨hv,Ns⟩:=hE.sig jn s hs
          have bx:=dL _ _ _ _ (dL _ _ _ _ r1 (nz hB args.toList)) r2
          obtain⟨p1,p2⟩:=zR (A':=bK A β (jk st.h (first++(args.toList.map (ev st))++bk)).2) hB (fun b h=> .inl h) _ _ bx (fun k hk b hb=> .inr ⟨k,hk,hb⟩)
          have Nj:∀b,bK A β (jk st.h (first++(args.toList.map (ev st))++bk)).2 b→b<w.heap.size:=by
           intro b h
           rcases h with h|⟨j,hj,hb⟩
           · exact hB.bound b h
           · obtain⟨e',r',l',f',hr⟩:=p2 j hj
             exact ko hB (by simp [hr]) hb
          have qH:=hv w _ β _ _ pre res bs Nj (fun i d hi=>(hB.laid i d (by rw [hE.g];exact hi)).mono (fun b h=>⟨.inl h,rfl⟩)) p1 TQ (dK hc)
          have fU:(execOp a.eval {dst,op:= .call {callee:= .value f,args,argTypes},type,pos,after,guard}).run P w= .ok (.enter jn (a1.toList++args.toList.map a.eval++a2.toList).toArray) w:=by
           have e:(a1++args.map a.eval)++a2=(a1.toList++args.toList.map a.eval++a2.toList).toArray:=by
            apply Array.ext';simp
           have :=Ns (a1++args.map a.eval++a2) w
           rw [e] at this
           simp only [execOp,resolve,IY,Deferred.ofValue,Sem.run_bind,Sem.run_pure,Result.andThen_ok,invoke,e,this]
          unfold Oper.wp
          rw [fU]
          simp only [Oper.upon_enter]
          refine qH.mono fun e w' ⟨v,he,A1,kU,oY⟩=> ?_
          subst he
          exact hK _ _ (hB.call hd p2 dg hq.1.2 hq.2 oY)
       · cases iR
     · cases iR
    split at h
    · rename_i jn first bk d oX
      exact key jn first bk _ oX h
    · rename_i jn first bk oX
      exact key jn first bk _ oX h
    · cases h
  · cases h
 |_=>simp [cM] at h
end
end Go.Vg

end
