import Derived.Deep.MidRow
import Derived.Laws.AppendOwn
import Derived.Laws.OwnMore
import Derived.KernelRfl
import Derived.Laws.Sem
import Derived.Laws.BytesString
import Derived.Laws.StructEq
import Derived.Laws.Strings
import Derived.Laws.Small
import Derived.MapKept
import Derived.Laws.MakeOwn
set_option linter.unusedVariables false
set_option linter.unusedSimpArgs false
section
namespace Go.Vg
open Go
inductive Ty where
 |int (k:IntKind)
 |bool
 |str
 |slice (row:List Ty)
mutual
def Ty.beq:Ty→Ty→Bool
 | .int k, .int k'=>decide (k=k')
 | .bool, .bool=>true
 | .str, .str=>true
 | .slice r, .slice r'=>Ty.sW r r'
 |_,_=>false
def Ty.sW:List Ty→List Ty→Bool
 | [],[]=>true
 |t::ts,u::us=>Ty.beq t u&&Ty.sW ts us
 |_,_=>false
end
@[reducible] def DI:IntKind→Type
  | .u8=>UInt8
  | .i8=>Int| .i16=>Int| .i32=>Int| .i64=>Int| .u16=>Int| .u32=>Int| .u64=>Int
@[reducible] def aj2 (ts:List Ty) (a b:Type):Type :=match ts with
  | []=>a
  |_::_=>a×b
mutual
@[reducible] def D:Ty→Type
  | .int k=>DI k
  | .bool=>Bool
  | .str=>List UInt8
  | .slice row=>List (Row row)
@[reducible] def Row:List Ty→Type
  | []=>Unit
  |t::ts=>aj2 ts (D t) (Row ts)
end
def DI.toInt:(k:IntKind)→DI k→Int
 | .u8,x=>(UInt8.toNat x:Int)
 | .i8,n=>n| .i16,n=>n| .i32,n=>n| .i64,n=>n| .u16,n=>n| .u32,n=>n| .u64,n=>n
def DI.ofInt:(k:IntKind)→Int→DI k
 | .u8,n=>UInt8.ofNat n.toNat
 | .i8,n=>n| .i16,n=>n| .i32,n=>n| .i64,n=>n| .u16,n=>n| .u32,n=>n| .u64,n=>n
def Row.hd {t:Ty}: {ts:List Ty}→Row (t::ts)→D t
 | [],x=>x
 |_::_,x=>x.1
def Row.tl {t:Ty}: {ts:List Ty}→Row (t::ts)→Row ts
 | [],_=>()
 |_::_,x=>x.2
def Row.mk {t:Ty}: {ts:List Ty}→D t→Row ts→Row (t::ts)
 | [],x,_=>x
 |_::_,x,y=>(x,y)
def DI.zero:(k:IntKind)→DI k
 | .u8=>(0:UInt8)
 | .i8=>(0:Int)| .i16=>(0:Int)| .i32=>(0:Int)| .i64=>(0:Int)| .u16=>(0:Int)| .u32=>(0:Int)| .u64=>(0:Int)
def D.zero:(t:Ty)→D t
 | .int k=>DI.zero k
 | .bool=>false
 | .str=> []
 | .slice _=> []
def Row.zero:(ts:List Ty)→Row ts
 | []=>()
 |t::ts=>Row.mk (D.zero t) (Row.zero ts)
def lo:IntKind→Int
 | .i8=> -128| .i16=> -32768| .i32=> -2147483648| .i64=> -9223372036854775808
 | .u8=>0| .u16=>0| .u32=>0| .u64=>0
def hi:IntKind→Int
 | .i8=>127| .i16=>32767| .i32=>2147483647| .i64=>9223372036854775807
 | .u8=>255| .u16=>65535| .u32=>4294967295| .u64=>18446744073709551615
def lT:IntKind→Option Int
 | .u8=>some 256| .u16=>some 65536| .u32=>some 4294967296| .u64=>some 18446744073709551616
 | .i8=>none| .i16=>none| .i32=>none| .i64=>none
inductive AV where
 |cW
 |undef
 |int (k:IntKind) (n:Int)
 |bool (b:Bool)
 |tt
 |ff
 |str (s:List UInt8)
 |nil
 |iR
 |jc
 |sl (row:List Ty) (l:List (Row row))
 |full (row:List Ty) (l:List (Row row))
 |fO (row:List Ty) (x:Row row) (j:Nat)
 |ow (row:List Ty) (l:List (Row row))
 |own (k:Nat)
 |pre (k:Nat) (n:Nat)
 |view (k sz off len:Nat)
 |ref (k off:Nat)
 |elem (k sz i j:Nat)
 |agg (cs:List AV)
 |cK (vs:List AV)
 |fn (f:Fn) (first bk:List AV)
 |nI (row:List Ty) (l:List (Row row))
 |fP (ks:List Int) (cs:List AV)
inductive AB where
 |cells (cs:List AV)
 |row (e:Nat) (row:List Ty) (l:List (Row row)) (fr:Bool)
 |views (e:Nat) (j:Option Nat) (n m sz:Nat)
 |arr (row:List Ty) (l:List (Row row))
 |gj (e:Nat) (j:Option Nat) (row:List Ty) (l:List (Row row)) (i:Nat)
def xA:(t:Ty)→D t→AV
 | .int k,x=> .int k (DI.toInt k x)
 | .bool,b=> .bool b
 | .str,s=> .str s
 | .slice row,l=> .sl row l
def fc:(ts:List Ty)→Row ts→List AV
 | [],_=> []
 |t::ts,x=>xA t (Row.hd x)::fc ts (Row.tl x)
mutual
theorem Ty.eq_of_beq:∀(a b:Ty),Ty.beq a b=true→a=b
 | .int k, .int k',h=>by simp [Ty.beq] at h;rw [h]
 | .bool, .bool,_=>rfl
 | .str, .str,_=>rfl
 | .slice r, .slice r',h=>by simp only [Ty.beq] at h;rw [Ty.jd r r' h]
 | .int _, .bool,h=>by simp [Ty.beq] at h
 | .int _, .str,h=>by simp [Ty.beq] at h
 | .int _, .slice _,h=>by simp [Ty.beq] at h
 | .bool, .int _,h=>by simp [Ty.beq] at h
 | .bool, .str,h=>by simp [Ty.beq] at h
 | .bool, .slice _,h=>by simp [Ty.beq] at h
 | .str, .int _,h=>by simp [Ty.beq] at h
 | .str, .bool,h=>by simp [Ty.beq] at h
 | .str, .slice _,h=>by simp [Ty.beq] at h
 | .slice _, .int _,h=>by simp [Ty.beq] at h
 | .slice _, .bool,h=>by simp [Ty.beq] at h
 | .slice _, .str,h=>by simp [Ty.beq] at h
theorem Ty.jd:∀(a b:List Ty),Ty.sW a b=true→a=b
 | [],[],_=>rfl
 |t::ts,u::us,h=>by
  simp only [Ty.sW,Bool.and_eq_true] at h
  rw [Ty.eq_of_beq t u h.1,Ty.jd ts us h.2]
 | [],_::_,h=>by simp [Ty.sW] at h
 |_::_,[],h=>by simp [Ty.sW] at h
end
def eF(r r':List Ty)(l:List (Row r)):Option (List (Row r')):=
 if h:Ty.sW r r'=true then some ((Ty.jd r r' h)▸l) else none
def JO:(t:Ty)→AV→Option (D t)
 | .int k, .int k' n=>if k=k' then some (DI.ofInt k n) else none
 | .bool, .bool b=>some b
 | .bool, .tt=>some true
 | .bool, .ff=>some false
 | .str, .str s=>some s
 | .slice r, .sl r' l=>eF r' r l
 | .slice r, .full r' l=>eF r' r l
 | .slice _, .nil=>some ([]:List _)
 |_,_=>none
def jW:(ts:List Ty)→List AV→Option (Row ts)
 | [],[]=>some ()
 |t::ts,a::aF=>match JO t a,jW ts aF with
  |some x,some y=>some (Row.mk x y)
  |_,_=>none
 |_,_=>none
def setRow:(ts:List Ty)→Row ts→Nat→AV→Option (Row ts)
 | [],_,_,_=>none
 |t::ts,x,0,a=>match JO t a with
  |some d=>some (Row.mk d (Row.tl x))
  |none=>none
 |t::ts,x,j+1,a=>match setRow ts (Row.tl x) j a with
  |some y=>some (Row.mk (Row.hd x:D t) y)
  |none=>none
def mT:(ts:List Ty)→Row ts→Nat→List AV→Option (Row ts)
 |_,x,_,[]=>some x
 |ts,x,j,a::aF=>match setRow ts x j a with
  |some y=>mT ts y (j+1) aF
  |none=>none
def rD(ts:List Ty):Nat→List AV→Option (List (Row ts))
 |0,aF=>match aF with| []=>some []|_::_=>none
 |n+1,aF=>match jW ts (aF.take ts.length),rD ts n (aF.drop ts.length) with
  |some x,some l=>some (x::l)
  |_,_=>none
structure TE where
 desc:TypeDesc
 size:Nat
 bytes:Nat
 zero:Value
inductive bW where
 |leaf
 |node (l:bW) (k:Nat) (v:TE) (r:bW)
def bW.find:bW→Nat→Option TE
 | .leaf,_=>none
 | .node l k v r,n=>bif Nat.beq n k then some v else bif Nat.blt n k then l.find n else r.find n
def _root_.Go.TypeDesc.jD:TypeDesc→Bool
 | .struct _| .array _ _=>true
 |_=>false
def vT {α:Type}:Option (List α)→Option (List α)→Option (List α)
 |some a,some b=>some (a++b)
 |_,_=>none
def rowOf(T:bW):Nat→TypeId→Option (List Ty)
 |0,_=>none
 |n+1,t=>match T.find t with
  |none=>none
  |some te=>match te.desc with
   | .int k=>some [.int k]
   | .bool=>some [.bool]
   | .string=>some [.str]
   | .slice e=>match rowOf T n e with|some r=>some [.slice r]|none=>none
   | .struct fs=>fs.toList.foldr (fun f acc=>vT (rowOf T n f.type) acc) (some [])
   | .array k e=>match rowOf T n e with|some r=>some ((List.replicate k r).flatten)|none=>none
   |_=>none
def rE:Value→AV
 | .int k n=>if lo k≤n∧n≤hi k then .int k n else .cW
 | .bool b=>if b then .tt else .ff
 | .string s=>bif Nat.ble s.data.toList.length 1000000 then .str s.data.toList else .cW
 | .slice none 0 0=> .nil
 | .pointer none=> .iR
 | .nilFunc=> .jc
 |_=> .cW
def ofConst:Value→AV
 | .agg cs=> .agg (cs.toList.map rE)
 |v=>rE v
inductive KS where
 |one (k:Nat)
 |dst (d:Nat)
structure GD where
 row:List Ty
 l:List (Row row)
structure St where
 t:Nat→AV
 h:Nat→Option AB
 bK:List Nat
 news:List KS
 Aq:List Nat
 n:Nat
 kb:Nat
 g:Nat→Option GD
abbrev aO:=Nat→Option AB
def ev(st:St):Operand→AV
 | .tmp i=>st.t i
 | .const v=>ofConst v
 | .global i=>match st.g i with
   |some d=> .ow d.row d.l
   |none=> .cW
 | .func f=> .fn (.func f) [] []
def fj(h:aO):AV→AV×List Nat
 | .own k=>match h k with
   |some (.row _ row l _)=>(.sl row l,[k])
   |_=>(.cW,[])
 | .pre k n=>match h k with
   |some (.row _ row l _)=>(.sl row (l.take n),[k])
   |_=>(.cW,[])
 | .view k sz off len=>match h k with
   |some (.row _ row l _)=>bif Nat.beq sz row.length then(.sl row ((l.drop off).take len),[k]) else(.cW,[])
   |_=>(.cW,[])
 |a=>(a,[])
def lf(h:aO):List AV→List AV×List Nat
 | []=>([],[])
 |a::aF=>((fj h a).1::(lf h aF).1,(fj h a).2++(lf h aF).2)
def lQ(h:aO):AV→AV×List Nat
 | .agg cs=>(.agg (lf h cs).1,(lf h cs).2)
 |a=>fj h a
def je(h:aO):List AV→List AV×List Nat
 | []=>([],[])
 |a::aF=>((lQ h a).1::(je h aF).1,(lQ h a).2++(je h aF).2)
def AV.cells:AV→List AV
 | .agg cs=>cs
 |a=> [a]
def AV.one:AV→Bool
 | .cW| .undef| .agg _| .cK _=>false
 |_=>true
structure Out where
 cond:List Prop
 res:AV
 ga:List (Nat×AB):= []
 del:List Nat:= []
 new:List (Nat×AB):= []
 raw:List Nat:= []
def cd(h:aO):List Nat→List (Nat×AB)
 | []=> []
 |k::ks=>match h k with
  |some (.row e row l _)=>(k, .row e row l true)::cd h ks
  |_=>cd h ks
mutual
def dp(d:Nat):AV→AV
 | .own k=>bif Nat.beq k d then .cW else .own k
 | .pre k n=>bif Nat.beq k d then .cW else .pre k n
 | .view k sz off n=>bif Nat.beq k d then .cW else .view k sz off n
 | .ref k off=>bif Nat.beq k d then .cW else .ref k off
 | .elem k sz i j=>bif Nat.beq k d then .cW else .elem k sz i j
 | .agg cs=> .agg (eT d cs)
 | .cK vs=> .cK (eT d vs)
 | .fn f first bk=> .fn f (eT d first) (eT d bk)
 | .fP ks cs=> .fP ks (eT d cs)
 |a=>a
def eT(d:Nat):List AV→List AV
 | []=> []
 |a::aF=>dp d a::eT d aF
end
def pF(d:Nat):Option Nat→Option Nat
 |some k=>bif Nat.beq k d then none else some k
 |none=>none
def my(d:Nat):AB→AB
 | .cells cs=> .cells (eT d cs)
 | .views e j n m sz=> .views e (pF d j) n m sz
 | .gj e j row l i=> .gj e (pF d j) row l i
 |b=>b
def xB(cs:List AV)(off:Nat)(vs:List AV):List AV:=cs.take off++vs++cs.drop (off+vs.length)
def ze(h:aO):AV→Option Int
 | .str s=>some (s.length:Int)
 | .sl _ l=>some (l.length:Int)
 | .full _ l=>some (l.length:Int)
 | .nil=>some 0
 | .own k=>match h k with
   |some (.row _ _ l _)=>some (l.length:Int)
   |_=>none
 | .pre k n=>match h k with
   |some (.row _ _ _ _)=>some (n:Int)
   |_=>none
 | .view k _ _ n=>match h k with
   |some (.row _ _ _ _)=>some (n:Int)
   |_=>none
 |_=>none
def pG(T:bW)(t:TypeId):Option TE:=match T.find t with
 |some te=>match te.desc with
  | .slice e=>T.find e
  |_=>none
 |none=>none
def uV(T:bW)(t:TypeId):Option TypeId:=match T.find t with
 |some te=>match te.desc with
  | .slice e=>some e
  |_=>none
 |none=>none
def jE(T:bW)(t:TypeId)(n:Nat):Bool:=match T.find t with
 |some te=>Nat.beq te.size n
 |none=>false
def bp(T:bW)(t:TypeId)(n:Nat):Bool:=match pG T t with
 |some te=>Nat.beq te.size n&&Nat.blt 0 n
 |none=>false
def Ci(T:bW)(t:TypeId):Option (Nat×Nat):=match T.find t with
 |some te=>match te.desc with
  | .array k e=>match T.find e with
    |some ee=>bif Nat.blt 0 ee.size then some (k,ee.size) else none
    |none=>none
  |_=>none
 |none=>none
def dZ(T:bW)(h:aO)(t:TypeId):AV→AV→Option Out
 | .sl row l, .int _ i=>
   bif bp T t row.length then some {cond:= [0≤i∧i<(l.length:Int)],res:= .fO row (l.getD i.toNat (Row.zero row)) 0} else none
 | .full row l, .int _ i=>
   bif bp T t row.length then some {cond:= [0≤i∧i<(l.length:Int)],res:= .fO row (l.getD i.toNat (Row.zero row)) 0} else none
 | .own k, .int _ i=>match h k with
   |some (.row _ row l _)=>bif bp T t row.length then some {cond:= [0≤i∧i<(l.length:Int)],res:= .elem k row.length i.toNat 0} else none
   |_=>none
 | .pre k n, .int _ i=>match h k with
   |some (.row _ row l _)=>bif bp T t row.length then some {cond:= [0≤i∧i<(n:Int)],res:= .elem k row.length i.toNat 0} else none
   |_=>none
 | .view k sz off n, .int _ i=>bif bp T t sz then some {cond:= [0≤i∧i<(n:Int)],res:= .elem k sz (off+i.toNat) 0} else none
 | .ow row l, .int _ i=>match Ci T t with
   |some (n,sz)=>bif Nat.beq sz row.length then some {cond:= [n=l.length,0≤i∧i<(l.length:Int)],res:= .fO row (l.getD i.toNat (Row.zero row)) 0} else none
   |none=>none
 | .ref k off, .int _ i=>match Ci T t with
   |some (n,sz)=>some {cond:= [0≤i∧i<(n:Int)],res:= .ref k (off+i.toNat*sz)}
   |none=>none
 |_,_=>none
def F7(off:Nat)(n:Int)(sz:Nat):Nat:=off+n.toNat*sz
def ú:Operand→Option Int
 | .const (.int _ n)=>some n
 |_=>none
def oz(T:bW)(h:aO)(t:TypeId)(n:Option Int)(x y:AV):Option Out:=match n,x,y with
 |some n, .ref k off, .int kd i=>match Ci T t with
  |some (m,sz)=>if n=i then some {cond:= [0≤i∧i<(m:Int)],res:= .ref k (F7 off n sz)} else dZ T h t (.ref k off) (.int kd i)
  |none=>none
 |_,x,y=>dZ T h t x y
def pick(te:TE)(cs:List AV)(off:Nat):Option AV:=
 bif te.desc.jD then(bif Nat.ble (off+te.size) cs.length then some (.agg ((cs.drop off).take te.size)) else none)
 else cs[off]?
def mU(T:bW)(h:aO)(t:TypeId):AV→Option Out
 | .fO row x j=>match T.find t with
   |some te=>match pick te (fc row x) j with
    |some a=>some {cond:= [],res:=a}
    |none=>none
   |none=>none
 | .ow row l=>match T.find t with
   |some te=>match pick te (l.flatMap (fc row)) 0 with
    |some a=>some {cond:= [],res:=a}
    |none=>none
   |none=>none
 | .ref k off=>match T.find t,h k with
   |some te,some (.cells cs)=>match pick te cs off with
    |some a=>some {cond:= [],res:=a}
    |none=>none
   |_,_=>none
 | .elem k sz i j=>match T.find t,h k with
   |some te,some (.row _ row l _)=>
    bif Nat.beq sz row.length then match pick te (fc row (l.getD i (Row.zero row))) j with
     |some a=>some {cond:= [i<l.length],res:=a}
     |none=>none
    else none
   |_,_=>none
 |_=>none
def gQ(T:bW)(h:aO)(t:TypeId):AV→AV→Option Out
 | .ref k off,v=>match h k with
   |some (.cells cs)=>
    bif v.cells.all AV.one&&jE T t v.cells.length&&Nat.ble (off+v.cells.length) cs.length then
     some {cond:= [],res:= .undef,ga:= [(k, .cells (xB cs off v.cells))]} else none
   |_=>none
 | .elem k sz i j,v=>match h k with
   |some (.row e row l false)=>
    bif Nat.beq sz row.length&&jE T t v.cells.length&&Nat.blt 0 v.cells.length then match mT row (l.getD i (Row.zero row)) j (lQ h v).1.cells with
     |some x=>bif (lQ h v).2.elem k then none else some {cond:= [i<l.length],res:= .undef,ga:=(k, .row e row (l.set i x) false)::cd h (lQ h v).2}
     |none=>none
    else none
   |_=>none
 |_,_=>none
def xC(T:bW)(s:TypeId)(f:Nat):Option (TypeId×Nat):=match T.find s with
 |some te=>match te.desc with
  | .struct fs=>match fs[f]? with
    |some fd=>some (fd.type,fd.offset)
    |none=>none
  |_=>none
 |none=>none
def xD(T:bW)(t:TypeId):Bool:=match T.find t with
 |some te=>Nat.blt 0 te.size
 |none=>false
def qm(T:bW)(s:TypeId)(f:Nat)(x:AV):Option Out:=match xC T s f with
 |some (ft,o)=>bif xD T ft then match x with
  | .ref k off=>some {cond:= [],res:= .ref k (off+o)}
  | .fO row x j=>some {cond:= [],res:= .fO row x (j+o)}
  | .elem k sz i j=>some {cond:= [],res:= .elem k sz i (j+o)}
  |_=>none
  else none
 |none=>none
def fit(k:IntKind)(n:Int):List Prop×AV:=match lT k with
 |some c=>([], .int k (n%c))
 |none=>([lo k≤n∧n≤hi k], .int k n)
def pH(k:IntKind)(cond:List Prop)(n:Int):Option Out:=some {cond:=cond++(fit k n).1,res:=(fit k n).2}
def vU(k:IntKind)(n:Int):List Prop :=match lT k with
 |some _=> []
 |none=> [0≤n]
def bitsOf:IntKind→Int
 | .i8| .u8=>8| .i16| .u16=>16| .i32| .u32=>32| .i64| .u64=>64
def bf(a b:Int):Int:=((a.toNat&&&b.toNat:Nat):Int)
def cF(a b:Int):Int:=((a.toNat ||| b.toNat:Nat):Int)
def kG(a b:Int):Int:=((a.toNat^^^b.toNat:Nat):Int)
def pI:AV→Option Bool
 | .bool b=>some b
 | .tt=>some true
 | .ff=>some false
 |_=>none
def dn(T:bW)(t:TypeId)(f:TypeDesc→Bool):Bool:=match T.find t with
 |some te=>f te.desc
 |none=>false
def gh:TypeDesc→Bool
 | .slice _=>true
 |_=>false
def Cj:TypeDesc→Bool
 | .bool=>true
 |_=>false
def Ck(T:bW)(E:TypeId→AV→AV→Option Bool)(xs ys:List AV):List Field→Option Bool
 | []=>some true
 |f::fs=>match T.find f.type with
  |some te=>match pick te xs f.offset,pick te ys f.offset with
   |some a,some b=>match E f.type a b,Ck T E xs ys fs with
    |some r,some r'=>some (match fs with| []=>r|_=>bif r then r' else false)
    |_,_=>none
   |_,_=>none
  |none=>none
def Ar(T:bW):Nat→TypeId→AV→AV→Option Bool
 |0,_,_,_=>none
 |n+1,t,x,y=>match T.find t with
  |some te=>match te.desc with
   | .struct fs=>match x,y with
     | .agg xs, .agg ys=>Ck T (Ar T n) xs ys fs.toList
     |_,_=>none
   | .int _=>match x,y with
     | .int k a, .int k' b=>if k=k' then some (decide (a=b)) else none
     |_,_=>none
   | .string=>match x,y with
     | .str a, .str b=>some (decide (a=b))
     |_,_=>none
   | .bool=>match pI x,pI y with
     |some a,some b=>some (a==b)
     |_,_=>none
   |_=>none
  |none=>none
def H7(T:bW)(t:TypeId)(op:BinOp):AV→AV→Option Out
 | .int k n, .int k' m=>match op with
   | .shl=>pH k [0≤m∧m≤bitsOf k] (n*2^m.toNat)
   | .shr=>some {cond:= [0≤m∧m≤bitsOf k],res:= .int k (n/2^m.toNat)}
   |_=>if k=k' then match op with
    | .add=>pH k [] (n+m)
    | .sub=>pH k [] (n-m)
    | .mul=>pH k [] (n*m)
    | .quo=>some {cond:=vU k n++ [0<m],res:= .int k (n/m)}
    | .rem=>some {cond:=vU k n++ [0<m],res:= .int k (n%m)}
    | .and=>some {cond:=vU k n++vU k m,res:= .int k (bf n m)}
    | .or=>some {cond:=vU k n++vU k m,res:= .int k (cF n m)}
    | .xor=>some {cond:=vU k n++vU k m,res:= .int k (kG n m)}
    | .eql=>some {cond:= [],res:= .bool (decide (n=m))}
    | .neq=>some {cond:= [],res:= .bool (!decide (n=m))}
    | .lss=>some {cond:= [],res:= .bool (decide (n<m))}
    | .leq=>some {cond:= [],res:= .bool (decide (n≤m))}
    | .gtr=>some {cond:= [],res:= .bool (decide (m<n))}
    | .geq=>some {cond:= [],res:= .bool (decide (m≤n))}
    |_=>none
    else none
 | .str s, .str u=>match op with
   | .add=>some {cond:= [((s.length+u.length:Nat):Int)≤9223372036854775807],res:= .str (s++u)}
   | .eql=>some {cond:= [],res:= .bool (decide (s=u))}
   | .neq=>some {cond:= [],res:= .bool (!decide (s=u))}
   | .lss=>some {cond:= [],res:= .bool (Op.bytesLess s u)}
   | .leq=>some {cond:= [],res:= .bool (Op.bytesLess s u || decide (s=u))}
   | .gtr=>some {cond:= [],res:= .bool (!(Op.bytesLess s u || decide (s=u)))}
   | .geq=>some {cond:= [],res:= .bool (!Op.bytesLess s u)}
   |_=>none
 | .sl (r::rs) l, .nil=>bif dn T t gh then match op with
     | .eql=>some {cond:= [],res:= .nI (r::rs) l}
     |_=>none
     else none
 | .agg xs, .agg ys=>match Ar T 8 t (.agg xs) (.agg ys) with
   |some r=>match op with
    | .eql=>some {cond:= [],res:= .bool r}
    | .neq=>some {cond:= [],res:= .bool (!r)}
    |_=>none
   |none=>none
 |a,b=>match pI a,pI b with
  |some x,some y=>bif dn T t Cj then match op with
   | .eql=>some {cond:= [],res:= .bool (x==y)}
   | .neq=>some {cond:= [],res:= .bool (!(x==y))}
   |_=>none
   else none
  |_,_=>none
def Me(op:UnOp):AV→Option Out
 | .bool b=>match op with| .not=>some {cond:= [],res:= .bool (!b)}|_=>none
 | .tt=>match op with| .not=>some {cond:= [],res:= .ff}|_=>none
 | .ff=>match op with| .not=>some {cond:= [],res:= .tt}|_=>none
 | .int k n=>match op with
   | .neg=>pH k [] (0-n)
   | .xor=>match lT k with
     |some c=>some {cond:= [],res:= .int k (c-1-n)}
     |none=>none
   |_=>none
 |_=>none
def jX(h:aO)(row:List Ty)(a:AV):Option (List (Row row)):=match a with
 | .str s=>eF [.int .u8] row s
 | .nil=>some []
 |a=>match(fj h a).1 with
  | .sl r l=>eF r row l
  | .full r l=>eF r row l
  |_=>none
def pJ:Nat:=8
def BQ:TypeDesc→Bool
 | .slice _=>true
 | .string=>true
 |_=>false
def lY(T:bW)(h:aO)(d:Nat)(t t':TypeId)(s x:AV):Option Out:=
 match uV T t,pG T t with
 |some e,some te=>match rowOf T pJ e with
  |some row=>bif Nat.beq row.length te.size&&Nat.blt 0 te.size&&Nat.beq (ofConst te.zero).cells.length te.size&&dn T t' BQ then
   match jX h row x with
   |some m=>match s with
    | .nil=>some {cond:= [m.length≤140737488355328/te.bytes],res:= .own d,new:= [(d, .row e row m false)]}
    | .own k=>match h k with
      |some (.row e' ik l false)=>bif Nat.beq e' e then match eF ik row l with
       |some l'=>some {cond:= [l'.length+m.length≤140737488355328/te.bytes],res:= .own d,del:= [k],new:= [(d, .row e row (l'++m) false)]}
       |none=>none
       else none
      |_=>none
    | .pre k n=>match h k with
      |some (.row e' ik l false)=>bif Nat.beq e' e then match eF ik row l with
       |some l'=>some {cond:= [n+m.length≤140737488355328/te.bytes],res:= .own d,del:= [k],new:= [(d, .row e row (l'.take n++m) false)]}
       |none=>none
       else none
      |_=>none
    | .full r l=>match eF r row l with
      |some l'=>some {cond:= [0<m.length,l'.length+m.length≤140737488355328/te.bytes],res:= .own d,new:= [(d, .row e row (l'++m) false)]}
      |none=>none
    |_=>none
   |none=>none
   else none
  |none=>none
 |_,_=>none
def mV(T:bW)(h:aO)(t t':TypeId)(s x:AV):Option Out:=
 match s with
 | .own k=>match h k with
   |some (.row e row l false)=>bif bp T t row.length then match jX h row x with
    |some m=>some {cond:= [],res:= .int .i64 ((min m.length l.length:Nat):Int),ga:= [(k, .row e row (m.take l.length++l.drop m.length) false)]}
    |none=>none
    else none
   |_=>none
 | .view k sz off n=>match h k with
   |some (.row e row l false)=>bif bp T t row.length&&Nat.beq sz row.length then match jX h row x with
    |some m=>some {cond:= [off+n≤l.length],res:= .int .i64 ((min m.length n:Nat):Int),ga:= [(k, .row e row (l.take off++m.take n++l.drop (off+min m.length n)) false)]}
    |none=>none
    else none
   |_=>none
 |_=>none
def mz:Option AV→Option (Option Int)
 |none=>some none
 |some (.int _ i)=>some (some i)
 |some _=>none
def nN:TypeDesc→Bool
 | .string=>true
 |_=>false
def oe(T:bW)(h:aO)(t:TypeId)(x:AV)(lo hi mx:Option AV):Option Out:=
 match x,mz lo,mz hi,mz mx with
 | .str s,some lo,some hi,some none=>bif dn T t nN then match lo,hi with
   |none,none=>some {cond:= [],res:= .str s}
   |none,some b=>some {cond:= [0≤b∧b≤(s.length:Int)],res:= .str (s.take b.toNat)}
   |some a,none=>some {cond:= [0≤a∧a≤(s.length:Int)],res:= .str (s.drop a.toNat)}
   |some a,some b=>some {cond:= [0≤a∧a≤b∧b≤(s.length:Int)],res:= .str ((s.take b.toNat).drop a.toNat)}
   else none
 | .sl row l,some lo,some hi,some none=>bif bp T t row.length then match lo,hi with
   |none,none=>some {cond:= [],res:= .sl row l}
   |none,some b=>some {cond:= [0≤b∧b≤(l.length:Int)],res:= .sl row (l.take b.toNat)}
   |some a,none=>some {cond:= [0≤a∧a≤(l.length:Int)],res:= .sl row (l.drop a.toNat)}
   |some a,some b=>some {cond:= [0≤a∧a≤b∧b≤(l.length:Int)],res:= .sl row ((l.take b.toNat).drop a.toNat)}
   else none
 | .sl row l,some none,some (some b),some (some c)=>bif bp T t row.length then some {cond:= [0≤b∧b=c∧b≤(l.length:Int)],res:= .full row (l.take b.toNat)} else none
 | .own k,some lo,some hi,some none=>match h k with
   |some (.row _ row l _)=>bif bp T t row.length then match lo,hi with
    |none,none=>some {cond:= [],res:= .own k}
    |none,some b=>some {cond:= [0≤b∧b≤(l.length:Int)],res:= .pre k b.toNat}
    |some a,none=>some {cond:= [0≤a∧a≤(l.length:Int)],res:= .view k row.length a.toNat (l.length-a.toNat)}
    |some a,some b=>some {cond:= [0≤a∧a≤b∧b≤(l.length:Int)],res:= .view k row.length a.toNat (b.toNat-a.toNat)}
    else none
   |_=>none
 |_,_,_,_=>none
def rF:AV→Bool
 | .str _=>false
 |_=>true
def uW(T:bW)(h:aO)(s d:TypeId)(k:Nat):Option Out:=
 bif Nat.beq s d then match T.find s with
  |some ts=>match ts.desc with
   | .slice e=>match T.find e,h k with
     |some te,some (.row _ row l false)=>match te.desc,eF row [.int .u8] l with
      | .int .u8,some l'=>some {cond:= [0<l'.length],res:= .sl [.int .u8] l',del:= [k]}
      |_,_=>none
     |_,_=>none
   |_=>none
  |none=>none
 else none
def kV(T:bW)(h:aO)(s d:TypeId)(x:AV):Option Out:=
 match T.find s,T.find d with
 |some ts,some td=>match ts.desc,td.desc,x with
  | .int _, .int k, .int k' n=>
    if lo k≤lo k'∧hi k'≤hi k then some {cond:= [],res:= .int k n} else pH k [] n
  | .string, .string, .str u=>some {cond:= [],res:= .str u}
  | .string, .slice e, .str u=>match T.find e with
    |some te=>match te.desc with
     | .int .u8=>some {cond:= [],res:= .sl [.int .u8] u}
     |_=>none
    |none=>none
  | .slice e, .string,x=>match T.find e with
    |some te=>match te.desc with
     | .int .u8=>match rF x,jX h [.int .u8] x with
       |true,some u=>some {cond:= [],res:= .str u}
       |_,_=>none
     |_=>none
    |none=>none
  | .slice _, .slice _, .own k=>uW T h s d k
  |_,_,_=>none
 |_,_=>none
def wD(place:Nat→Option (Nat×Nat))(cs:List AV):List (Nat×AV)→Option (List AV)
 | []=>some cs
 |(i,v)::rest=>match place i with
  |none=>none
  |some (off,size)=>bif Nat.beq v.cells.length size&&Nat.ble (off+size) cs.length&&v.cells.all AV.one then wD place (xB cs off v.cells) rest else none
def placesOf(T:bW):List Field→Option (List (Nat×Nat))
 | []=>some []
 |f::fs=>match T.find f.type,placesOf T fs with
  |some te,some ps=>some ((f.offset,te.size)::ps)
  |_,_=>none
def zf(T:bW)(t:TypeId)(parts:List (Nat×AV)):Option Out:=match T.find t with
 |some te=>match te.desc with
  | .struct fs=>match placesOf T fs.toList with
    |some ps=>match wD (fun i=>ps[i]?) (ofConst te.zero).cells parts with
     |some cs=>some {cond:= [],res:= .agg cs}
     |none=>none
    |none=>none
  | .array _ e=>match T.find e with
    |some ee=>match wD (fun i=>some (i*ee.size,ee.size)) (ofConst te.zero).cells parts with
     |some cs=>some {cond:= [],res:= .agg cs}
     |none=>none
    |none=>none
  |_=>none
 |none=>none
def lh(h:aO):List (Nat×AV)→List (Nat×AV)×List Nat
 | []=>([],[])
 |(i,x)::ps=>((i,(lQ h x).1)::(lh h ps).1,(lQ h x).2++(lh h ps).2)
def gR(T:bW)(h:aO)(d:Nat)(t:TypeId)(len:Nat)(parts:List (Nat×AV)):Option Out:=
 match uV T t,pG T t with
 |some e,some te=>match rowOf T pJ e with
  |some row=>bif Nat.beq row.length te.size&&Nat.blt 0 te.size&&Nat.beq (ofConst te.zero).cells.length te.size&&Nat.ble (len*te.size) 16777216 then
   match wD (fun i=>some (i*te.size,te.size)) ((List.replicate len (ofConst te.zero).cells).flatten) (lh h parts).1 with
   |some cs=>match rD row len cs with
    |some l=>some {cond:= [],res:= .own d,ga:=cd h (lh h parts).2,new:= [(d, .row e row l false)]}
    |none=>none
   |none=>none
   else none
  |none=>none
 |_,_=>none
def cz(row:List Ty)(z:Value):Bool:=match z with
 | .agg cs=>bS row cs.toList
 |v=>bS row [v]
where
 bS:List Ty→List Value→Bool
 | [],[]=>true
 | .int k::ts, .int k' n::vs=>decide (k=k')&&decide (n=0)&&bS ts vs
 | .bool::ts, .bool false ::vs=>bS ts vs
 | .str::ts, .string s::vs=>s.data.toList.isEmpty&&bS ts vs
 | .slice _::ts, .slice none 0 0::vs=>bS ts vs
 |_,_=>false
def lZ(T:bW)(h:aO)(t:TypeId)(x:AV):Option Out:=
 match x with
 | .view k sz off n=>match h k with
   |some (.row e row l false)=>match uV T t,pG T t with
    |some _,some te=>bif bp T t row.length&&Nat.beq sz row.length&&Nat.beq row.length te.size&&cz row te.zero then
      some {cond:= [off+n≤l.length],res:= .cK [],ga:= [(k, .row e row (l.take off++List.replicate n (Row.zero row)++l.drop (off+n)) false)]} else none
    |_,_=>none
   |_=>none
 |_=>none
def qn(T:bW)(d:Nat)(t:TypeId):AV→AV→Option Out
 | .int k n, .int k' c=>match uV T t,pG T t with
   |some e,some te=>match rowOf T pJ e with
    |some row=>bif Nat.beq row.length te.size&&Nat.blt 0 te.size&&cz row te.zero then
     some {cond:= [0≤n∧n≤c∧c≤140737488355328/te.bytes],res:= .own d,new:= [(d, .row e row (List.replicate n.toNat (Row.zero row)) false)]} else none
    |none=>none
   |_,_=>none
 |_,_=>none
abbrev bP:=List AV→Option (Prop×AV×List AB)
structure fY where
 pre:Prop
 res:AV
 heap:List (Option AB)
 new:List AB
abbrev gk:=List AV→List AB→Option fY
structure Env where
 T:bW
 sig:Nat→Option bP
 lj:Nat→Option GD:=fun _=>none
 nJ:Nat→Option (List Bool×gk):=fun _=>none
 gj:Nat→Bool:=fun _=>false
 cls:Nat→Option Nat:=fun _=>none
 spl:Nat→Bool:=fun _=>false
 Fz:Nat:=0
mutual
def dc(base:Nat):AV→AV
 | .own k=> .own (base+k)
 | .agg cs=> .agg (og base cs)
 | .cK vs=> .cK (og base vs)
 |a=>a
def og(base:Nat):List AV→List AV
 | []=> []
 |a::aF=>dc base a::og base aF
end
def eM(base:Nat):List AB→List (Nat×AB)
 | []=> []
 |b::bs=>(base,b)::eM (base+1) bs
def kW(d:Nat):Nat:=100000+100*d
mutual
def AV.dX:AV→Bool
 | .int _ _| .bool _| .tt| .ff| .str _| .undef| .own _| .nil=>true
 | .agg cs=>xE cs
 | .cK vs=>xE vs
 |_=>false
def xE:List AV→Bool
 | []=>true
 |a::aF=>a.dX&&xE aF
end
def Cl:AV→Bool
 | .fn (.func _) [] []=>true
 |_=>false
mutual
def iy(n:Nat):AV→Bool
 | .own k=>Nat.blt k n
 | .agg cs=>xF n cs
 | .cK vs=>xF n vs
 | .fP _ cs=>cs.all Cl
 | .cW| .pre _ _| .view _ _ _ _| .ref _ _| .elem _ _ _ _| .fn _ _ _| .fO _ _ _| .ow _ _=>false
 |_=>true
def xF(n:Nat):List AV→Bool
 | []=>true
 |a::aF=>iy n a&&xF n aF
end
def gS:List AB→Bool
 | []=>true
 | .row _ _ _ false ::r=>gS r
 |_=>false
def BS:Ty→Bool
 | .slice _=>false
 |_=>true
def c5:List AB→Bool
 | []=>true
 | .row _ row _ _::r=>row.all BS&&c5 r
 |_=>false
def lk(E:Env)(h:aO)(d:Nat)(f:Nat)(args:List AV):Option Out:=match E.sig f with
 |some s=>match s (je h args).1 with
  |some (pre,res,bs)=>bif Nat.ble bs.length 100&&iy bs.length res&&gS bs then some {cond:= [pre],res:=dc (kW d) res,ga:=bif res.dX&&c5 bs then [] else cd h (je h args).2,new:=eM (kW d) bs} else none
  |none=>none
 |none=>none
def xG(b:Bool):AV→AV→AV
 | .int k n, .int k' m=>if k=k' then .int k (bif b then n else m) else .cW
 | .str s, .str u=> .str (bif b then s else u)
 | .sl r l, .sl r' m=>match eF r' r m with
   |some m'=> .sl r (bif b then l else m')
   |none=> .cW
 | .sl r l, .nil=> .sl r (bif b then l else [])
 | .nil, .sl r l=> .sl r (bif b then [] else l)
 | .nil, .nil=> .nil
 | .iR, .iR=> .iR
 | .own k, .own k'=>bif Nat.beq k k' then .own k else .cW
 |x,y=>match pI x,pI y with
  |some p,some q=> .bool (bif b then p else q)
  |_,_=> .cW
def l3(b:Bool):List AV→List AV→List AV
 |x::xs,y::ys=>xG b x y::l3 b xs ys
 |_,_=> []
def xH(b:Bool):AV→AV→AV
 | .agg xs, .agg ys=>bif Nat.beq xs.length ys.length then .agg (l3 b xs ys) else .cW
 | .cK xs, .cK ys=>bif Nat.beq xs.length ys.length then .cK (l3 b xs ys) else .cW
 |x,y=>xG b x y
def xI(b:Bool):Option AB→Option AB→Option AB
 |some (.cells xs),some (.cells ys)=>bif Nat.beq xs.length ys.length then some (.cells (l3 b xs ys)) else none
 |some (.row e r l fr),some (.row e' r' m zg)=>match eF r' r m with
  |some m'=>bif Nat.beq e e'&&(fr==zg) then some (.row e r (bif b then l else m') fr) else none
  |none=>none
 |_,_=>none
def xJ:List AV→Option (IntKind×List Int)
 | []=>none
 |a::r=>match a with
  | .int k n=>match r with
    | []=>some (k,[n])
    |_::_=>match xJ r with
     |some (k',l)=>if k=k' then some (k,n::l) else none
     |none=>none
  |_=>none
def every(sz j:Nat):Nat→List AV→List AV
 |0,_=> []
 |n+1,cs=>cs.getD j .cW::every sz j n (cs.drop sz)
def xK(sz k:Nat)(cs:List AV)(n:Int):Nat→Option (List AV)
 |0=>some []
 |m+1=>match xK sz k cs n m,xJ (every sz m k cs) with
  |some vs,some (kd,l)=>some (vs++ [.int kd (l.getD n.toNat 0)])
  |_,_=>none
def Cm(T:bW)(t:TypeId):Option (Nat×TE):=match T.find t with
 |some te=>match te.desc with
  | .array k e=>match T.find e with
    |some ee=>some (k,ee)
    |none=>none
  |_=>none
 |none=>none
def rG(T:bW)(t:TypeId)(cs:List AV)(n:Int):Option Out:=match Cm T t with
 |some (k,ee)=>bif Nat.beq cs.length (k*ee.size) then match xK ee.size k cs n ee.size with
  |some vs=>bif ee.desc.jD then some {cond:= [0≤n∧n<(k:Int)],res:= .agg vs} else match vs with
   | [a]=>some {cond:= [0≤n∧n<(k:Int)],res:=a}
   |_=>none
  |none=>none
  else none
 |none=>none
def nO(k:Nat):Bool:=Nat.ble 50000 k&&Nat.blt k 60000
def fresh(h:aO)(k:Nat):Bool:=match h k with
 |none=> !(nO k)
 |some _=>false
def rH(n:Int):List Int→Prop
 | []=>True
 |k::r=>n≠k∧rH n r
def Cn(n:Int):List Int→Bool
 | []=>false
 |k::r=>decide (n=k) || Cn n r
def iz:List Int→Bool
 | []=>true
 |k::r=> !Cn k r&&iz r
def wE:TypeDesc→Bool
 | .int .i64=>true
 |_=>false
def Mf:Value→Bool
 | .nilFunc=>true
 |_=>false
def wF(T:bW)(Fz:Nat)(t:TypeId)(ok:Bool)(ks:List Int)(cs:List AV)(n:Int):Option Out:=match T.find t with
 |some te=>match te.desc with
  | .map kt et=>bif dn T kt wE&&iz ks then
      (match ks[Fz]?,cs[Fz]? with
      |some k,some c=>some {cond:= [n=k],res:=bif ok then .cK [c, .tt] else c}
      |_,_=>match T.find et with
       |some ee=>bif Mf ee.zero then some {cond:= [rH n ks],res:=bif ok then .cK [.jc, .ff] else .jc} else none
       |none=>none)
    else none
  |_=>none
 |none=>none
def cN(E:Env)(st:St)(o:Oper):Option Out:=
 let T:=E.T
 let h:=st.h
 let ρ:=ev st
 match o.op with
 | .move x| .assign x=>some {cond:= [],res:=ρ x}
 | .pick c a b=>match ρ c with
   | .tt=>some {cond:= [],res:=ρ a}
   | .ff=>some {cond:= [],res:=ρ b}
   | .bool p=>some {cond:= [],res:=xH p (ρ a) (ρ b)}
   |_=>none
 | .alloc t=>match T.find t,o.dst with
   |some te,some d=>bif Nat.ble te.size 40 then(bif (ofConst te.zero).cells.all AV.one then some {cond:= [],res:= .ref (st.kb+d) 0,new:= [(st.kb+d, .cells (eT (st.kb+d) (ofConst te.zero).cells))]} else none) else none
   |_,_=>none
 | .box _ x=>match o.dst with
   |some d=>bif (ρ x).cells.all AV.one then some {cond:= [],res:= .ref (st.kb+d) 0,new:= [(st.kb+d, .cells (eT (st.kb+d) (ρ x).cells))]} else none
   |none=>none
 | .build t parts=>zf T t (parts.toList.map fun p=>(p.1,ρ p.2))
 | .buildSlice t len parts=>match o.dst with
   |some d=>bif fresh h (st.kb+d) then gR T h (st.kb+d) t len (parts.toList.map fun p=>(p.1,ρ p.2)) else none
   |none=>none
 | .load t p=>mU T h t (ρ p)
 | .store t p v=>gQ T h t (ρ p) (ρ v)
 | .nilCheck x=>match ρ x with
   | .ref k off=>some {cond:= [],res:= .ref k off}
   | .fO r x j=>some {cond:= [],res:= .fO r x j}
   | .elem k sz i j=>some {cond:= [],res:= .elem k sz i j}
   | .fn (.func f) first bk=>some {cond:= [],res:= .fn (.func f) first bk}
   |_=>none
 | .binOp op t x y _=>H7 T t op (ρ x) (ρ y)
 | .unOp op _ x=>Me op (ρ x)
 | .convert s d x=>kV T h s d (ρ x)
 | .makeFunc f first bk=>some {cond:= [],res:= .fn f (first.toList.map ρ) (bk.toList.map ρ)}
 | .makeSlice t l c=>match o.dst with
   |some d=>bif fresh h (st.kb+d) then qn T (st.kb+d) t (ρ l) (ρ c) else none
   |none=>none
 | .slice t x lo hi mx=>oe T h t (ρ x) (lo.map ρ) (hi.map ρ) (mx.map ρ)
 | .fieldAddr s x f=>qm T s f (ρ x)
 | .field s x f=>match xC T s f,ρ x with
   |some (ft,off), .agg cs=>match T.find ft with
    |some te=>match pick te cs off with
     |some a=>some {cond:= [],res:=a}
     |none=>none
    |none=>none
   |_,_=>none
 | .indexAddr t x i=>oz T h t (ú i) (ρ x) (ρ i)
 | .index t x i=>match ρ x,ρ i with
   | .str s, .int _ n=>bif dn T t nN then some {cond:= [0≤n∧n<(s.length:Int)],res:= .int .u8 ((s.getD n.toNat 0).toNat:Int)} else none
   | .agg cs, .int _ n=>rG T t cs n
   |_,_=>none
 | .extract x i=>match ρ x with
   | .cK vs=>match vs[i]? with
     |some a=>some {cond:= [],res:=a}
     |none=>none
   |_=>none
 | .lookup t x i ok=>match ρ x,ρ i with
   | .fP ks cs, .int .i64 n=>wF T E.Fz t ok ks cs n
   |_,_=>none
 | .call c=>match c.callee with
   | .builtin b=>match b,c.args.toList,c.argTypes.toList with
     | .len,[x],[t]=>match ze h (ρ x) with
       |some n=>bif (bif rF (ρ x) then dn T t gh else dn T t nN) then some {cond:= [],res:= .int .i64 n} else none
       |none=>none
     | .append,[s,x],[t,t']=>match o.dst with
       |some d=>bif fresh h (st.kb+d) then lY T h (st.kb+d) t t' (ρ s) (ρ x) else none
       |none=>none
     | .copy,[s,x],[t,t']=>mV T h t t' (ρ s) (ρ x)
     | .clear,[x],[t]=>lZ T h t (ρ x)
     | .min,[x,y],_=>match ρ x,ρ y with
       | .int k n, .int k' m=>if k=k' then some {cond:= [],res:= .int k (min n m)} else none
       |_,_=>none
     | .max,[x,y],_=>match ρ x,ρ y with
       | .int k n, .int k' m=>if k=k' then some {cond:= [],res:= .int k (max n m)} else none
       |_,_=>none
     |_,_,_=>none
   | .value f=>match ρ f,o.dst with
     | .fn (.func f) first bk,some d=>lk E h (st.kb+d) f (first++(c.args.toList.map ρ)++bk)
     | .fn (.func f) first bk,none=>lk E h st.kb f (first++(c.args.toList.map ρ)++bk)
     |_,_=>none
   |_=>none
 |_=>none
def iA(h:aO):List (Nat×AB)→Bool
 | []=>true
 |(k,_)::r=>(match h k with|none=> !(nO k)|some _=>false)&&iA h r
def lp(new:List (Nat×AB))(a:AV):AV:=match new with
 | []=>a
 |(k,_)::r=>lp r (dp k a)
def cG(new:List (Nat×AB))(a:AB):AB:=match new with
 | []=>a
 |(k,_)::r=>cG r (my k a)
def ao(l:List (Nat×AB))(k:Nat):Option AB:=match l with
 | []=>none
 |(j,b)::r=>bif Nat.beq k j then some b else ao r k
def aE(l:List Nat)(k:Nat):Bool:=match l with
 | []=>false
 |j::r=>Nat.beq k j || aE r k
def sX(out:Out)(k:Nat)(b:AB):AB:=bif aE out.raw k then b else cG out.new b
def Co(h:aO)(out:Out):aO:=fun k=>match ao out.new k with
 |some b=>some b
 |none=>bif aE out.del k then none else match ao out.ga k with
  |some b=>some (sX out k b)
  |none=>match h k with
   |some b=>some (cG out.new b)
   |none=>none
def St.put(st:St)(d:Option Nat)(out:Out):St:=
 {st with
  t:=match d with
   |some d=>fun i=>bif Nat.beq i d then out.res else lp out.new (st.t i)
   |none=>fun i=>lp out.new (st.t i)
  h:=Co st.h out
  bK:=out.ga.map (·.1)++(out.del++(out.new.map (·.1)++st.bK))
  news:=st.news++out.new.map fun x=> .one x.1
  Aq:=out.del++st.Aq}
def As:List Prop→Prop
 | []=>True
 | [p]=>p
 |p::ps=>p∧As ps
end Go.Vg

end
section
namespace Go.Vg
open Go
def bZ {α:Type}(R:List Value→α→Prop):List Value→List α→Prop
 |cs,[]=>cs= []
 |cs,x::l=>∃c1 c2,cs=c1++c2∧R c1 x∧bZ R c2 l
mutual
def Rd(w:World)(A:Nat→Prop):(t:Ty)→Value→D t→Prop
 | .int k,v,x=>v= .int k (DI.toInt k x)∧lo k≤DI.toInt k x∧DI.toInt k x≤hi k
 | .bool,v,b=>v= .bool b
 | .str,v,s=>v= .string ⟨s.toArray⟩∧s.length≤maxLen
 | .slice row,v,l=>∃a cap cs,v= .slice a l.length cap∧l.length≤cap∧cap≤maxLen∧bZ (bh w A row) cs l∧
     (cs≠ []→∃b o,a=some ⟨b,o,none⟩∧A b∧w.rangeAt b o cs)
def bh(w:World)(A:Nat→Prop):(ts:List Ty)→List Value→Row ts→Prop
 | [],vs,_=>vs= []
 |t::ts,vs,x=>∃v bI,vs=v::bI∧Rd w A t v (Row.hd x)∧bh w A ts bI (Row.tl x)
end
mutual
def aa(w:World)(A:Nat→Prop)(β:Nat→Value):Value→AV→Prop
 |_, .cW=>True
 |v, .undef=>v=undef
 |v, .int k n=>v= .int k n∧lo k≤n∧n≤hi k
 |v, .bool b=>v= .bool b
 |v, .tt=>v= .bool true
 |v, .ff=>v= .bool false
 |v, .str s=>v= .string ⟨s.toArray⟩∧s.length≤maxLen
 |v, .nil=>v= .slice none 0 0
 |v, .iR=>v= .pointer none
 |v, .jc=>v= .nilFunc
 |v, .sl row l=>Rd w A (.slice row) v l
 |v, .full row l=>Rd w A (.slice row) v l∧∃a,v= .slice a l.length l.length
 |v, .fO row x j=>∃b o cs,v= .pointer (some ⟨b,o+j,none⟩)∧A b∧w.rangeAt b o cs∧bh w A row cs x
 |v, .ow row l=>∃b o cs,v= .pointer (some ⟨b,o,none⟩)∧A b∧w.rangeAt b o cs∧bZ (bh w A row) cs l
 |v, .own k=>v=β k∧v.oneCell'=true
 |v, .pre k n=>(β k= .slice none 0 0∧v= .slice none 0 0∧n=0)∨
    ∃b m cap,β k= .slice (some ⟨b,0,none⟩) m cap∧v= .slice (some ⟨b,0,none⟩) n cap∧n≤m
 |v, .view k sz off n=>(n=0∧∃a cap,v= .slice a 0 cap∧cap≤maxLen)∨
    ∃b m cap gT,β k= .slice (some ⟨b,0,none⟩) m cap∧v= .slice (some ⟨b,off*sz,none⟩) n gT∧n≤gT∧off+gT≤cap∧off+n≤m
 |v, .ref k off=>∃b,β k= .pointer (some ⟨b,0,none⟩)∧v= .pointer (some ⟨b,off,none⟩)
 |v, .elem k sz i j=>∃b m cap,β k= .slice (some ⟨b,0,none⟩) m cap∧v= .pointer (some ⟨b,i*sz+j,none⟩)
 |v, .agg cs=>∃arr:Array Value,v= .agg arr∧ae w A β arr.toList cs
 |v, .cK vs=>∃arr:Array Value,v= .tuple arr∧ae w A β arr.toList vs
 |v, .nI _ l=>∃b,v= .bool b∧(b=true→l= [])
 |v, .fn f first bk=>∃a1 a2:Array Value,v= .func f a1 a2∧ae w A β a1.toList first∧ae w A β a2.toList bk
 |v, .fP ks cs=>∃(b:Nat) (es:Array MapEntry) (clock:Nat),v= .map (some b)∧A b∧w.heap[b]? =some (.map es clock)∧es.toList.map (·.key)=ks.map (Value.int .i64)∧ae w A β (es.toList.map (·.val)) cs
def ae(w:World)(A:Nat→Prop)(β:Nat→Value):List Value→List AV→Prop
 |vs,[]=>vs= []
 |vs,a::aF=>∃v bI,vs=v::bI∧aa w A β v a∧ae w A β bI aF
end
def aw:Value→Option Nat
 | .pointer (some a)=>some a.block
 | .slice (some a) _ _=>some a.block
 |_=>none
def BR(w:World)(A:Nat→Prop)(β:Nat→Value)(k:Nat):AB→Prop
 | .cells cs=>∃b arr e,β k= .pointer (some ⟨b,0,none⟩)∧w.heap[b]? =some (.cells arr e (0,0))∧¬A b∧
     ae w A β arr.toList cs∧∀v∈arr.toList,v.oneCell'=true
 | .row e row l fr=>∃xs,w.ownsRow 0 e row.length (β k) l.length xs∧bZ (bh w A row) xs l∧
     ∀b,aw (β k)=some b→if fr then A b else ¬A b
 | .arr row l=>∃b arr e,β k= .pointer (some ⟨b,0,none⟩)∧w.heap[b]? =some (.cells arr e (0,0))∧¬A b∧bZ (bh w A row) arr.toList l
 | .gj e j row l i=>∃xs v0,w.ownsRow 0 e row.length (β k) l.length xs∧(∀b,aw (β k)=some b→¬A b)∧bZ (bh w A row) (xs.set (i*row.length+(row.length-1)) v0) l∧
     ∀j',j=some j'→xs[i*row.length+(row.length-1)]? =some (β j')
 | .views e j n m sz=>∃xs,w.ownsRow 0 e 1 (β k) n xs∧(∀b,aw (β k)=some b→¬A b)∧
     ∀j',j=some j'→∀i,i<m→∃v,xs[i]? =some v∧aa w A β v (.view j' 1 (i*sz) sz)
def oA(w:World)(A:Nat→Prop)(i:Nat)(d:GD):Prop :=A i∧∃cs,w.rangeAt i 0 cs∧bZ (bh w A d.row) cs d.l
structure Ctx where
 w0:World
 A0:Nat→Prop
 M0:Nat→Prop
 G:Nat→Option GD
 xL:Nat→Value
structure Fr (C:Ctx) (w:World):Prop where
 os:w.os=C.w0.os
 tape:w.tape=C.w0.tape
 output:w.output=C.w0.output
 size:C.w0.heap.size≤w.heap.size
 block:∀b,b<C.w0.heap.size→¬C.M0 b→w.heap[b]? =C.w0.heap[b]?
structure aD (C:Ctx) (A:Nat→Prop) (β:Nat→Value) (st:St) (a:Act) (w:World):Prop where
 defers:a.defers= []
 size:a.tmps.size=st.n
 tmps:∀i,aa w A β (a.tmps.getD i undef) (st.t i)
 blocks:∀k ab,st.h k=some ab→BR w A β k ab
 apart:∀k k' b,(st.h k).isSome→(st.h k').isSome→aw (β k)=some b→aw (β k')=some b→k=k'
 bound:∀b,A b→b<w.heap.size
 frame:Fr C w
 j6:∀b,b<C.w0.heap.size→A b→C.A0 b∨C.M0 b
 base:∀b,C.A0 b→A b
 mW:∀k b,(st.h k).isSome→aw (β k)=some b→C.w0.heap.size≤b∨C.M0 b
 qo:∀i d,st.g i=some d→C.G i=some d
 laid:∀i d,C.G i=some d→oA w A i d
 held:∀k,nO k=true→β k=C.xL k
def Rel(C:Ctx)(st:St)(a:Act)(w:World):Prop :=∃A β,aD C A β st a w
theorem mA {w w':World} {b o:Nat} {cs:List Value}(h:w'.heap[b]? =w.heap[b]?)(hr:w.rangeAt b o cs):w'.rangeAt b o cs:=by
 intro j v hj
 have :=hr j v hj
 rw [World.cell?_of_block (w:=w) (w':=w') (a:=⟨b,o+j,none⟩) h]
 exact this
theorem bC {α:Type} {R R':List Value→α→Prop}(h:∀c x,R c x→R' c x):∀(l:List α) (cs:List Value),bZ R cs l→bZ R' cs l
 | [],_,hr=>hr
 |_::l,_,⟨c1,c2,hc,h1,h2⟩=>⟨c1,c2,hc,h _ _ h1,bC h l c2 h2⟩
def cM(w w':World)(A A':Nat→Prop):Prop :=∀b,A b→A' b∧w'.heap[b]? =w.heap[b]?
mutual
theorem xM {w w':World} {A A':Nat→Prop}(h:cM w w' A A'):∀(t:Ty) (v:Value) (x:D t),Rd w A t v x→Rd w' A' t v x
 | .int _,_,_,hr=>by simpa only [Rd] using hr
 | .bool,_,_,hr=>by simpa only [Rd] using hr
 | .str,_,_,hr=>by simpa only [Rd] using hr
 | .slice row,v,l,hr=>by
   simp only [Rd] at hr ⊢
   obtain⟨a,cap,cs,h1,h2,h3,h4,h5⟩:=hr
   refine⟨a,cap,cs,h1,h2,h3,bC (fun c x hx=>bD h row c x hx) l cs h4,fun dH=> ?_⟩
   obtain⟨b,o,ha,hA,R8⟩:=h5 dH
   exact⟨b,o,ha,(h b hA).1,mA (h b hA).2 R8⟩
theorem bD {w w':World} {A A':Nat→Prop}(h:cM w w' A A'):∀(ts:List Ty) (vs:List Value) (x:Row ts),bh w A ts vs x→bh w' A' ts vs x
 | [],_,_,hr=>by simpa only [bh] using hr
 |t::ts,vs,x,hr=>by
  simp only [bh] at hr ⊢
  obtain⟨v,bI,h1,h2,h3⟩:=hr
  exact⟨v,bI,h1,xM h t v _ h2,bD h ts bI _ h3⟩
end
theorem oA.mono {w w':World} {A A':Nat→Prop} {i:Nat} {d:GD}(hd:oA w A i d)(h:cM w w' A A'):oA w' A' i d:=by
 obtain⟨h1,cs,h2,h3⟩:=hd
 exact⟨(h i h1).1,cs,mA (h i h1).2 h2,bC (fun c x hx=>bD h _ _ _ hx) _ _ h3⟩
mutual
theorem il {w w':World} {A A':Nat→Prop} {β:Nat→Value}(h:cM w w' A A'):∀(a:AV) (v:Value),aa w A β v a→aa w' A' β v a
 | .cW,_,hr=>by simp [aa]
 | .undef,_,hr=>by simpa only [aa] using hr
 | .int _ _,_,hr=>by simpa only [aa] using hr
 | .bool _,_,hr=>by simpa only [aa] using hr
 | .tt,_,hr=>by simpa only [aa] using hr
 | .ff,_,hr=>by simpa only [aa] using hr
 | .str _,_,hr=>by simpa only [aa] using hr
 | .nil,_,hr=>by simpa only [aa] using hr
 | .iR,_,hr=>by simpa only [aa] using hr
 | .nI _ _,_,hr=>by simpa only [aa] using hr
 | .jc,_,hr=>by simpa only [aa] using hr
 | .sl row l,v,hr=>by
   simp only [aa] at hr ⊢
   exact xM h _ _ _ hr
 | .full row l,v,hr=>by
   simp only [aa] at hr ⊢
   exact⟨xM h _ _ _ hr.1,hr.2⟩
 | .fO row x j,v,hr=>by
   simp only [aa] at hr ⊢
   obtain⟨b,o,cs,h1,h2,h3,h4⟩:=hr
   exact⟨b,o,cs,h1,(h b h2).1,mA (h b h2).2 h3,bD h _ _ _ h4⟩
 | .ow row l,v,hr=>by
   simp only [aa] at hr ⊢
   obtain⟨b,o,cs,h1,h2,h3,h4⟩:=hr
   exact⟨b,o,cs,h1,(h b h2).1,mA (h b h2).2 h3,bC (fun c x hx=>bD h _ _ _ hx) _ _ h4⟩
 | .own _,_,hr=>by simpa only [aa] using hr
 | .pre _ _,_,hr=>by simpa only [aa] using hr
 | .view _ _ _ _,_,hr=>by simpa only [aa] using hr
 | .ref _ _,_,hr=>by simpa only [aa] using hr
 | .elem _ _ _ _,_,hr=>by simpa only [aa] using hr
 | .agg cs,v,hr=>by
   simp only [aa] at hr ⊢
   obtain⟨arr,h1,h2⟩:=hr
   exact⟨arr,h1,eb h cs _ h2⟩
 | .cK cs,v,hr=>by
   simp only [aa] at hr ⊢
   obtain⟨arr,h1,h2⟩:=hr
   exact⟨arr,h1,eb h cs _ h2⟩
 | .fn f first bk,v,hr=>by
   simp only [aa] at hr ⊢
   obtain⟨a1,a2,h1,h2,h3⟩:=hr
   exact⟨a1,a2,h1,eb h first _ h2,eb h bk _ h3⟩
 | .fP ks cs,v,hr=>by
   simp only [aa] at hr ⊢
   obtain⟨b,es,ck,h1,h2,h3,h4,h5⟩:=hr
   exact⟨b,es,ck,h1,(h b h2).1,(h b h2).2.trans h3,h4,eb h cs _ h5⟩
theorem eb {w w':World} {A A':Nat→Prop} {β:Nat→Value}(h:cM w w' A A'):∀(aF:List AV) (vs:List Value),ae w A β vs aF→ae w' A' β vs aF
 | [],_,hr=>by simpa only [ae] using hr
 |a::aF,vs,hr=>by
  simp only [ae] at hr ⊢
  obtain⟨v,bI,h1,h2,h3⟩:=hr
  exact⟨v,bI,h1,il h a v h2,eb h aF bI h3⟩
end
theorem aN {k d:Nat}(h:¬k=d):Nat.beq k d=false :=by
 cases hb:Nat.beq k d with
 |false=>rfl
 |true=>exact absurd (Nat.eq_of_beq_eq_true hb) h
theorem bE(k:Nat):Nat.beq k k=true :=Nat.beq_refl k
def bG(β:Nat→Value)(d:Nat)(v:Value):Nat→Value:=fun k=>if k=d then v else β k
mutual
theorem rI {w:World} {A:Nat→Prop} {β:Nat→Value}(d:Nat)(u:Value):∀(a:AV) (v:Value),aa w A β v a→aa w A (bG β d u) v (dp d a)
 | .cW,_,hr=>by simp [dp,aa]
 | .undef,_,hr=>by simpa only [dp,aa] using hr
 | .int _ _,_,hr=>by simpa only [dp,aa] using hr
 | .bool _,_,hr=>by simpa only [dp,aa] using hr
 | .tt,_,hr=>by simpa only [dp,aa] using hr
 | .ff,_,hr=>by simpa only [dp,aa] using hr
 | .str _,_,hr=>by simpa only [dp,aa] using hr
 | .nil,_,hr=>by simpa only [dp,aa] using hr
 | .iR,_,hr=>by simpa only [dp,aa] using hr
 | .nI _ _,_,hr=>by simpa only [dp,aa] using hr
 | .jc,_,hr=>by simpa only [dp,aa] using hr
 | .sl _ _,_,hr=>by simpa only [dp,aa] using hr
 | .full _ _,_,hr=>by simpa only [dp,aa] using hr
 | .fO _ _ _,_,hr=>by simpa only [dp,aa] using hr
 | .ow _ _,_,hr=>by simpa only [dp,aa] using hr
 | .own k,v,hr=>by
   simp only [dp]
   by_cases hk:k=d
   · subst hk;simp [aa]
   · have :Nat.beq k d=false :=aN hk
     simp only [this,cond_false]
     simpa only [aa,bG,if_neg hk] using hr
 | .pre k n,v,hr=>by
   simp only [dp]
   by_cases hk:k=d
   · subst hk;simp [aa]
   · have :Nat.beq k d=false :=aN hk
     simp only [this,cond_false]
     simpa only [aa,bG,if_neg hk] using hr
 | .view k sz off n,v,hr=>by
   simp only [dp]
   by_cases hk:k=d
   · subst hk;simp [aa]
   · have :Nat.beq k d=false :=aN hk
     simp only [this,cond_false]
     simpa only [aa,bG,if_neg hk] using hr
 | .ref k off,v,hr=>by
   simp only [dp]
   by_cases hk:k=d
   · subst hk;simp [aa]
   · have :Nat.beq k d=false :=aN hk
     simp only [this,cond_false]
     simpa only [aa,bG,if_neg hk] using hr
 | .elem k sz i j,v,hr=>by
   simp only [dp]
   by_cases hk:k=d
   · subst hk;simp [aa]
   · have :Nat.beq k d=false :=aN hk
     simp only [this,cond_false]
     simpa only [aa,bG,if_neg hk] using hr
 | .agg cs,v,hr=>by
   simp only [dp,aa] at hr ⊢
   obtain⟨arr,h1,h2⟩:=hr
   exact⟨arr,h1,fC d u cs _ h2⟩
 | .cK cs,v,hr=>by
   simp only [dp,aa] at hr ⊢
   obtain⟨arr,h1,h2⟩:=hr
   exact⟨arr,h1,fC d u cs _ h2⟩
 | .fn f first bk,v,hr=>by
   simp only [dp,aa] at hr ⊢
   obtain⟨a1,a2,h1,h2,h3⟩:=hr
   exact⟨a1,a2,h1,fC d u first _ h2,fC d u bk _ h3⟩
 | .fP ks cs,v,hr=>by
   simp only [dp,aa] at hr ⊢
   obtain⟨b,es,ck,h1,h2,h3,h4,h5⟩:=hr
   exact⟨b,es,ck,h1,h2,h3,h4,fC d u cs _ h5⟩
theorem fC {w:World} {A:Nat→Prop} {β:Nat→Value}(d:Nat)(u:Value):∀(aF:List AV) (vs:List Value),ae w A β vs aF→ae w A (bG β d u) vs (eT d aF)
 | [],_,hr=>by simpa only [eT,ae] using hr
 |a::aF,vs,hr=>by
  simp only [eT,ae] at hr ⊢
  obtain⟨v,bI,h1,h2,h3⟩:=hr
  exact⟨v,bI,h1,rI d u a v h2,fC d u aF bI h3⟩
end
theorem Mg {w:World} {A:Nat→Prop} {β aH:Nat→Value}(h:∀k,aH k=β k) {v:Value} {a:AV}(hr:aa w A β v a):aa w A aH v a:=by
 have :aH=β:=funext h
 rw [this];exact hr
theorem vV {w:World} {A:Nat→Prop}:∀(new:List (Nat×AB)) (β aH:Nat→Value) (v:Value) (a:AV),(∀k,ao new k=none→aH k=β k)→aa w A β v a→aa w A aH v (lp new a)
 | [],β,aH,v,a,h,hr=>by
   simp only [lp]
   exact Mg (fun k=>h k (by simp [ao])) hr
 |(d,b)::r,β,aH,v,a,h,hr=>by
  simp only [lp]
  refine vV r (bG β d (aH d)) aH v (dp d a) (fun k hk=> ?_) (rI d (aH d) a v hr)
  by_cases H9:k=d
  · subst H9;simp [bG]
  · simp only [bG,if_neg H9]
    exact h k (by simp only [ao,aN H9,cond_false];exact hk)
def qQ(new:List (Nat×AB))(cs:List AV):List AV:=match new with
 | []=>cs
 |(k,_)::r=>qQ r (eT k cs)
theorem sY {w:World} {A:Nat→Prop}:∀(new:List (Nat×AB)) (β aH:Nat→Value) (vs:List Value) (aF:List AV),(∀k,ao new k=none→aH k=β k)→ae w A β vs aF→ae w A aH vs (qQ new aF)
 | [],β,aH,v,a,h,hr=>by
   simp only [qQ]
   have :aH=β:=funext fun k=>h k (by simp [ao])
   rw [this];exact hr
 |(d,b)::r,β,aH,v,a,h,hr=>by
  simp only [qQ]
  refine sY r (bG β d (aH d)) aH v (eT d a) (fun k hk=> ?_) (fC d (aH d) a v hr)
  by_cases H9:k=d
  · subst H9;simp [bG]
  · simp only [bG,if_neg H9]
    exact h k (by simp only [ao,aN H9,cond_false];exact hk)
theorem sZ:∀(new:List (Nat×AB)) (cs:List AV),cG new (.cells cs)= .cells (qQ new cs)
 | [],_=>rfl
 |(k,_)::r,cs=>by simp only [cG,my,qQ,sZ r]
theorem jF:∀(new:List (Nat×AB)) (e:Nat) (row:List Ty) (l:List (Row row)) (fr:Bool),cG new (.row e row l fr)= .row e row l fr
 | [],_,_,_,_=>rfl
 |(k,_)::r,e,row,l,fr=>by simp only [cG,my,jF r]
theorem xN:∀(new:List (Nat×AB)) (row:List Ty) (l:List (Row row)),cG new (.arr row l)= .arr row l
 | [],_,_=>rfl
 |(k,_)::r,row,l=>by simp only [cG,my,xN r]
def j7(new:List (Nat×AB))(j:Option Nat):Option Nat:=match new with
 | []=>j
 |(k,_)::r=>j7 r (pF k j)
theorem s5:∀(new:List (Nat×AB)) (e:Nat) (j:Option Nat) (n m sz:Nat),cG new (.views e j n m sz)= .views e (j7 new j) n m sz
 | [],_,_,_,_,_=>rfl
 |(k,_)::r,e,j,n,m,sz=>by simp only [cG,my,j7,s5 r]
theorem xO:∀(new:List (Nat×AB)) (e:Nat) (j:Option Nat) (row:List Ty) (l:List (Row row)) (i:Nat),cG new (.gj e j row l i)= .gj e (j7 new j) row l i
 | [],_,_,_,_,_=>rfl
 |(k,_)::r,e,j,row,l,i=>by simp only [cG,my,j7,xO r]
theorem qp:∀(new:List (Nat×AB)),j7 new none=none
 | []=>rfl
 |(k,_)::r=>by simp only [j7,pF,qp r]
theorem qq:∀(new:List (Nat×AB)) (j:Option Nat) (j':Nat),j7 new j=some j'→j=some j'∧ao new j'=none
 | [],j,j',h=>⟨h,rfl⟩
 |(k,_)::r,none,j',h=>by simp only [j7,pF,qp] at h;cases h
 |(k,_)::r,some i,j',h=>by
  simp only [j7,pF] at h
  cases hb:Nat.beq i k with
  |true=>rw [hb] at h;simp only [cond_true,qp] at h;cases h
  |false=>
   rw [hb] at h
   obtain⟨h1,h2⟩:=qq r (some i) j' h
   simp only [Option.some.injEq] at h1
   subst h1
   exact⟨rfl,by simp only [ao,hb,cond_false];exact h2⟩
theorem s6 {w w':World} {A A':Nat→Prop} {β aH:Nat→Value} {v:Value} {j sz off n:Nat}(h:aH j=β j)(hr:aa w A β v (.view j sz off n)):aa w' A' aH v (.view j sz off n):=by
 simp only [aa] at hr ⊢
 rw [h];exact hr
theorem fD {w w':World} {e size n:Nat} {v:Value} {xs:List Value}(h:w.ownsRow 0 e size v n xs)(hb:∀b,aw v=some b→w'.heap[b]? =w.heap[b]?):w'.ownsRow 0 e size v n xs:=by
 refine⟨h.1,?_⟩
 rcases h.2 with hn|⟨g,cap,cur,rfl,h0,hg,rest⟩
 · exact .inl hn
 · refine .inr ⟨g,cap,cur,rfl,h0,?_,rest⟩
   rw [hb g rfl];exact hg
theorem s7 {w w':World} {A A':Nat→Prop} {β aH:Nat→Value} {new:List (Nat×AB)} {k:Nat} {ab:AB}(bX:∀k,ao new k=none→aH k=β k)(hk:aH k=β k)
  (hblk:∀b,aw (β k)=some b→w'.heap[b]? =w.heap[b]? ∧(A' b→A b)) (hK:cM w w' A A') (h:BR w A β k ab):BR w' A' aH k (cG new ab):=by
 cases ab with
 |cells cs=>
  rw [sZ]
  obtain⟨b,arr,e,h1,h2,h3,h4,h5⟩:=h
  have hb:=hblk b (by rw [h1];rfl)
  exact⟨b,arr,e,hk.trans h1,hb.1.trans h2,fun hA=>h3 (hb.2 hA),sY new β aH _ _ bX (eb hK _ _ h4),h5⟩
 |row e row l fr=>
  rw [jF]
  obtain⟨xs,h1,h2,h3⟩:=h
  simp only [BR,hk]
  refine⟨xs,fD h1 (fun b hb=>(hblk b hb).1),bC (fun c x hx=>bD hK row c x hx) l xs h2,fun b hb=> ?_⟩
  have :=h3 b hb
  cases fr with
  |true=>simp only [if_true] at this ⊢;exact(hK b this).1
  |false=>simp only [Bool.false_eq_true,if_false] at this ⊢;exact fun hA=>this ((hblk b hb).2 hA)
 |arr row l=>
  rw [xN]
  obtain⟨b,arr,e,h1,h2,h3,h4⟩:=h
  have hb:=hblk b (by rw [h1];rfl)
  exact⟨b,arr,e,hk.trans h1,hb.1.trans h2,fun hA=>h3 (hb.2 hA),bC (fun c x hx=>bD hK row c x hx) l _ h4⟩
 |views e j n m sz=>
  rw [s5]
  obtain⟨xs,h1,h2,h3⟩:=h
  simp only [BR,hk]
  refine⟨xs,fD h1 (fun b hb=>(hblk b hb).1),fun b hb hA=>h2 b hb ((hblk b hb).2 hA),fun j' eA i hi=> ?_⟩
  obtain⟨hj,de⟩:=qq new j j' eA
  obtain⟨v,JP,FA⟩:=h3 j' hj i hi
  exact⟨v,JP,s6 (bX j' de) FA⟩
 |gj e j row l i=>
  rw [xO]
  obtain⟨xs,v0,h1,h2,h3,h4⟩:=h
  simp only [BR,hk]
  refine⟨xs,v0,fD h1 (fun b hb=>(hblk b hb).1),fun b hb hA=>h2 b hb ((hblk b hb).2 hA),bC (fun c x hx=>bD hK row c x hx) l _ h3,fun j' eA=> ?_⟩
  obtain⟨hj,de⟩:=qq new j j' eA
  rw [bX j' de];exact h4 j' hj
def j8(st:St)(out:Out)(k:Nat):Prop :=(st.h k).isSome∧((ao out.ga k).isSome∨aE out.del k=true)
theorem aD.TT {C:Ctx} {A A':Nat→Prop} {β aH:Nat→Value} {st:St} {a:Act} {w w':World} {out:Out} {d:Option Nat} {v:Value}
  (hB:aD C A β st a w) (hd:∀t,d=some t→t<st.n)
  (zh:∀k b,ao out.new k=some b→st.h k=none∧nO k=false)
  (zi:∀k b,ao out.ga k=some b→(st.h k).isSome)
  (bX:∀k,ao out.new k=none→aH k=β k)
  (hK:cM w w' A A')
  (hos:w'.os=w.os) (Mh:w'.tape=w.tape) (mX:w'.output=w.output) (nB:w.heap.size≤w'.heap.size)
  (wG:∀b,b<w.heap.size→(∀k,j8 st out k→aw (β k)≠some b)→w'.heap[b]? =w.heap[b]?)
  (hbound:∀b,A' b→b<w'.heap.size)
  (hA:∀b,A' b→A b∨w.heap.size≤b∨∃k,j8 st out k∧aw (β k)=some b)
  (xP:∀k ab,ao out.ga k=some ab→aE out.del k=false→BR w' A' aH k (sX out k ab))
  (de:∀k ab,ao out.new k=some ab→BR w' A' aH k ab)
  (s8:∀k b ab,ao out.new k=some ab→aw (aH k)=some b→w.heap.size≤b∨∃k0,aE out.del k0=true∧(st.h k0).isSome∧aw (β k0)=some b)
  (wH:∀k k' b,(ao out.new k).isSome→(ao out.new k').isSome→aw (aH k)=some b→aw (aH k')=some b→k=k')
  (qR:aa w' A' aH v out.res):aD C A' aH (st.put d out) (a.put d v) w':=by
 have eB:∀k b,(st.h k).isSome→aw (β k)=some b→b<w.heap.size:=by
  intro k b hk hb
  obtain⟨ab,fk⟩:=Option.isSome_iff_exists.1 hk
  have fK:=hB.blocks k ab fk
  cases ab with
  |arr row l=>
   obtain⟨b',arr,e,h1,h2,_⟩:=fK
   rw [h1] at hb
   simp only [aw,Option.some.injEq] at hb
   subst hb
   exact(Array.getElem?_eq_some_iff.1 h2).1
  |cells cs=>
   obtain⟨b',arr,e,h1,h2,_⟩:=fK
   rw [h1] at hb
   simp only [aw,Option.some.injEq] at hb
   subst hb
   exact(Array.getElem?_eq_some_iff.1 h2).1
  |row e row l fr=>
   obtain⟨xs,h1,_⟩:=fK
   rcases h1.2 with⟨hn,_⟩|⟨g,cap,cur,hv,_,hg,_⟩
   · rw [hn] at hb;simp [aw] at hb
   · rw [hv] at hb
     simp only [aw,Option.some.injEq] at hb
     subst hb
     exact(Array.getElem?_eq_some_iff.1 hg).1
  |gj e j row l i=>
   obtain⟨xs,v0,h1,_⟩:=fK
   rcases h1.2 with⟨hn,_⟩|⟨g,cap,cur,hv,_,hg,_⟩
   · rw [hn] at hb;simp [aw] at hb
   · rw [hv] at hb
     simp only [aw,Option.some.injEq] at hb
     subst hb
     exact(Array.getElem?_eq_some_iff.1 hg).1
  |views e j n m sz=>
   obtain⟨xs,h1,_⟩:=fK
   rcases h1.2 with⟨hn,_⟩|⟨g,cap,cur,hv,_,hg,_⟩
   · rw [hn] at hb;simp [aw] at hb
   · rw [hv] at hb
     simp only [aw,Option.some.injEq] at hb
     subst hb
     exact(Array.getElem?_eq_some_iff.1 hg).1
 have TU:∀k Cp,(st.put d out).h k=some Cp→(∃ab,ao out.new k=some ab∧ab=Cp)∨(ao out.new k=none∧aE out.del k=false∧
   ((∃ab,ao out.ga k=some ab∧Cp=sX out k ab)∨(ao out.ga k=none∧∃ab,st.h k=some ab∧Cp=cG out.new ab))):=by
  intro k Cp hk
  simp only [St.put,Co] at hk
  cases hn:ao out.new k with
  |some ab=>simp only [hn,Option.some.injEq] at hk;exact .inl ⟨ab,rfl,hk⟩
  |none=>
   simp only [hn] at hk
   cases acA:aE out.del k with
   |true=>simp [acA] at hk
   |false=>
    simp only [acA,cond_false] at hk
    cases hu:ao out.ga k with
    |some ab=>simp only [hu,Option.some.injEq] at hk;exact .inr ⟨rfl,rfl, .inl ⟨ab,rfl,hk.symm⟩⟩
    |none=>
     simp only [hu] at hk
     cases hs:st.h k with
     |none=>simp [hs] at hk
     |some ab=>simp only [hs,Option.some.injEq] at hk;exact .inr ⟨rfl,rfl, .inr ⟨rfl,ab,rfl,hk.symm⟩⟩
 have eW:∀k,((st.put d out).h k).isSome→(ao out.new k).isSome∨(ao out.new k=none∧aE out.del k=false∧(st.h k).isSome):=by
  intro k hk
  obtain⟨Cp,aj3⟩:=Option.isSome_iff_exists.1 hk
  rcases TU k Cp aj3 with⟨ab,h,_⟩|⟨h1,h2,⟨ab,h,_⟩|⟨_,ab,h,_⟩⟩
  · exact .inl (by simp [h])
  · exact .inr ⟨h1,h2,zi k ab h⟩
  · exact .inr ⟨h1,h2,by simp [h]⟩
 have acB:∀v a,aa w A β v a→aa w' A' aH v (lp out.new a):=fun v a h=>vV out.new β aH v a bX (il hK a v h)
 refine⟨?_,?_,?_,?_,?_,hbound,?_,?_,?_,?_,hB.qo,fun i d hd=>(hB.laid i d hd).mono hK,fun k hk=>by
  rw [bX k (by
   cases hn:ao out.new k with
   |none=>rfl
   |some ab=>rw [(zh k ab hn).2] at hk;cases hk)]
  exact hB.held k hk⟩
 · cases d<;>exact hB.defers
 · cases d with
   |none=>exact hB.size
   |some t=>show(a.put (some t) v).tmps.size=st.n;simp [Act.put,hB.size]
 · intro i
   cases d with
   |none=>exact acB _ _ (hB.tmps i)
   |some t=>
    have ht:=hd t rfl
    simp only [St.put,Act.put]
    by_cases hi:i=t
    · subst hi
      simp only [bE,cond_true]
      rw [Array.getD_eq_getD_getElem?,Array.getElem?_setIfInBounds_self_of_lt (by rw [hB.size];exact ht)]
      exact qR
    · simp only [aN hi,cond_false]
      have :=acB _ _ (hB.tmps i)
      rw [Array.getD_eq_getD_getElem?,Array.getElem?_setIfInBounds_ne (fun h=>hi h.symm),←Array.getD_eq_getD_getElem?]
      exact this
 · intro k Cp hk
   rcases TU k Cp hk with⟨ab,h,rfl⟩|⟨h1,h2,⟨ab,h,rfl⟩|⟨h3,ab,h,rfl⟩⟩
   · exact de k _ h
   · exact xP k ab h h2
   · have wI:=hB.blocks k ab h
     refine s7 bX (bX k h1) (fun b hb=> ?_) hK wI
     have û:∀k',j8 st out k'→aw (β k')≠some b:=by
      intro k' ht bz
      have :k'=k:=hB.apart k' k b ht.1 (by simp [h]) bz hb
      subst this
      rcases ht.2 with hu|hu
      · simp [h3] at hu
      · simp [h2] at hu
     refine⟨wG b (eB k b (by simp [h]) hb) û,fun Cq=> ?_⟩
     rcases hA b Cq with hh|hh|⟨k',ht,bz⟩
     · exact hh
     · exact absurd (eB k b (by simp [h]) hb) (by omega)
     · exact absurd bz (û k' ht)
 · intro k k' b hk c6 hb bz
   rcases eW k hk with h1|⟨h1,h2,h3⟩<;>rcases eW k' c6 with g1|⟨g1,g2,g3⟩
   · exact wH k k' b h1 g1 hb bz
   · obtain⟨ab,fk⟩:=Option.isSome_iff_exists.1 h1
     rw [bX k' g1] at bz
     rcases s8 k b ab fk hb with hh|⟨k0,ü,Mi,Bt⟩
     · exact absurd (eB k' b g3 bz) (by omega)
     · have :k0=k':=hB.apart k0 k' b Mi g3 Bt bz
       subst this;rw [ü] at g2;cases g2
   · obtain⟨ab,fk⟩:=Option.isSome_iff_exists.1 g1
     rw [bX k h1] at hb
     rcases s8 k' b ab fk bz with hh|⟨k0,ü,Mi,Bt⟩
     · exact absurd (eB k b h3 hb) (by omega)
     · have :k0=k:=hB.apart k0 k b Mi h3 Bt hb
       subst this;rw [ü] at h2;cases h2
   · rw [bX k h1] at hb;rw [bX k' g1] at bz
     exact hB.apart k k' b h3 g3 hb bz
 · refine⟨hos.trans hB.frame.os,Mh.trans hB.frame.tape,mX.trans hB.frame.output,Nat.le_trans hB.frame.size nB,fun b hb hM=> ?_⟩
   rw [wG b (Nat.lt_of_lt_of_le hb hB.frame.size) (fun k ht wI=> ?_)]
   · exact hB.frame.block b hb hM
   · rcases hB.mW k b ht.1 wI with h|h
     · omega
     · exact hM h
 · intro b hb Cq
   rcases hA b Cq with hh|hh|⟨k,ht,wI⟩
   · exact hB.j6 b hb hh
   · exact absurd hB.frame.size (by omega)
   · rcases hB.mW k b ht.1 wI with h|h
     · omega
     · exact .inr h
 · exact fun b hb=>(hK b (hB.base b hb)).1
 · intro k b hk hb
   rcases eW k hk with h1|⟨h1,h2,h3⟩
   · obtain⟨ab,fk⟩:=Option.isSome_iff_exists.1 h1
     rcases s8 k b ab fk hb with hh|⟨k0,ü,Mi,Bt⟩
     · exact .inl (Nat.le_trans hB.frame.size hh)
     · exact hB.mW k0 b Mi Bt
   · rw [bX k h1] at hb
     exact hB.mW k b h3 hb
theorem aD.step {C:Ctx} {A A':Nat→Prop} {β aH:Nat→Value} {st:St} {a:Act} {w w':World} {out:Out} {d:Option Nat} {v:Value}
  (hB:aD C A β st a w) (hd:∀t,d=some t→t<st.n)
  (zh:∀k b,ao out.new k=some b→st.h k=none∧nO k=false)
  (zi:∀k b,ao out.ga k=some b→(st.h k).isSome)
  (bX:∀k,ao out.new k=none→aH k=β k)
  (hK:cM w w' A A')
  (hos:w'.os=w.os) (Mh:w'.tape=w.tape) (mX:w'.output=w.output) (nB:w.heap.size≤w'.heap.size)
  (wG:∀b,b<w.heap.size→(∀k,j8 st out k→aw (β k)≠some b)→w'.heap[b]? =w.heap[b]?)
  (hbound:∀b,A' b→b<w'.heap.size)
  (hA:∀b,A' b→A b∨w.heap.size≤b∨∃k,j8 st out k∧aw (β k)=some b)
  (xP:∀k ab,ao out.ga k=some ab→aE out.del k=false→BR w' A' aH k (cG out.new ab))
  (de:∀k ab,ao out.new k=some ab→BR w' A' aH k ab)
  (s8:∀k b ab,ao out.new k=some ab→aw (aH k)=some b→w.heap.size≤b∨∃k0,aE out.del k0=true∧(st.h k0).isSome∧aw (β k0)=some b)
  (wH:∀k k' b,(ao out.new k).isSome→(ao out.new k').isSome→aw (aH k)=some b→aw (aH k')=some b→k=k')
  (qR:aa w' A' aH v out.res) (hr:out.raw= []:=by rfl):aD C A' aH (st.put d out) (a.put d v) w':=
 hB.TT hd zh zi bX hK hos Mh mX nB wG hbound hA (fun k ab h1 h2=>by
  have :sX out k ab=cG out.new ab:=by simp [sX,hr,aE]
  rw [this];exact xP k ab h1 h2) de s8 wH qR
end Go.Vg

end
section
namespace Go.Vg
open Go
def Mj(P:Program)(t:TypeId):TypeDesc→Prop
 | .struct fs=>P.stoodInHeld t=false∧P.eqGuardType P.depth t=false∧(fs.toList.all fun f=>f.name != "_")=true
 |_=>True
structure bw (T:bW) (P:Program):Prop where
 ok:∀t te,T.find t=some te→P.underlying t=some te.desc∧∃i,P.info? t=some i∧i.size=te.size∧i.bytes=te.bytes∧i.zero=some te.zero
 held:∀t te,T.find t=some te→Mj P t te.desc
section
variable {P:Program} {C:Ctx} {A:Nat→Prop} {β:Nat→Value} {st:St} {a:Act} {w:World}
theorem cP {o:Oper} {K:Act→World→Prop} {Q:Exit→Act→World→Prop} {v:Value} {w':World}(h:(execOp a.eval o).run P w= .ok (.value v) w')(hk:K (a.put o.dst v) w'):o.wp P a w K Q:=by
 unfold Oper.wp;rw [h];exact hk
theorem qS {o:Oper} {K:Act→World→Prop} {Q:Exit→Act→World→Prop} {w':World}(h:(execOp a.eval o).run P w= .ok .skip w')(hk:K (a.put o.dst undef) w'):o.wp P a w K Q:=by
 unfold Oper.wp;rw [h];exact hk
theorem Au(v:Value):aa w A β v (rE v):=by
 unfold rE
 split
 · split
   · rename_i h;simp only [aa];exact⟨trivial,h⟩
   · simp [aa]
 · split
   · rename_i h;simp [aa,h]
   · rename_i h;simp [aa,h]
 · rename_i s
   cases hb:Nat.ble s.data.toList.length 1000000 with
   |false=>simp [aa]
   |true=>
    have :=Nat.le_of_ble_eq_true hb
    simp only [cond_true,aa]
    refine⟨by simp,?_⟩
    unfold maxLen;omega
 · simp [aa]
 · simp [aa]
 · simp [aa]
 · simp [aa]
theorem Av(f:Value→AV)(hf:∀v,aa w A β v (f v)):∀(vs:List Value),ae w A β vs (vs.map f)
 | []=>by simp [ae]
 |v::vs=>by
  simp only [List.map_cons,ae]
  exact⟨v,vs,rfl,hf v,Av f hf vs⟩
theorem rJ(v:Value):aa w A β v (ofConst v):=by
 unfold ofConst
 split
 · rename_i cs
   simp only [aa]
   exact⟨cs,rfl,Av rE Au cs.toList⟩
 · exact Au v
theorem aQ(hB:aD C A β st a w)(x:Operand):aa w A β (a.eval x) (ev st x):=by
 cases x with
 |tmp i=>exact hB.tmps i
 |const v=>exact rJ v
 |global g=>
  simp only [ev,Act.eval]
  cases hg:st.g g with
  |none=>simp [aa]
  |some d=>
   obtain⟨h1,cs,h2,h3⟩:=hB.laid g d (hB.qo g d hg)
   simp only [aa]
   exact⟨g,0,cs,rfl,h1,h2,h3⟩
 |func f=>
  simp only [ev,aa,Act.eval]
  exact⟨#[], #[],rfl,by simp [ae],by simp [ae]⟩
theorem cM.refl(w:World)(A:Nat→Prop):cM w w A A:=fun _ h=>⟨h,rfl⟩
theorem aD.pure(hB:aD C A β st a w) {d:Option Nat}(hd:∀t,d=some t→t<st.n) {c:List Prop} {r:AV} {v:Value}(h:aa w A β v r):
  aD C A β (st.put d {cond:=c,res:=r}) (a.put d v) w:=
 hB.step (out:= {cond:=c,res:=r}) hd (by simp [ao]) (by simp [ao]) (fun _ _=>rfl) (cM.refl w A) rfl rfl rfl (Nat.le_refl _) (fun _ _ _=>rfl) hB.bound
  (fun b h=> .inl h) (by simp [ao]) (by simp [ao]) (by simp [ao]) (by simp [ao]) h
theorem Rel.jY {A:Nat→Prop} {β:Nat→Value}(h:aD C A β st a w):Rel C st a w:=⟨A,β,h⟩
theorem rK(b:Bool) {v:Value}:∀(x y:AV),(if b then aa w A β v x else aa w A β v y)→aa w A β v (xG b x y):=by
 intro x y h
 have hb:∀x y p q,pI x=some p→pI y=some q→(if b then aa w A β v x else aa w A β v y)→aa w A β v (.bool (bif b then p else q)):=by
  intro x y p q hx hy h
  cases b<;>cases x<;>simp_all [pI,aa]<;>cases y<;>simp_all [aa]
 unfold xG
 split
 · split
   · cases b<;>simp_all [aa]
   · simp [aa]
 · cases b<;>simp_all [aa]
 · rename_i r l r' m
   cases hc:eF r' r m with
   |none=>simp [aa]
   |some m'=>
    simp only [eF] at hc
    split at hc
    · rename_i vI
      have :=Ty.jd _ _ vI
      subst this
      simp only [Option.some.injEq] at hc
      subst hc
      cases b<;>simp_all
    · cases hc
 · cases b with
   |true=>simpa using h
   |false=>
    simp only [aa,Bool.false_eq_true,if_false] at h
    simp only [aa,Rd,cond_false]
    exact⟨none,0,[],by simpa using h,by simp,by simp,by simp [bZ],by simp⟩
 · cases b with
   |false=>simpa using h
   |true=>
    simp only [aa,if_true] at h
    simp only [aa,Rd,cond_true]
    exact⟨none,0,[],by simpa using h,by simp,by simp,by simp [bZ],by simp⟩
 · cases b<;>simp_all
 · cases b<;>simp_all
 · rename_i k k'
   cases hk:Nat.beq k k' with
   |false=>simp [aa]
   |true=>
    have :=Nat.eq_of_beq_eq_true hk
    subst this
    cases b<;>simp_all
 · split
   next p q hx hy=>exact hb _ _ _ _ hx hy h
   next=>simp [aa]
theorem cX:∀(aF:List AV) (vs:List Value),ae w A β vs aF→vs.length=aF.length
 | [],vs,h=>by simp only [ae] at h;simp [h]
 |a::aF,vs,h=>by
  simp only [ae] at h
  obtain⟨v,bI,rfl,_,h2⟩:=h
  simp [cX aF bI h2]
theorem gy(b:Bool):∀(xs ys:List AV) (vs:List Value),xs.length=ys.length→(if b then ae w A β vs xs else ae w A β vs ys)→ae w A β vs (l3 b xs ys)
 | [],[],vs,_,h=>by simpa [l3] using h
 |x::xs,y::ys,vs,hl,h=>by
  simp only [l3,ae]
  cases b with
  |true=>
   simp only [if_true,ae] at h
   obtain⟨v,bI,rfl,h1,h2⟩:=h
   exact⟨v,bI,rfl,rK true x y (by simpa using h1),gy true xs ys bI (by simpa using hl) (by simpa using h2)⟩
  |false=>
   simp only [Bool.false_eq_true,if_false,ae] at h
   obtain⟨v,bI,rfl,h1,h2⟩:=h
   exact⟨v,bI,rfl,rK false x y (by simpa using h1),gy false xs ys bI (by simpa using hl) (by simpa using h2)⟩
 | [],_::_,_,hl,_=>by simp at hl
 |_::_,[],_,hl,_=>by simp at hl
theorem vX(b:Bool) {v:Value}(x y:AV)(h:if b then aa w A β v x else aa w A β v y):aa w A β v (xH b x y):=by
 unfold xH
 split
 · rename_i xs ys
   cases hl:Nat.beq xs.length ys.length with
   |false=>simp [aa]
   |true=>
    have hl:=Nat.eq_of_beq_eq_true hl
    simp only [cond_true,aa]
    cases b with
    |true=>
     simp only [if_true,aa] at h
     obtain⟨arr,h1,h2⟩:=h
     exact⟨arr,h1,gy true xs ys _ hl (by simpa using h2)⟩
    |false=>
     simp only [Bool.false_eq_true,if_false,aa] at h
     obtain⟨arr,h1,h2⟩:=h
     exact⟨arr,h1,gy false xs ys _ hl (by simpa using h2)⟩
 · rename_i xs ys
   cases hl:Nat.beq xs.length ys.length with
   |false=>simp [aa]
   |true=>
    have hl:=Nat.eq_of_beq_eq_true hl
    simp only [cond_true,aa]
    cases b with
    |true=>
     simp only [if_true,aa] at h
     obtain⟨arr,h1,h2⟩:=h
     exact⟨arr,h1,gy true xs ys _ hl (by simpa using h2)⟩
    |false=>
     simp only [Bool.false_eq_true,if_false,aa] at h
     obtain⟨arr,h1,h2⟩:=h
     exact⟨arr,h1,gy false xs ys _ hl (by simpa using h2)⟩
 · exact rK b x y h
end
end Go.Vg

end
section
namespace Go.Vg
open Go
section
variable {P:Program} {C:Ctx} {A:Nat→Prop} {β:Nat→Value} {st:St} {a:Act} {w:World} {T:bW}
theorem fE:∀(ts:List Ty) (vs:List Value) (x:Row ts),bh w A ts vs x→vs.length=ts.length
 | [],vs,_,h=>by simp only [bh] at h;simp [h]
 |t::ts,vs,x,h=>by
  simp only [bh] at h
  obtain⟨v,bI,rfl,_,h2⟩:=h
  simp [fE ts bI _ h2]
theorem eC {row:List Ty}:∀(l:List (Row row)) (cs:List Value),bZ (bh w A row) cs l→cs.length=l.length*row.length
 | [],cs,h=>by simp only [bZ] at h;simp [h]
 |x::l,cs,⟨c1,c2,hc,h1,h2⟩=>by
  subst hc
  simp [fE row c1 x h1,eC l c2 h2,Nat.add_mul,Nat.add_comm]
theorem oB {row:List Ty}:∀(l:List (Row row)) (cs:List Value) (i:Nat) (hi:i<l.length),bZ (bh w A row) cs l→
  ∃c1 c c2,cs=c1++(c++c2)∧c1.length=i*row.length∧bh w A row c l[i]∧bZ (bh w A row) c1 (l.take i)∧bZ (bh w A row) c2 (l.drop (i+1))
 | [],_,_,hi,_=>by simp at hi
 |x::l,cs,0,_,⟨c1,c2,hc,h1,h2⟩=>⟨[],c1,c2,by simp [hc],by simp,by simpa using h1,by simp [bZ],by simpa using h2⟩
 |x::l,cs,i+1,hi,⟨c1,c2,hc,h1,h2⟩=>by
  obtain⟨d1,d,d2,e1,e2,e3,e4,e5⟩:=oB l c2 i (by simpa using hi) h2
  subst hc;subst e1
  exact⟨c1++d1,d,d2,by simp,by simp [e2,fE row c1 x h1,Nat.add_mul,Nat.add_comm],by simpa using e3,⟨c1,d1,rfl,h1,e4⟩,by simpa using e5⟩
theorem gl {α:Type} {R:List Value→α→Prop}:∀(l m:List α) (cs ds:List Value),bZ R cs l→bZ R ds m→bZ R (cs++ds) (l++m)
 | [],m,cs,ds,h,h'=>by simp only [bZ] at h;subst h;simpa using h'
 |x::l,m,cs,ds,⟨c1,c2,hc,h1,h2⟩,h'=>by
  subst hc
  exact⟨c1,c2++ds,by simp,h1,gl l m c2 ds h2 h'⟩
theorem dQ {row:List Ty}:∀(l:List (Row row)) (cs:List Value) (i:Nat),bZ (bh w A row) cs l→
  bZ (bh w A row) (cs.take (i*row.length)) (l.take i)∧bZ (bh w A row) (cs.drop (i*row.length)) (l.drop i)
 | [],cs,i,h=>by simp only [bZ] at h;subst h;simp [bZ]
 |x::l,cs,0,h=>by simp [bZ];exact h
 |x::l,cs,i+1,⟨c1,c2,hc,h1,h2⟩=>by
  subst hc
  have hl:=fE row c1 x h1
  have ih:=dQ l c2 i h2
  have e:(i+1)*row.length=c1.length+i*row.length:=by rw [hl,Nat.add_mul];omega
  rw [e]
  refine⟨⟨c1,c2.take (i*row.length),?_,h1,ih.1⟩,?_⟩
  · rw [List.take_length_add_append]
  · rw [List.drop_length_add_append];simpa using ih.2
theorem rL {b o:Nat} {c1 c c2:List Value}(h:w.rangeAt b o (c1++(c++c2))):w.rangeAt b (o+c1.length) c:=by
 intro j v hj
 have :=h (c1.length+j) v (by
  rw [List.getElem?_append_right (by omega)]
  have :j<c.length:=by
   rcases Nat.lt_or_ge j c.length with h|h
   · exact h
   · rw [List.getElem?_eq_none h] at hj;cases hj
  rw [show c1.length+j-c1.length=j by omega,List.getElem?_append_left this];exact hj)
 rw [←Nat.add_assoc] at this;exact this
theorem mB {b o n:Nat} {cs:List Value}(h:w.rangeAt b o cs):w.rangeAt b (o+n) (cs.drop n):=by
 intro j v hj
 have :=h (n+j) v (by simpa using hj)
 rw [←Nat.add_assoc] at this;exact this
theorem gz {b o n:Nat} {cs:List Value}(h:w.rangeAt b o cs):w.rangeAt b o (cs.take n):=by
 intro j v hj
 refine h j v ?_
 rw [List.getElem?_take] at hj
 split at hj
 · exact hj
 · cases hj
theorem JQ:∀(t:Ty) (v:Value) (x:D t),Rd w A t v x→aa w A β v (xA t x)
 | .int k,v,x,h=>by simpa only [xA,aa,Rd] using h
 | .bool,v,x,h=>by simpa only [xA,aa,Rd] using h
 | .str,v,x,h=>by simpa only [xA,aa,Rd] using h
 | .slice row,v,x,h=>by simpa only [xA,aa] using h
theorem jf:∀(ts:List Ty) (vs:List Value) (x:Row ts),bh w A ts vs x→ae w A β vs (fc ts x)
 | [],vs,_,h=>by simpa only [fc,ae,bh] using h
 |t::ts,vs,x,h=>by
  simp only [bh] at h
  obtain⟨v,bI,rfl,h1,h2⟩:=h
  simp only [fc,ae]
  exact⟨v,bI,rfl,JQ t v _ h1,jf ts bI _ h2⟩
theorem lq:∀(ts:List Ty) (x:Row ts),(fc ts x).length=ts.length
 | [],_=>rfl
 |t::ts,x=>by simp [fc,lq ts]
theorem fF:∀(aF:List AV) (vs:List Value) (n:Nat),ae w A β vs aF→ae w A β (vs.take n) (aF.take n)∧ae w A β (vs.drop n) (aF.drop n)
 | [],vs,n,h=>by simp only [ae] at h;subst h;simp [ae]
 |a::aF,vs,0,h=>by simp [ae] at h ⊢;exact h
 |a::aF,vs,n+1,h=>by
  simp only [ae] at h
  obtain⟨v,bI,rfl,h1,h2⟩:=h
  have ih:=fF aF bI n h2
  simp only [List.take_succ_cons,List.drop_succ_cons,ae]
  exact⟨⟨v,_,rfl,h1,ih.1⟩,ih.2⟩
theorem pK:∀(aF:List AV) (vs:List Value) (i:Nat) (r:AV),ae w A β vs aF→aF[i]? =some r→∃v,vs[i]? =some v∧aa w A β v r
 | [],vs,i,r,h,hr=>by simp at hr
 |a::aF,vs,0,r,h,hr=>by
  simp only [ae] at h
  obtain⟨v,bI,rfl,h1,h2⟩:=h
  simp at hr;subst hr
  exact⟨v,by simp,h1⟩
 |a::aF,vs,i+1,r,h,hr=>by
  simp only [ae] at h
  obtain⟨v,bI,rfl,h1,h2⟩:=h
  obtain⟨u,hu,k9⟩:=pK aF bI i r h2 (by simpa using hr)
  exact⟨u,by simpa using hu,k9⟩
theorem FB(d:TypeDesc):d.jD=d.isRow:=by cases d<;>rfl
theorem kK(hT:bw T P) {t:TypeId} {te:TE}(ht:T.find t=some te) {cs:List Value} {aF:List AV}(hrel:ae w A β cs aF) {off:Nat} {r:AV}(hp:pick te aF off=some r)
  {b o:Nat} (hr:w.rangeAt b o cs):∃v,(Instr.loadAt t (.pointer (some ⟨b,o+off,none⟩))).run P w= .ok v w∧aa w A β v r:=by
 obtain⟨hu,i,hi,hs,_,_⟩:=hT.ok t te ht
 unfold pick at hp
 cases F8:te.desc.jD with
 |true=>
  simp only [F8,cond_true] at hp
  cases hle:Nat.ble (off+te.size) aF.length with
  |false=>simp [hle] at hp
  |true=>
   have hle:=Nat.le_of_ble_eq_true hle
   simp only [hle,Nat.ble_eq_true_of_le,cond_true,Option.some.injEq] at hp
   subst hp
   have hlen:=cX aF cs hrel
   refine⟨.agg ((cs.drop off).take te.size).toArray,?_,?_⟩
   · refine run_loadAt_mid w b (o+off) t ((cs.drop off).take te.size) te.desc (gz (mB hr)) hu (by rw [←FB];exact F8) ?_
     rw [hi]
     simp only [Option.map_some,List.length_take,List.length_drop,hs,Option.some.injEq]
     omega
   · simp only [aa]
     exact⟨_,rfl,by simpa using(fF _ _ te.size ((fF aF cs off hrel).2)).1⟩
 |false=>
  simp only [F8,cond_false] at hp
  obtain⟨v,hv,hrv⟩:=pK aF cs off r hrel hp
  refine⟨v,?_,hrv⟩
  have hc:=hr off v hv
  have TV:(isAgg t).run P w= .ok false w:=by
   unfold isAgg
   rw [Sem.run_bind,run_underlying hu w]
   cases hd:te.desc<;>simp_all [TypeDesc.jD]
  simp [Instr.loadAt,Instr.sureAddr,loadVar,TV,hc]
theorem eh(hT:bw T P) {t:TypeId} {n:Nat}(h:bp T t n=true):∃e i,P.underlying t=some (.slice e)∧P.info? e=some i∧i.size=n∧0<n:=by
 unfold bp pG at h
 cases ht:T.find t with
 |none=>simp [ht] at h
 |some te=>
  simp only [ht] at h
  cases hd:te.desc with
  |slice e=>
   simp only [hd] at h
   cases he:T.find e with
   |none=>simp [he] at h
   |some ee=>
    simp only [he,Bool.and_eq_true] at h
    obtain⟨_,i,hi,hs,_⟩:=hT.ok e ee he
    exact⟨e,i,by rw [(hT.ok t te ht).1,hd],hi,hs.trans (Nat.eq_of_beq_eq_true h.1),by have :=Nat.le_of_ble_eq_true h.2;omega⟩
  |_=>simp [hd] at h
theorem run_indexAt {t:TypeId} {e:TypeId} {i:TypeInfo}(hu:P.underlying t=some (.slice e))(hi:P.info? e=some i)(b o len cap:Nat)(k:IntKind)(n:Int)(h0:0≤n)(h1:n<(len:Int)):
  (Instr.indexAt t (.slice (some ⟨b,o,none⟩) len cap) (.int k n)).run P w= .ok (.pointer (some ⟨b,o+n.toNat*i.size,none⟩)) w:=by
 simp [Instr.indexAt,asIntOf,run_underlying hu,sizeOf,typeInfo,hi,h0,h1,Addr.add_mid]
theorem F9(hT:bw T P) {t:TypeId} {n sz:Nat}(h:Ci T t=some (n,sz)):∃e i,P.underlying t=some (.array n e)∧P.info? e=some i∧i.size=sz:=by
 unfold Ci at h
 split at h
 · rename_i te jZ
   obtain⟨hu,_⟩:=hT.ok t te jZ
   split at h
   · rename_i k e hd
     split at h
     · rename_i ee oC
       obtain⟨_,i,hi,hs,_⟩:=hT.ok e ee oC
       cases hb:Nat.blt 0 ee.size with
       |false=>rw [hb] at h;cases h
       |true=>
        rw [hb] at h
        simp only [cond_true,Option.some.injEq,Prod.mk.injEq] at h
        obtain⟨rfl,rfl⟩:=h
        exact⟨e,i,by rw [hu,hd],hi,hs⟩
     · cases h
   · cases h
 · cases h
theorem vY {t:TypeId} {e:TypeId} {i:TypeInfo} {len:Nat}(hu:P.underlying t=some (.array len e))(hi:P.info? e=some i)(b o:Nat)(k:IntKind)(n:Int)(h0:0≤n)(h1:n<(len:Int)):
  (Instr.indexAt t (.pointer (some ⟨b,o,none⟩)) (.int k n)).run P w= .ok (.pointer (some ⟨b,o+n.toNat*i.size,none⟩)) w:=by
 simp [Instr.indexAt,Instr.sureAddr,asIntOf,run_underlying hu,sizeOf,typeInfo,hi,h0,h1,Addr.add_mid]
theorem s9:∀(xs ys:List AV) (us vs:List Value),ae w A β us xs→ae w A β vs ys→ae w A β (us++vs) (xs++ys)
 | [],ys,us,vs,h,g=>by
   simp only [ae] at h;subst h;simpa using g
 |a::aF,ys,us,vs,h,g=>by
  simp only [ae] at h
  obtain⟨v,wJ,rfl,h1,h2⟩:=h
  simp only [List.cons_append,ae]
  exact⟨v,wJ++vs,rfl,h1,s9 aF ys wJ vs h2 g⟩
theorem Ga(row:List Ty):∀(l:List (Row row)) (cs:List Value),bZ (bh w A row) cs l→ae w A β cs (l.flatMap (fc row))
 | [],cs,h=>by simp only [bZ] at h;subst h;simp [ae]
 |x::l,cs,⟨c1,c2,hc,h1,h2⟩=>by
  subst hc
  rw [List.flatMap_cons]
  exact s9 _ _ _ _ (jf row c1 x h1) (Ga row l c2 h2)
theorem getD_eq {α:Type}(l:List α)(i:Nat)(d:α)(h:i<l.length):l.getD i d=l[i]:=by
 simp [List.getD,List.getElem?_eq_getElem h]
theorem Gb(row:List Ty)(l:List (Row row))(v:Value)(n:Int)(hR:Rd w A (.slice row) v l)(h0:0≤n)(h1:n<(l.length:Int)):
  row≠ []→∃b o cap,v= .slice (some ⟨b,o,none⟩) l.length cap∧aa w A β (.pointer (some ⟨b,o+n.toNat*row.length,none⟩)) (.fO row (l.getD n.toNat (Row.zero row)) 0):=by
 intro jV
 simp only [Rd] at hR
 obtain⟨a,cap,cs,hv,_,_,hL,c7⟩:=hR
 have hn:n.toNat<l.length:=by omega
 obtain⟨c1,c,c2,e1,e2,e3,_,_⟩:=oB l cs n.toNat hn hL
 have hc:=fE row c _ e3
 have dH:cs≠ []:=by
  intro h
  rw [h] at e1
  have :=congrArg List.length e1
  simp at this
  exact jV (List.eq_nil_of_length_eq_zero (by omega))
 obtain⟨b,o,ha,hA,R8⟩:=c7 dH
 refine⟨b,o,cap,by rw [hv,ha],?_⟩
 simp only [aa]
 refine⟨b,o+n.toNat*row.length,c,by simp,hA,?_,?_⟩
 · rw [e1] at R8
   have :=rL R8
   rwa [e2] at this
 · rw [getD_eq l _ _ hn];exact e3
theorem pM(T:bW)(h:aO)(t:TypeId)(n:Option Int)(x y:AV):oz T h t n x y=dZ T h t x y:=by
 unfold oz
 split
 · rename_i n k off kd i
   split
   · rename_i m sz hm
     split
     · rename_i hn
       subst hn
       simp only [dZ,hm,F7]
     · rfl
   · rename_i hm
     simp only [dZ,hm]
 · rfl
theorem dI {x:Prop} {l:List Prop}(h:∀p∈(x::l),p):x:=h _ (List.Mem.head _)
theorem acC {x y:Prop} {l:List Prop}(h:∀p∈(x::y::l),p):y:=h _ (List.Mem.tail _ (List.Mem.head _))
def Out.quiet(out:Out):Prop :=out.ga= []∧out.del= []∧out.new= []
theorem aD.quiet(hB:aD C A β st a w) {d:Option Nat}(hd:∀t,d=some t→t<st.n) {out:Out}(hq:out.quiet) {v:Value}(h:aa w A β v out.res):
  aD C A β (st.put d out) (a.put d v) w:=by
 obtain⟨c,r,u,dl,nw,rw'⟩:=out
 obtain⟨h1,h2,h3⟩:=hq
 simp only at h1 h2 h3
 subst h1 h2 h3
 exact hB.pure (c:=c) hd h
def Reads(P:Program)(A:Nat→Prop)(β:Nat→Value)(w:World)(s:Sem Value)(out:Out):Prop :=out.quiet∧∃v,s.run P w= .ok v w∧aa w A β v out.res
theorem ej(hB:aD C A β st a w) {k e:Nat} {row:List Ty} {l:List (Row row)} {fr:Bool}(h:st.h k=some (.row e row l fr)):
  (β k= .slice none 0 0∧l= [])∨∃b cap cur,β k= .slice (some ⟨b,0,none⟩) l.length cap∧w.heap[b]? =some (.cells cur e (0,0))∧l.length≤cap∧cap≤maxLen∧cur.size=cap*row.length∧
    bZ (bh w A row) (cur.toList.take (l.length*row.length)) l∧(if fr then A b else ¬A b):=by
 obtain⟨xs,h1,h2,h3⟩:=hB.blocks k _ h
 rcases h1.2 with⟨hv,hn⟩|⟨g,cap,cur,hv,_,hg,h4,h5,h6,h7⟩
 · exact .inl ⟨hv,List.eq_nil_of_length_eq_zero hn⟩
 · exact .inr ⟨g,cap,cur,hv,hg,h4,h5,h6,by rw [h7];exact h2,h3 g (by rw [hv];rfl)⟩
theorem zj(hT:bw T P)(hB:aD C A β st a w) {t:TypeId} {x i:AV} {vx vi:Value}(hx:aa w A β vx x)(hi:aa w A β vi i) {out:Out}
  (h:dZ T st.h t x i=some out) (hc:∀p∈out.cond,p):Reads P A β w (Instr.indexAt t vx vi) out:=by
 unfold dZ at h
 split at h
 · rename_i row l k n
   cases hs:bp T t row.length with
   |false=>simp [hs] at h
   |true=>
    simp only [hs,cond_true,Option.some.injEq] at h
    subst h
    obtain⟨h0,h1⟩:=dI hc
    obtain⟨e,ii,hu,gH,cR,im⟩:=eh hT hs
    simp only [aa] at hx hi
    obtain⟨b,o,cap,hv,hr⟩:=Gb (β:=β) row l vx n hx h0 h1 (by intro hh;rw [hh] at im;simp at im)
    refine⟨⟨rfl,rfl,rfl⟩,_,?_,hr⟩
    rw [hv,hi.1,run_indexAt hu gH b o l.length cap k n h0 h1,cR]
 · rename_i row l k n
   cases hs:bp T t row.length with
   |false=>simp [hs] at h
   |true=>
    simp only [hs,cond_true,Option.some.injEq] at h
    subst h
    obtain⟨h0,h1⟩:=dI hc
    obtain⟨e,ii,hu,gH,cR,im⟩:=eh hT hs
    simp only [aa] at hx hi
    obtain⟨b,o,cap,hv,hr⟩:=Gb (β:=β) row l vx n hx.1 h0 h1 (by intro hh;rw [hh] at im;simp at im)
    refine⟨⟨rfl,rfl,rfl⟩,_,?_,hr⟩
    rw [hv,hi.1,run_indexAt hu gH b o l.length cap k n h0 h1,cR]
 · rename_i k kk n
   split at h
   · rename_i e' row l fr hk
     cases hs:bp T t row.length with
     |false=>simp [hs] at h
     |true=>
      simp only [hs,cond_true,Option.some.injEq] at h
      subst h
      obtain⟨h0,h1⟩:=dI hc
      obtain⟨e,ii,hu,gH,cR,im⟩:=eh hT hs
      simp only [aa] at hx hi
      rcases ej hB hk with⟨_,hl⟩|⟨b,cap,cur,hv,_⟩
      · subst hl;simp at h1;omega
      · refine⟨⟨rfl,rfl,rfl⟩, .pointer (some ⟨b,0+n.toNat*row.length,none⟩),?_,?_⟩
        · rw [hx.1,hv,hi.1,run_indexAt hu gH b 0 l.length cap kk n h0 h1,cR]
        · simp only [aa];exact⟨b,_,cap,hv,by simp⟩
   · cases h
 · rename_i k m kk n
   split at h
   · rename_i e' row l fr hk
     cases hs:bp T t row.length with
     |false=>simp [hs] at h
     |true=>
      simp only [hs,cond_true,Option.some.injEq] at h
      subst h
      obtain⟨h0,h1⟩:=dI hc
      obtain⟨e,ii,hu,gH,cR,im⟩:=eh hT hs
      simp only [aa] at hx hi
      rcases hx with⟨_,_,hl⟩|⟨b,mm,cap,hv,wK,_⟩
      · subst hl;omega
      · refine⟨⟨rfl,rfl,rfl⟩, .pointer (some ⟨b,0+n.toNat*row.length,none⟩),?_,?_⟩
        · rw [wK,hi.1,run_indexAt hu gH b 0 m cap kk n h0 h1,cR]
        · simp only [aa];exact⟨b,_,cap,hv,by simp⟩
   · cases h
 · rename_i k sz off m kk n
   cases hs:bp T t sz with
   |false=>simp [hs] at h
   |true=>
    simp only [hs,cond_true,Option.some.injEq] at h
    subst h
    obtain⟨h0,h1⟩:=dI hc
    obtain⟨e,ii,hu,gH,cR,im⟩:=eh hT hs
    simp only [aa] at hx hi
    rcases hx with⟨hm,_⟩|⟨b,mm,cap,gT,hv,wK,_⟩
    · subst hm;omega
    · refine⟨⟨rfl,rfl,rfl⟩, .pointer (some ⟨b,off*sz+n.toNat*sz,none⟩),?_,?_⟩
      · rw [wK,hi.1,run_indexAt hu gH b (off*sz) m gT kk n h0 h1,cR]
      · simp only [aa];exact⟨b,_,cap,hv,by simp [Nat.add_mul]⟩
 · rename_i row l k n
   split at h
   · rename_i m sz ha
     cases hb:Nat.beq sz row.length with
     |false=>rw [hb] at h;cases h
     |true=>
      rw [hb] at h
      simp only [cond_true,Option.some.injEq] at h
      subst h
      have hm:=dI hc
      have hz:=Nat.eq_of_beq_eq_true hb
      obtain⟨h0,h1⟩:=acC hc
      obtain⟨e,ii,hu,gH,cR⟩:=F9 hT ha
      simp only [aa] at hx hi
      obtain⟨b,o,cs,rfl,hA,hr,hL⟩:=hx
      have hn:n.toNat<l.length:=by omega
      obtain⟨c1,c,c2,e1,e2,e3,_,_⟩:=oB l cs n.toNat hn hL
      refine⟨⟨rfl,rfl,rfl⟩, .pointer (some ⟨b,o+n.toNat*row.length,none⟩),?_,?_⟩
      · rw [hi.1,vY hu gH b o k n h0 (by rw [hm];exact h1),cR,hz]
      · simp only [aa]
        refine⟨b,o+n.toNat*row.length,c,by simp,hA,?_,?_⟩
        · rw [e1] at hr
          have :=rL hr
          rwa [e2] at this
        · rw [getD_eq l _ _ hn];exact e3
   · cases h
 · rename_i k off kk n
   split at h
   · rename_i m sz ha
     simp only [Option.some.injEq] at h
     subst h
     obtain⟨h0,h1⟩:=dI hc
     obtain⟨e,ii,hu,gH,cR⟩:=F9 hT ha
     simp only [aa] at hx hi
     obtain⟨b,bX,rfl⟩:=hx
     refine⟨⟨rfl,rfl,rfl⟩, .pointer (some ⟨b,off+n.toNat*sz,none⟩),?_,?_⟩
     · rw [hi.1,vY hu gH b off kk n h0 h1,cR]
     · simp only [aa]
       exact⟨b,bX,rfl⟩
   · cases h
 · cases h
theorem Aw(hT:bw T P)(hB:aD C A β st a w) {t:TypeId} {x:AV} {vx:Value}(hx:aa w A β vx x) {out:Out}
  (h:mU T st.h t x=some out) (hc:∀p∈out.cond,p):Reads P A β w (Instr.loadAt t vx) out:=by
 unfold mU at h
 split at h
 · rename_i row x j
   split at h
   · rename_i te ht
     split at h
     · rename_i r hp
       simp only [Option.some.injEq] at h;subst h
       simp only [aa] at hx
       obtain⟨b,o,cs,rfl,hA,hr,hv⟩:=hx
       obtain⟨v,h1,h2⟩:=kK (β:=β) hT ht (jf row cs x hv) hp hr
       exact⟨⟨rfl,rfl,rfl⟩,v,h1,h2⟩
     · cases h
   · cases h
 · rename_i row l
   split at h
   · rename_i te ht
     split at h
     · rename_i r hp
       simp only [Option.some.injEq] at h;subst h
       simp only [aa] at hx
       obtain⟨b,o,cs,rfl,hA,hr,hv⟩:=hx
       obtain⟨v,h1,h2⟩:=kK (β:=β) hT ht (Ga row l cs hv) hp hr
       exact⟨⟨rfl,rfl,rfl⟩,v,by simpa using h1,h2⟩
     · cases h
   · cases h
 · rename_i k off
   split at h
   · rename_i te cs ht hk
     split at h
     · rename_i r hp
       simp only [Option.some.injEq] at h;subst h
       simp only [aa] at hx
       obtain⟨b,bX,rfl⟩:=hx
       obtain⟨b',arr,e,h1,h2,_,h4,_⟩:=hB.blocks k _ hk
       rw [bX] at h1
       simp only [Value.pointer.injEq,Option.some.injEq,Addr.mk.injEq,and_true] at h1
       subst h1
       have hr:w.rangeAt b 0 arr.toList:=fun j v hj=>by
        simp [World.cell?,h2];simpa using hj
       obtain⟨v,g1,g2⟩:=kK (β:=β) hT ht h4 hp hr
       exact⟨⟨rfl,rfl,rfl⟩,v,by simpa using g1,g2⟩
     · cases h
   · cases h
 · rename_i k sz i j
   split at h
   · rename_i te e row l fr ht hk
     cases cR:Nat.beq sz row.length with
     |false=>simp [cR] at h
     |true=>
      have cR:=Nat.eq_of_beq_eq_true cR
      subst cR
      simp only [bE,cond_true] at h
      split at h
      · rename_i r hp
        simp only [Option.some.injEq] at h;subst h
        have hi:i<l.length:=dI hc
        simp only [aa] at hx
        obtain⟨b,m,cap,bX,rfl⟩:=hx
        rcases ej hB hk with⟨_,hl⟩|⟨b',gT,cur,hv,hg,_,_,c7,hL,_⟩
        · subst hl;simp at hi
        · rw [bX] at hv
          simp only [Value.slice.injEq,Option.some.injEq,Addr.mk.injEq,and_true] at hv
          obtain⟨hbb,_,_⟩:=hv
          subst hbb
          obtain⟨c1,c,c2,e1,e2,e3,_,_⟩:=oB l _ i hi hL
          have hr:w.rangeAt b 0 (cur.toList.take (l.length*row.length)):=fun j v hj=>by
           rw [List.getElem?_take] at hj
           split at hj
           · simp [World.cell?,hg];simpa using hj
           · cases hj
          rw [e1] at hr
          have hr:=rL hr
          rw [e2] at hr
          rw [getD_eq l _ _ hi] at hp
          obtain⟨v,g1,g2⟩:=kK (β:=β) hT ht (jf row c _ e3) hp hr
          exact⟨⟨rfl,rfl,rfl⟩,v,by simpa using g1,g2⟩
      · cases h
   · cases h
 · cases h
end
end Go.Vg

end
section
namespace Go.Vg
open Go
section
variable {P:Program} {C:Ctx} {A:Nat→Prop} {β:Nat→Value} {st:St} {a:Act} {w:World} {T:bW}
theorem Ax(hT:bw T P) {s:TypeId} {f:Nat} {ft o:Nat}(h:xC T s f=some (ft,o)):∃fs fd,P.underlying s=some (.struct fs)∧fs[f]? =some fd∧fd.type=ft∧fd.offset=o:=by
 unfold xC at h
 cases ht:T.find s with
 |none=>simp [ht] at h
 |some te=>
  simp only [ht] at h
  cases hd:te.desc with
  |struct fs=>
   simp only [hd] at h
   cases hf:fs[f]? with
   |none=>simp [hf] at h
   |some fd=>
    simp only [hf,Option.some.injEq,Prod.mk.injEq] at h
    exact⟨fs,fd,by rw [(hT.ok s te ht).1,hd],hf,h.1,h.2⟩
  |_=>simp [hd] at h
theorem JR(hT:bw T P) {t:TypeId}(h:xD T t=true):∃i,P.info? t=some i∧i.size≠0:=by
 unfold xD at h
 cases ht:T.find t with
 |none=>simp [ht] at h
 |some te=>
  simp only [ht] at h
  obtain⟨_,i,hi,hs,_⟩:=hT.ok t te ht
  have :=Nat.le_of_ble_eq_true h
  exact⟨i,hi,by omega⟩
theorem rM {s f:Nat} {fs:Array Field} {fd:Field} {i:TypeInfo}(hu:P.underlying s=some (.struct fs))(hf:fs[f]? =some fd)(hi:P.info? fd.type=some i)(hs:i.size≠0)(b o:Nat):
  (Instr.fieldAt s (.pointer (some ⟨b,o,none⟩)) f).run P w= .ok (.pointer (some ⟨b,o+fd.offset,none⟩)) w:=by
 simp [Instr.fieldAt,run_underlying hu,hf,Instr.sureAddr,fieldPlace,sizeOf,typeInfo,hi,hs,Addr.add_mid]
theorem zk(hT:bw T P) {s f:Nat} {x:AV} {vx:Value}(hx:aa w A β vx x) {out:Out}
  (h:qm T s f x=some out):Reads P A β w (Instr.fieldAt s vx f) out:=by
 unfold qm at h
 split at h
 · rename_i ft o hf
   obtain⟨fs,fd,hu,TW,e1,e2⟩:=Ax hT hf
   cases hs:xD T ft with
   |false=>simp [hs] at h
   |true=>
    simp only [hs,cond_true] at h
    obtain⟨i,hi,dH⟩:=JR hT hs
    rw [←e1] at hi
    split at h
    · simp only [Option.some.injEq] at h;subst h
      simp only [aa] at hx
      obtain⟨b,h1,rfl⟩:=hx
      refine⟨⟨rfl,rfl,rfl⟩,_,rM hu TW hi dH b _,?_⟩
      simp only [aa];exact⟨b,h1,by rw [e2]⟩
    · simp only [Option.some.injEq] at h;subst h
      simp only [aa] at hx
      obtain⟨b,oo,cs,rfl,h2,h3,h4⟩:=hx
      refine⟨⟨rfl,rfl,rfl⟩,_,rM hu TW hi dH b _,?_⟩
      simp only [aa];exact⟨b,oo,cs,by rw [e2,Nat.add_assoc],h2,h3,h4⟩
    · simp only [Option.some.injEq] at h;subst h
      simp only [aa] at hx
      obtain⟨b,m,cap,h1,rfl⟩:=hx
      refine⟨⟨rfl,rfl,rfl⟩,_,rM hu TW hi dH b _,?_⟩
      simp only [aa];exact⟨b,m,cap,h1,by rw [e2,Nat.add_assoc]⟩
    · cases h
 · cases h
theorem qT {t:TypeId} {te:TE}(hT:bw T P)(ht:T.find t=some te) {arr:Array Value} {cs:List AV} {off:Nat} {r:AV}(hrel:ae w A β arr.toList cs)(hp:pick te cs off=some r):
  ∃v,(part t arr off).run P w= .ok v w∧aa w A β v r:=by
 obtain⟨hu,i,hi,hs,_,_⟩:=hT.ok t te ht
 unfold pick at hp
 cases F8:te.desc.jD with
 |true=>
  simp only [F8,cond_true] at hp
  cases hle:Nat.ble (off+te.size) cs.length with
  |false=>simp [hle] at hp
  |true=>
   have hle:=Nat.le_of_ble_eq_true hle
   simp only [hle,Nat.ble_eq_true_of_le,cond_true,Option.some.injEq] at hp
   subst hp
   have hlen:=cX cs _ hrel
   have TV:(isAgg t).run P w= .ok true w:=by
    unfold isAgg
    rw [Sem.run_bind,run_underlying hu w]
    cases hd:te.desc<;>simp_all [TypeDesc.jD]
   refine⟨.agg (arr.extract off (off+te.size)),?_,?_⟩
   · simp [part,TV,sizeOf,typeInfo,hi,hs]
   · simp only [aa]
     refine⟨_,rfl,?_⟩
     have :=(fF _ _ te.size ((fF cs _ off hrel).2)).1
     rw [Array.toList_extract]
     simpa [List.extract] using this
 |false=>
  simp only [F8,cond_false] at hp
  obtain⟨v,hv,hrv⟩:=pK cs _ off r hrel hp
  have TV:(isAgg t).run P w= .ok false w:=by
   unfold isAgg
   rw [Sem.run_bind,run_underlying hu w]
   cases hd:te.desc<;>simp_all [TypeDesc.jD]
  refine⟨v,?_,hrv⟩
  have :arr[off]? =some v:=by simpa using hv
  simp [part,TV,this]
theorem Mk(hB:aD C A β st a w) {x:AV} {vx:Value}(hx:aa w A β vx x) {n:Int}(h:ze st.h x=some n):
  (∃ad l c,vx= .slice ad l c∧n=(l:Int)∧l≤maxLen)∨(∃s,x= .str s∧n=(s.length:Int)):=by
 unfold ze at h
 split at h
 · rename_i s
   simp only [Option.some.injEq] at h
   exact .inr ⟨s,rfl,h.symm⟩
 · simp only [Option.some.injEq] at h
   simp only [aa,Rd] at hx
   obtain⟨ad,cap,cs,h1,h2,h3,_⟩:=hx
   exact .inl ⟨ad,_,cap,h1,h.symm,by omega⟩
 · simp only [Option.some.injEq] at h
   simp only [aa,Rd] at hx
   obtain⟨⟨ad,cap,cs,h1,h2,h3,_⟩,_⟩:=hx
   exact .inl ⟨ad,_,cap,h1,h.symm,by omega⟩
 · simp only [Option.some.injEq] at h
   simp only [aa] at hx
   exact .inl ⟨none,0,0,hx,by simpa using h.symm,by simp⟩
 · rename_i k
   split at h
   · rename_i e row l fr hk
     simp only [Option.some.injEq] at h
     simp only [aa] at hx
     rcases ej hB hk with⟨hv,hl⟩|⟨b,cap,cur,hv,hg,h4,h5,_⟩
     · subst hl
       exact .inl ⟨none,0,0,hx.1.trans hv,by simpa using h.symm,by simp⟩
     · exact .inl ⟨_,_,_,hx.1.trans hv,h.symm,by omega⟩
   · cases h
 · rename_i k m
   split at h
   · rename_i e row l fr hk
     simp only [Option.some.injEq] at h
     simp only [aa] at hx
     rcases hx with⟨_,hv,hm⟩|⟨b,mm,cap,hv,wK,hle⟩
     · subst hm
       exact .inl ⟨none,0,0,hv,by simpa using h.symm,by simp⟩
     · rcases ej hB hk with⟨hw,_⟩|⟨b',gT,cur,hw,hg,h4,h5,_⟩
       · rw [hv] at hw;cases hw
       · rw [hv] at hw
         simp only [Value.slice.injEq] at hw
         exact .inl ⟨_,_,_,wK,h.symm,by omega⟩
   · cases h
 · rename_i k sz off m
   split at h
   · rename_i e row l fr hk
     simp only [Option.some.injEq] at h
     simp only [aa] at hx
     rcases hx with⟨hm,ad,cap,hv,_⟩|⟨b,mm,cap,gT,hv,wK,hle,aj4⟩
     · subst hm
       exact .inl ⟨ad,0,cap,hv,by simpa using h.symm,by simp⟩
     · rcases ej hB hk with⟨hw,_⟩|⟨b',ta,cur,hw,hg,h4,h5,_⟩
       · rw [hv] at hw;cases hw
       · rw [hv] at hw
         simp only [Value.slice.injEq] at hw
         exact .inl ⟨_,_,_,wK,h.symm,by omega⟩
   · cases h
 · cases h
theorem tc {k:IntKind} {n:Int}(h:lo k≤n∧n≤hi k):k.wrap n=n:=by
 cases k<;>simp [lo,hi] at h<;>simp [IntKind.wrap,IntKind.signed,IntKind.bits]<;>omega
theorem Ml {k:IntKind} {n c:Int}(h:lT k=some c):k.wrap n=n%c:=by
 cases k<;>simp [lT] at h<;>subst h<;>simp [IntKind.wrap,IntKind.signed,IntKind.bits]
theorem JS {k:IntKind} {n c:Int}(h:lT k=some c):lo k≤n%c∧n%c≤hi k:=by
 cases k<;>simp [lT] at h<;>subst h<;>simp [lo,hi]<;>omega
theorem l4 {k:IntKind} {cs:List Prop} {n:Int} {out:Out}(h:pH k cs n=some out)(hc:∀p∈out.cond,p):
  out.quiet∧aa w A β (.int k (k.wrap n)) out.res∧∀p∈cs,p:=by
 unfold pH at h
 simp only [Option.some.injEq] at h
 subst h
 unfold fit at hc ⊢
 cases hk:lT k with
 |none=>
  simp only [hk] at hc ⊢
  have hr:=hc (lo k≤n∧n≤hi k) (by simp)
  refine⟨⟨rfl,rfl,rfl⟩,?_,fun p hp=>hc p (by simp [hp])⟩
  rw [tc hr];simp only [aa];exact⟨trivial,hr⟩
 |some c=>
  simp only [hk] at hc ⊢
  refine⟨⟨rfl,rfl,rfl⟩,?_,fun p hp=>hc p (by simp [hp])⟩
  rw [Ml hk];simp only [aa];exact⟨trivial,JS hk⟩
theorem zl {op:BinOp} {t:TypeId} {x y:Operand} {k k':IntKind} {n m:Int}:(eqGuard op t x y (.int k n) (.int k' m)).run P w= .ok () w:=by
 unfold eqGuard;cases op<;>rfl
theorem zm {op:BinOp} {t:TypeId} {x y:Operand} {s u:ByteArray}:(eqGuard op t x y (.string s) (.string u)).run P w= .ok () w:=by
 unfold eqGuard;cases op<;>rfl
theorem wL {op:BinOp} {t:TypeId} {x y:Operand} {p q:Option Addr} {n m n' m':Nat}:(eqGuard op t x y (.slice p n m) (.slice q n' m')).run P w= .ok () w:=by
 unfold eqGuard;cases op<;>rfl
theorem zn(w:World)(d:Nat)(t e:TypeId)(a:Option Addr)(n c n' c':Nat)(h:P.underlying t=some (.slice e)):
  (Op.equalIn (d+1) t (.slice a n c) (.slice none n' c')).run P w= .ok a.isNone w:=by
 cases a<;>simp [Op.equalIn,run_underlying h]
theorem Ia(w:World)(t e:TypeId)(a:Option Addr)(n c n' c':Nat)(h:P.underlying t=some (.slice e)):
  (binOp .eql t (.slice a n c) (.slice none n' c')).run P w= .ok (.bool a.isNone) w:=by
 simp only [binOp]
 simp [Op.equal,Op.maxDepth,zn w 9999 t e a n c n' c' h]
theorem xQ {op:BinOp} {t:TypeId} {x y:Operand} {s u:Bool}:(eqGuard op t x y (.bool s) (.bool u)).run P w= .ok () w:=by
 unfold eqGuard;cases op<;>rfl
theorem mY {k:IntKind} {n:Int}(hr:lo k≤n)(h:∀p∈vU k n,p):0≤n:=by
 unfold vU at h
 cases hc:lT k with
 |none=>simp only [hc] at h;exact h _ (by simp)
 |some c=>cases k<;>simp [lT] at hc<;>simpa [lo] using hr
def j9:IntKind→Nat
 | .i8=>7| .i16=>15| .i32=>31| .i64=>63| .u8=>8| .u16=>16| .u32=>32| .u64=>64
theorem toNat_lt {k:IntKind} {n:Int}(h0:0≤n)(h:n≤hi k):n.toNat<2^j9 k:=by
 cases k<;>simp [hi] at h<;>simp [j9]<;>omega
theorem R9 {k:IntKind} {n:Nat}(h:n<2^j9 k):lo k≤(n:Int)∧(n:Int)≤hi k:=by
 cases k<;>simp [j9] at h<;>simp [lo,hi]<;>omega
theorem nP {k:IntKind} {n:Int}(h0:0≤n)(h:n≤hi k):(BitVec.ofInt k.bits n).toNat=n.toNat:=by
 rw [BitVec.toNat_ofInt]
 congr 1
 cases k<;>simp [hi] at h<;>simp [IntKind.bits]<;>omega
theorem Cr {k:IntKind} {n m:Int}(f:Nat→Nat→Nat)(g:BitVec k.bits→BitVec k.bits→BitVec k.bits)(hfg:∀x y,(g x y).toNat=f x.toNat y.toNat)
  (hf:∀a b,a<2^j9 k→b<2^j9 k→f a b<2^j9 k) (hn:lo k≤n∧n≤hi k) (hm:lo k≤m∧m≤hi k) (h0:0≤n) (h1:0≤m):
  k.wrap ((g (BitVec.ofInt k.bits n) (BitVec.ofInt k.bits m)).toNat:Int)=(f n.toNat m.toNat:Int)∧lo k≤(f n.toNat m.toNat:Int)∧(f n.toNat m.toNat:Int)≤hi k:=by
 rw [hfg,nP h0 hn.2,nP h1 hm.2]
 have :=R9 (hf _ _ (toNat_lt h0 hn.2) (toNat_lt h1 hm.2))
 exact⟨tc this,this⟩
theorem vZ(s:List UInt8):(⟨s.toArray⟩:ByteArray).toList=s:=by
 rw [ByteArray.toList_eq]
theorem qU(s:List UInt8):(⟨s.toArray⟩:ByteArray).size=s.length:=by simp [ByteArray.size]
theorem Mm(s u:List UInt8):(⟨s.toArray⟩:ByteArray)++⟨u.toArray⟩=⟨(s++u).toArray⟩:=by
 apply ByteArray.ext
 simp [ByteArray.data_append]
theorem Cs {x:AV} {v:Value} {p:Bool}(hx:aa w A β v x)(h:pI x=some p):v= .bool p:=by cases x<;>simp_all [pI,aa]
theorem Gc {d:Nat} {E:TypeId→AV→AV→Option Bool}(hT:bw T P)(hE:∀t x y v u r,aa w A β v x→aa w A β u y→E t x y=some r→(Op.equalIn d t v u).run P w= .ok r w)
  {arr Sa:Array Value} {xs ys:List AV} (hx:ae w A β arr.toList xs) (hy:ae w A β Sa.toList ys):∀(fs:List Field) (r:Bool),(fs.all fun f=>f.name != "_")=true→Ck T E xs ys fs=some r→(Op.eqFields d arr Sa fs).run P w= .ok r w
 | [],r,_,h=>by simp only [Ck,Option.some.injEq] at h;subst h;simp [Op.eqFields]
 |f::fs,r,hn,h=>by
  simp only [List.all_cons,Bool.and_eq_true] at hn
  have Sb:f.name≠ "_":=by simpa using hn.1
  simp only [Ck] at h
  cases hf:T.find f.type with
  |none=>simp [hf] at h
  |some te=>
   simp only [hf] at h
   cases ha:pick te xs f.offset with
   |none=>simp [ha] at h
   |some a=>cases hb:pick te ys f.offset with
    |none=>simp [ha,hb] at h
    |some b=>
     simp only [ha,hb] at h
     cases he:E f.type a b with
     |none=>simp [he] at h
     |some q=>cases hr:Ck T E xs ys fs with
      |none=>simp [he,hr] at h
      |some q'=>
       simp only [he,hr,Option.some.injEq] at h
       subst h
       obtain⟨va,a1,a2⟩:=qT hT hf hx ha
       obtain⟨vb,b1,b2⟩:=qT hT hf hy hb
       have e1:=hE _ _ _ _ _ _ a2 b2 he
       have e2:=Gc hT hE hx hy fs q' hn.2 hr
       simp only [Op.eqFields,Sb,ne_eq,not_false_eq_true,if_true,Sem.run_bind,a1,b1,e1,Result.andThen_ok]
       cases fs with
       |nil=>
        simp only [Ck,Option.some.injEq] at hr
        subst hr
        cases q<;>simp [Op.eqFields]
       |cons g gs=>cases q<;>simp [e2]
theorem Gd(hT:bw T P):∀(n d:Nat) (t:TypeId) (x y:AV) (v u:Value) (r:Bool),n≤d→aa w A β v x→aa w A β u y→Ar T n t x y=some r→(Op.equalIn d t v u).run P w= .ok r w
 |0,_,_,_,_,_,_,_,_,_,_,h=>by simp [Ar] at h
 |n+1,0,_,_,_,_,_,_,hd,_,_,_=>by omega
 |n+1,d+1,t,x,y,v,u,r,hd,hx,hy,h=>by
  simp only [Ar] at h
  cases hf:T.find t with
  |none=>simp [hf] at h
  |some te=>
   simp only [hf] at h
   obtain⟨hu,_⟩:=hT.ok t te hf
   split at h
   · rename_i fs qs
     split at h
     · rename_i xs ys
       simp only [aa] at hx hy
       obtain⟨arr,rfl,hx⟩:=hx
       obtain⟨Sa,rfl,hy⟩:=hy
       have hh:=hT.held t te hf
       rw [qs] at hh hu
       have TX:P.fieldsOf t=fs:=by simp [Program.fieldsOf,hu]
       rw [run_equalIn_struct w d t arr Sa (by rw [TX];exact hu) hh.1,TX]
       exact Gc hT (fun t x y v u r g1 g2 g3=>Gd hT n d t x y v u r (by omega) g1 g2 g3) hx hy _ _ hh.2.2 h
     · cases h
   · rename_i k0 qs
     rw [qs] at hu
     split at h
     · rename_i k a k' b
       split at h
       · rename_i hk
         subst hk
         simp only [Option.some.injEq] at h;subst h
         simp only [aa] at hx hy
         rw [hx.1,hy.1,run_equalIn_int w d t _ _ _ _ hu]
         by_cases fk:a=b<;>simp [fk]
       · cases h
     · cases h
   · rename_i qs
     rw [qs] at hu
     split at h
     · rename_i a b
       simp only [Option.some.injEq] at h;subst h
       simp only [aa] at hx hy
       rw [hx.1,hy.1,run_equalIn_string w d t _ _ hu]
       simp only [vZ]
       by_cases fk:a=b<;>simp [fk]
     · cases h
   · rename_i qs
     rw [qs] at hu
     split at h
     · rename_i p q hp hq
       simp only [Option.some.injEq] at h;subst h
       rw [Cs hx hp,Cs hy hq,run_equalIn_bool' w d t _ _ hu]
     · cases h
   · cases h
theorem JT(hT:bw T P) {n:Nat} {t:TypeId} {xs ys:List AV} {r:Bool}(h:Ar T n t (.agg xs) (.agg ys)=some r):P.eqGuardType P.depth t=false :=by
 cases n with
 |zero=>simp [Ar] at h
 |succ n=>
  simp only [Ar] at h
  cases hf:T.find t with
  |none=>simp [hf] at h
  |some te=>
   simp only [hf] at h
   have hh:=hT.held t te hf
   split at h
   · rename_i fs qs
     rw [qs] at hh
     exact hh.2.1
   · cases h
   · cases h
   · simp [pI] at h
   · cases h
set_option maxHeartbeats 1000000 in
theorem Mn(hT:bw T P) {op:BinOp} {t:TypeId} {ox oy:Operand} {x y:AV} {vx vy:Value}(hx:aa w A β vx x)(hy:aa w A β vy y) {out:Out}
  (h:H7 T t op x y=some out) (hc:∀p∈out.cond,p):Reads P A β w (do eqGuard op t ox oy vx vy;binOp op t vx vy) out:=by
 unfold H7 at h
 split at h
 · rename_i k n k' m
   simp only [aa] at hx hy
   obtain⟨rfl,hn⟩:=hx
   obtain⟨rfl,hm⟩:=hy
   unfold Reads
   simp only [Sem.run_bind,zl,Result.andThen_ok]
   split at h
   · obtain⟨hq,hr,c7⟩:=l4 (w:=w) (A:=A) (β:=β) h hc
     obtain⟨h0,h1⟩:=dI c7
     refine⟨hq,_,?_,hr⟩
     have TY:¬m<0:=by omega
     have OQ:min m.toNat k.bits=m.toNat:=by
      cases k<;>simp [bitsOf] at h1<;>simp [IntKind.bits]<;>omega
     simp [binOp,Op.shift,TY,OQ]
   · simp only [Option.some.injEq] at h;subst h
     obtain⟨h0,h1⟩:=dI hc
     have TY:¬m<0:=by omega
     have OQ:min m.toNat k.bits=m.toNat:=by
      cases k<;>simp [bitsOf] at h1<;>simp [IntKind.bits]<;>omega
     refine⟨⟨rfl,rfl,rfl⟩, .int k (n/2^m.toNat),?_,?_⟩
     · simp only [binOp,Op.shift,TY,OQ,if_false,Sem.run_pure]
       rw [Int.fdiv_eq_ediv_of_nonneg _ (Int.le_of_lt (Int.pow_pos (by omega)))]
     · simp only [aa]
       have hp:(1:Int)≤2^m.toNat:=Int.pow_pos (by omega)
       refine⟨trivial,?_,?_⟩
       · have h2:lo k≤0:=by cases k<;>simp [lo]
         rcases Int.le_total 0 n with hh|hh
         · exact Int.le_trans h2 (Int.ediv_nonneg hh (by omega))
         · have :n≤n/2^m.toNat:=by
            rw [Int.le_ediv_iff_mul_le (by omega)]
            have :=Int.mul_le_mul_of_nonpos_left hh hp
            omega
           omega
       · have h2:0≤hi k:=by cases k<;>simp [hi]
         rcases Int.le_total 0 n with hh|hh
         · have :n/2^m.toNat≤n:=Int.ediv_le_self _ hh
           omega
         · have :n/2^m.toNat≤0:=Int.ediv_nonpos_of_nonpos_of_neg hh (by omega)
           omega
   · rename_i Mo Ib
     by_cases Sc:k=k'
     · subst Sc
       simp only [if_true] at h
       have hb:binOp op t (.int k n) (.int k m)=match op with
         | .add| .sub| .mul=>Op.intArith op k n m
         | .quo| .rem=>Op.intDiv op k n m
         | .and| .or| .xor| .andNot=>Op.intBits op k n m
         |_=>Op.intCmp op n m:=by
        cases op<;>first|exact absurd rfl Mo|exact absurd rfl Ib|simp [binOp]
       rw [hb]
       split at h
       · obtain⟨hq,hr,_⟩:=l4 (w:=w) (A:=A) (β:=β) h hc
         exact⟨hq,_,by simp [Op.intArith],hr⟩
       · obtain⟨hq,hr,_⟩:=l4 (w:=w) (A:=A) (β:=β) h hc
         exact⟨hq,_,by simp [Op.intArith],hr⟩
       · obtain⟨hq,hr,_⟩:=l4 (w:=w) (A:=A) (β:=β) h hc
         exact⟨hq,_,by simp [Op.intArith],hr⟩
       · simp only [Option.some.injEq] at h;subst h
         have h0:0≤n:=mY hn.1 (fun p hp=>hc p (by simp [hp]))
         have h1:0<m:=hc _ (by simp)
         have dH:¬m=0:=by omega
         have h2:0≤n/m:=Int.ediv_nonneg h0 (by omega)
         have h3:n/m≤n:=Int.ediv_le_self _ h0
         have Ic:lo k≤0:=by cases k<;>simp [lo]
         have hr:lo k≤n/m∧n/m≤hi k:=⟨by omega,by omega⟩
         refine⟨⟨rfl,rfl,rfl⟩, .int k (n/m),?_,by simp only [aa];exact⟨trivial,hr⟩⟩
         simp only [Op.intDiv,dH,if_false,Int.tdiv_eq_ediv_of_nonneg h0,tc hr,Sem.run_pure]
       · simp only [Option.some.injEq] at h;subst h
         have h0:0≤n:=mY hn.1 (fun p hp=>hc p (by simp [hp]))
         have h1:0<m:=hc _ (by simp)
         have dH:¬m=0:=by omega
         have h2:0≤n%m:=Int.emod_nonneg _ dH
         have h3:n%m≤n:=by
          have e1:=Int.emod_def n m
          have e2:0≤m*(n/m):=Int.mul_nonneg (by omega) (Int.ediv_nonneg h0 (by omega))
          omega
         have Ic:lo k≤0:=by cases k<;>simp [lo]
         have hr:lo k≤n%m∧n%m≤hi k:=⟨by omega,by omega⟩
         refine⟨⟨rfl,rfl,rfl⟩, .int k (n%m),?_,by simp only [aa];exact⟨trivial,hr⟩⟩
         simp only [Op.intDiv,dH,if_false,Int.tmod_eq_emod_of_nonneg h0,Sem.run_pure]
       · simp only [Option.some.injEq] at h;subst h
         have h0:0≤n:=mY hn.1 (fun p hp=>hc p (by simp [hp]))
         have h1:0≤m:=mY hm.1 (fun p hp=>hc p (by simp [hp]))
         obtain⟨e1,e2⟩:=Cr (k:=k) (· &&& ·) (· &&& ·) (fun x y=>BitVec.toNat_and x y) (fun a b ha hb=>Nat.lt_of_le_of_lt Nat.and_le_left ha) hn hm h0 h1
         exact⟨⟨rfl,rfl,rfl⟩,_,by simp only [Op.intBits,Sem.run_pure,e1];rfl,by simp only [aa];exact⟨rfl,e2⟩⟩
       · simp only [Option.some.injEq] at h;subst h
         have h0:0≤n:=mY hn.1 (fun p hp=>hc p (by simp [hp]))
         have h1:0≤m:=mY hm.1 (fun p hp=>hc p (by simp [hp]))
         obtain⟨e1,e2⟩:=Cr (k:=k) (· ||| ·) (· ||| ·) (fun x y=>BitVec.toNat_or x y) (fun a b ha hb=>Nat.or_lt_two_pow ha hb) hn hm h0 h1
         exact⟨⟨rfl,rfl,rfl⟩,_,by simp only [Op.intBits,Sem.run_pure,e1];rfl,by simp only [aa];exact⟨rfl,e2⟩⟩
       · simp only [Option.some.injEq] at h;subst h
         have h0:0≤n:=mY hn.1 (fun p hp=>hc p (by simp [hp]))
         have h1:0≤m:=mY hm.1 (fun p hp=>hc p (by simp [hp]))
         obtain⟨e1,e2⟩:=Cr (k:=k) (· ^^^ ·) (· ^^^ ·) (fun x y=>BitVec.toNat_xor x y) (fun a b ha hb=>Nat.xor_lt_two_pow ha hb) hn hm h0 h1
         exact⟨⟨rfl,rfl,rfl⟩,_,by simp only [Op.intBits,Sem.run_pure,e1];rfl,by simp only [aa];exact⟨rfl,e2⟩⟩
       · simp only [Option.some.injEq] at h;subst h
         exact⟨⟨rfl,rfl,rfl⟩, .bool (decide (n=m)),by simp only [Op.intCmp,Sem.run_pure]<;>rfl,by simp only [aa]⟩
       · simp only [Option.some.injEq] at h;subst h
         exact⟨⟨rfl,rfl,rfl⟩, .bool (!decide (n=m)),by simp only [Op.intCmp,Sem.run_pure]<;>rfl,by simp only [aa]⟩
       · simp only [Option.some.injEq] at h;subst h
         exact⟨⟨rfl,rfl,rfl⟩, .bool (decide (n<m)),by simp only [Op.intCmp,Sem.run_pure]<;>rfl,by simp only [aa]⟩
       · simp only [Option.some.injEq] at h;subst h
         exact⟨⟨rfl,rfl,rfl⟩, .bool (decide (n≤m)),by simp only [Op.intCmp,Sem.run_pure]<;>rfl,by simp only [aa]⟩
       · simp only [Option.some.injEq] at h;subst h
         exact⟨⟨rfl,rfl,rfl⟩, .bool (decide (m<n)),by simp only [Op.intCmp,Sem.run_pure]<;>rfl,by simp only [aa]⟩
       · simp only [Option.some.injEq] at h;subst h
         exact⟨⟨rfl,rfl,rfl⟩, .bool (decide (m≤n)),by simp only [Op.intCmp,Sem.run_pure]<;>rfl,by simp only [aa]⟩
       · cases h
     · simp [Sc] at h
 · rename_i s u
   simp only [aa] at hx hy
   obtain⟨rfl,hn⟩:=hx
   obtain⟨rfl,hm⟩:=hy
   unfold Reads
   simp only [Sem.run_bind,zm,Result.andThen_ok]
   have hb:binOp op t (.string ⟨s.toArray⟩) (.string ⟨u.toArray⟩)=Op.stringOp op ⟨s.toArray⟩ ⟨u.toArray⟩:=by cases op<;>rfl
   have aj5:(s==u)=decide (s=u):=by
    by_cases hsu:s=u
    · simp [hsu]
    · simp [hsu]
   rw [hb]
   split at h
   · simp only [Option.some.injEq] at h;subst h
     have h0:=dI hc
     refine⟨⟨rfl,rfl,rfl⟩, .string ⟨(s++u).toArray⟩,?_,?_⟩
     · have wM:¬((s.length:Int)+(u.length:Int)>IntKind.i64.max):=by
        simp [IntKind.max,IntKind.signed,IntKind.bits];omega
       simp [Op.stringOp,qU,Mm]
       omega
     · simp only [aa];refine⟨trivial,?_⟩;rw [List.length_append];unfold maxLen;omega
   all_goals first|(simp only [Option.some.injEq] at h;subst h;exact⟨⟨rfl,rfl,rfl⟩,_,by simp only [Op.stringOp,Sem.run_pure,vZ,aj5];rfl,by simp only [aa]⟩)|cases h
 · rename_i r rs l
   cases hd:dn T t gh with
   |false=>simp [hd] at h
   |true=>
    simp only [hd,cond_true] at h
    obtain⟨e,hu⟩:∃e,P.underlying t=some (.slice e):=by
     unfold dn at hd
     cases ht:T.find t with
     |none=>simp [ht] at hd
     |some te=>
      simp only [ht] at hd
      rw [(hT.ok t te ht).1]
      cases qt:te.desc<;>simp_all [gh]
    simp only [aa,Rd] at hx hy
    obtain⟨ad,cap,cs,rfl,h1,h2,h3,h4⟩:=hx
    subst hy
    split at h
    · simp only [Option.some.injEq] at h;subst h
      unfold Reads
      simp only [Sem.run_bind,wL,Result.andThen_ok]
      refine⟨⟨rfl,rfl,rfl⟩, .bool ad.isNone,Ia w t e ad _ _ _ _ hu,?_⟩
      simp only [aa]
      refine⟨_,rfl,fun hn=> ?_⟩
      cases l with
      |nil=>rfl
      |cons x l=>
       exfalso
       simp only [bZ,bh] at h3
       obtain⟨c1,c2,c7,⟨v,vs,Mp,_⟩,_⟩:=h3
       obtain⟨b,o,hb,_⟩:=h4 (by rw [c7,Mp];simp)
       rw [hb] at hn;cases hn
    · cases h
 · rename_i xs ys
   split at h
   · rename_i r hr
     have hg:=JT hT hr
     have hq:=Gd (w:=w) (A:=A) (β:=β) hT 8 10000 t _ _ _ _ r (by omega) hx hy hr
     simp only [aa] at hx hy
     obtain⟨arr,rfl,hx⟩:=hx
     obtain⟨Sa,rfl,hy⟩:=hy
     unfold Reads
     simp only [Sem.run_bind,run_eqGuard_agg w op t ox oy arr Sa hg,Result.andThen_ok]
     split at h
     · simp only [Option.some.injEq] at h;subst h
       exact⟨⟨rfl,rfl,rfl⟩,_,by rw [run_eql_struct,hq];rfl,by simp only [aa]⟩
     · simp only [Option.some.injEq] at h;subst h
       exact⟨⟨rfl,rfl,rfl⟩,_,by rw [run_neq_struct,hq];rfl,by simp only [aa]⟩
     · cases h
   · cases h
 · rename_i Bu hy1 ý
   split at h
   · rename_i p q hp hq
     have ex:vx= .bool p:=by cases x<;>simp_all [pI,aa]
     have ey:vy= .bool q:=by cases y<;>simp_all [pI,aa]
     subst ex;subst ey
     unfold Reads
     simp only [Sem.run_bind,xQ,Result.andThen_ok]
     cases hd:dn T t Cj with
     |false=>simp [hd] at h
     |true=>
      simp only [hd,cond_true] at h
      have hu:P.underlying t=some .bool:=by
       unfold dn at hd
       cases ht:T.find t with
       |none=>simp [ht] at hd
       |some te=>
        simp only [ht] at hd
        rw [(hT.ok t te ht).1]
        cases qt:te.desc<;>simp_all [Cj]
      split at h
      · simp only [Option.some.injEq] at h;subst h
        exact⟨⟨rfl,rfl,rfl⟩, .bool (p==q),run_eql_bool w t p q hu,by simp only [aa]⟩
      · simp only [Option.some.injEq] at h;subst h
        exact⟨⟨rfl,rfl,rfl⟩, .bool (!(p==q)),run_neq_bool w t p q hu,by simp only [aa]⟩
      · cases h
   · cases h
theorem Ct(sz j:Nat):∀(k:Nat) (cs:List AV) (i:Nat),i<k→(every sz j k cs)[i]? =some (cs.getD (i*sz+j) .cW)
 |k+1,cs,0,_=>by simp [every]
 |k+1,cs,i+1,h=>by
  simp only [every,List.getElem?_cons_succ]
  rw [Ct sz j k (cs.drop sz) i (by omega)]
  simp only [List.getD,List.getElem?_drop]
  rw [show sz+(i*sz+j)=(i+1)*sz+j by rw [Nat.add_mul];omega]
theorem xR:∀(l:List AV) (kd:IntKind) (ns:List Int),xJ l=some (kd,ns)→∀(i:Nat) (a:AV),l[i]? =some a→a= .int kd (ns.getD i 0)
 | [],kd,ns,h,i,a,hi=>by simp at hi
 |x::r,kd,ns,h,i,a,hi=>by
  unfold xJ at h
  split at h
  · rename_i k n
    split at h
    · simp only [Option.some.injEq,Prod.mk.injEq] at h
      obtain⟨rfl,rfl⟩:=h
      cases i with
      |zero=>simp at hi;subst hi;simp
      |succ i=>simp at hi
    · rename_i y r'
      split at h
      · rename_i k' l hl
        split at h
        · rename_i hk
          subst hk
          simp only [Option.some.injEq,Prod.mk.injEq] at h
          obtain⟨rfl,rfl⟩:=h
          cases i with
          |zero=>simp at hi;subst hi;simp
          |succ i=>
           rw [List.getElem?_cons_succ] at hi
           have :=xR _ _ _ hl i a hi
           rw [this];simp [List.getD]
        · cases h
      · cases h
  · cases h
theorem tf {sz k:Nat} {cs:List AV} {n:Int}(hn:n.toNat<k):∀(m:Nat) (vs:List AV),xK sz k cs n m=some vs→vs.length=m∧∀j,j<m→vs[j]? =some (cs.getD (n.toNat*sz+j) .cW)
 |0,vs,h=>by simp only [xK,Option.some.injEq] at h;subst h;exact⟨rfl,fun j hj=>by omega⟩
 |m+1,vs,h=>by
  simp only [xK] at h
  split at h
  · rename_i us kd l h1 h2
    simp only [Option.some.injEq] at h
    subst h
    obtain⟨g1,g2⟩:=tf hn m us h1
    refine⟨by simp [g1],fun j hj=> ?_⟩
    by_cases hjm:j<m
    · rw [List.getElem?_append_left (by omega)];exact g2 j hjm
    · have :j=m:=by omega
      subst this
      rw [List.getElem?_append_right (by omega),g1,Nat.sub_self,List.getElem?_cons_zero]
      have :=xR _ _ _ h2 n.toNat _ (Ct sz j k cs n.toNat hn)
      rw [this]
  · cases h
theorem JU {t:TypeId}(hT:bw T P) {k:Nat} {ee:TE}(h:Cm T t=some (k,ee)):∃e i,P.underlying t=some (.array k e)∧T.find e=some ee∧P.info? e=some i∧i.size=ee.size:=by
 unfold Cm at h
 split at h
 · rename_i te jZ
   obtain⟨hu,_⟩:=hT.ok t te jZ
   split at h
   · rename_i k' e hd
     split at h
     · rename_i ee' oC
       obtain⟨_,i,hi,hs,_⟩:=hT.ok e ee' oC
       simp only [Option.some.injEq,Prod.mk.injEq] at h
       obtain⟨rfl,rfl⟩:=h
       exact⟨e,i,by rw [hu,hd],oC,hi,hs⟩
     · cases h
   · cases h
 · cases h
theorem Bv(hT:bw T P) {t:TypeId} {cs:List AV} {n:Int} {kd:IntKind} {arr:Array Value} {vi:Value}(hx:ae w A β arr.toList cs)(hi:vi= .int kd n) {out:Out}
  (h:rG T t cs n=some out) (hc:∀p∈out.cond,p):Reads P A β w (Instr.index t (.agg arr) vi) out:=by
 unfold rG at h
 split at h
 · rename_i k ee ha
   cases hb:Nat.beq cs.length (k*ee.size) with
   |false=>rw [hb] at h;cases h
   |true=>
    rw [hb] at h
    simp only [cond_true] at h
    have hlen:=Nat.eq_of_beq_eq_true hb
    obtain⟨e,i,hu,oC,hie,hs⟩:=JU hT ha
    have fQ:∀(h0:0≤n) (h1:n<(k:Int)),(Instr.index t (.agg arr) vi).run P w=(part e arr (n.toNat*ee.size)).run P w:=by
     intro h0 h1
     subst hi
     simp [Instr.index,asIntOf,run_underlying hu,h0,h1,sizeOf,typeInfo,hie,hs]
    split at h
    · rename_i vs hv
      cases FC:ee.desc.jD with
      |true=>
       rw [FC] at h
       simp only [cond_true,Option.some.injEq] at h
       subst h
       obtain⟨h0,h1⟩:=dI hc
       obtain⟨g1,g2⟩:=tf (by omega) _ _ hv
       have hle:n.toNat*ee.size+ee.size≤cs.length:=by
        rw [hlen,←Nat.succ_mul];exact Nat.mul_le_mul_right _ (by omega)
       have hp:pick ee cs (n.toNat*ee.size)=some (.agg vs):=by
        unfold pick
        rw [FC,cond_true,show Nat.ble (n.toNat*ee.size+ee.size) cs.length=true from Nat.ble_eq_true_of_le hle,cond_true]
        congr 2
        refine List.ext_getElem? fun j=> ?_
        by_cases hj:j<ee.size
        · rw [List.getElem?_take,if_pos hj,List.getElem?_drop,g2 j hj]
          rw [List.getElem?_eq_getElem (by omega)]
          simp [List.getD,List.getElem?_eq_getElem (show n.toNat*ee.size+j<cs.length by omega)]
        · rw [List.getElem?_take,if_neg hj,List.getElem?_eq_none (by omega)]
       obtain⟨v,k1,k2⟩:=qT hT oC hx hp
       exact⟨⟨rfl,rfl,rfl⟩,v,by rw [fQ h0 h1];exact k1,k2⟩
      |false=>
       rw [FC] at h
       simp only [cond_false] at h
       split at h
       · rename_i a
         simp only [Option.some.injEq] at h
         subst h
         obtain⟨h0,h1⟩:=dI hc
         obtain⟨g1,g2⟩:=tf (by omega) _ _ hv
         have cR:ee.size=1:=by simpa using g1.symm
         have hle:n.toNat*ee.size+ee.size≤cs.length:=by
          rw [hlen,←Nat.succ_mul];exact Nat.mul_le_mul_right _ (by omega)
         have hp:pick ee cs (n.toNat*ee.size)=some a:=by
          unfold pick
          rw [FC,cond_false]
          have :=g2 0 (by omega)
          simp only [List.getElem?_cons_zero,Option.some.injEq,Nat.add_zero] at this
          rw [this,List.getElem?_eq_getElem (by omega)]
          simp [List.getD,List.getElem?_eq_getElem (show n.toNat*ee.size<cs.length by omega)]
         obtain⟨v,k1,k2⟩:=qT hT oC hx hp
         exact⟨⟨rfl,rfl,rfl⟩,v,by rw [fQ h0 h1];exact k1,k2⟩
       · cases h
    · cases h
 · cases h
end
end Go.Vg

end
section
namespace Go.Vg
open Go
section
variable {P:Program} {C:Ctx} {A:Nat→Prop} {β:Nat→Value} {st:St} {a:Act} {w:World} {T:bW}
theorem qV(n:Int):∀ks,Cn n ks=true↔n∈ks
 | []=>by simp [Cn]
 |k::r=>by simp [Cn,qV n r]
theorem tg(n:Int):∀ks,rH n ks↔n∉ks
 | []=>by simp [rH]
 |k::r=>by simp [rH,tg n r]
theorem qu(n:Int):∀(es:List MapEntry) (ks:List Int) (i:Nat),es.map (·.key)=ks.map (Value.int .i64)→n∉ks→Instr.findNow (.int .i64) (.int .i64 n) es i=some none
 | [],_,_,_,_=>rfl
 |e::es,[],_,h,_=>by simp at h
 |e::es,k::ks,i,h,hn=>by
  simp only [List.map_cons,List.cons.injEq] at h
  have hk:n≠k:=fun q=>hn (by rw [q];exact List.mem_cons_self ..)
  have hs:Instr.sameNow (.int .i64) (.int .i64 n) e.key=some false :=by
   rw [h.1];simp [Instr.sameNow,hk]
  simp only [Instr.findNow,hs]
  exact qu n es ks (i+1) h.2 (fun q=>hn (List.mem_cons_of_mem _ q))
theorem Ay(n:Int):∀(es:List MapEntry) (ks:List Int) (i j:Nat),es.map (·.key)=ks.map (Value.int .i64)→iz ks=true→ks[j]? =some n→
  ∃e,es[j]? =some e∧Instr.findNow (.int .i64) (.int .i64 n) es i=some (some (i+j,e.val))
 | [],[],_,j,_,_,hj=>by simp at hj
 | [],_::_,_,_,h,_,_=>by simp at h
 |e::es,[],_,_,h,_,_=>by simp at h
 |e::es,k::ks,i,j,h,hd,hj=>by
  simp only [List.map_cons,List.cons.injEq] at h
  simp only [iz,Bool.and_eq_true,Bool.not_eq_true'] at hd
  cases j with
  |zero=>
   simp only [List.getElem?_cons_zero,Option.some.injEq] at hj
   subst hj
   have hs:Instr.sameNow (.int .i64) (.int .i64 k) e.key=some true :=by
    rw [h.1];simp [Instr.sameNow]
   exact⟨e,rfl,by simp [Instr.findNow,hs]⟩
  |succ j=>
   simp only [List.getElem?_cons_succ] at hj
   have hk:n≠k:=by
    rintro rfl
    have :n∈ks:=List.mem_of_getElem? hj
    rw [(qV n ks).2 this] at hd;cases hd.1
   have hs:Instr.sameNow (.int .i64) (.int .i64 n) e.key=some false :=by
    rw [h.1];simp [Instr.sameNow,hk]
   obtain⟨e',h1,h2⟩:=Ay n es ks (i+1) j h.2 hd.2 hj
   refine⟨e',by simpa using h1,?_⟩
   simp only [Instr.findNow,hs]
   rw [h2];congr 3;omega
theorem Cu:∀(aF:List AV) (vs:List Value) (i:Nat) (x:AV) (v:Value),ae w A β vs aF→aF[i]? =some x→vs[i]? =some v→aa w A β v x
 | [],_,i,x,v,_,h,_=>by simp at h
 |a::aF,vs,i,x,v,h,hx,hv=>by
  simp only [ae] at h
  obtain⟨u,bI,rfl,h1,h2⟩:=h
  cases i with
  |zero=>
   simp only [List.getElem?_cons_zero,Option.some.injEq] at hx hv
   rw [←hx,←hv];exact h1
  |succ i=>exact Cu aF bI i x v h2 (by simpa using hx) (by simpa using hv)
theorem FD(hT:bw T P) {t:TypeId} {ok:Bool} {ks:List Int} {cs:List AV} {n:Int} {Fz:Nat} {vm:Value} {out:Out}(hm:aa w A β vm (.fP ks cs))
  (h:wF T Fz t ok ks cs n=some out) (hc:∀p∈out.cond,p):Reads P A β w (Instr.lookup t vm (.int .i64 n) ok) out:=by
 simp only [aa] at hm
 obtain⟨b,es,ck,rfl,hA,hb,hk,hv⟩:=hm
 unfold wF at h
 split at h
 · rename_i te jZ
   obtain⟨hu,_⟩:=hT.ok t te jZ
   split at h
   · rename_i kt et hd
     rw [hd] at hu
     cases hq:(dn T kt wE&&iz ks) with
     |false=>rw [hq] at h;cases h
     |true=>
     rw [hq] at h
     simp only [cond_true] at h
     simp only [Bool.and_eq_true] at hq
     have Ie:P.underlying kt=some (.int .i64):=by
      have h1:=hq.1
      unfold dn at h1
      split at h1
      · rename_i tk Bw
        obtain⟨hku,_⟩:=hT.ok kt tk Bw
        unfold wE at h1
        split at h1
        · rename_i qt;rw [hku,qt]
        · cases h1
      · cases h1
     have þ:∀e,(Instr.checkKey e 10000 kt (.int .i64 n)).run P w= .ok () w:=fun e=>MapKept.run_checkKey Ie (by simp [MapKept.IsKey]) e 9999
     split at h
     · rename_i k c xS Mp
       simp only [Option.some.injEq] at h
       subst h
       have hn:n=k:=hc _ (List.mem_cons_self ..)
       subst hn
       obtain⟨e,he,hf⟩:=Ay n es.toList ks 0 Fz hk hq.2 xS
       have hrel:=Cu cs _ Fz c e.val hv Mp (by rw [List.getElem?_map,he];rfl)
       refine⟨⟨rfl,rfl,rfl⟩,(if ok then .tuple #[e.val, .bool true] else e.val),?_,?_⟩
       · simp [Instr.lookup,run_underlying hu,MapKept.run_getObj_map hb,þ,MapKept.run_findKey Ie hf,Result.andThen]
       · cases ok
         · exact hrel
         · simp only [cond_true,if_true,aa]
           exact⟨_,rfl,by simp only [ae];exact⟨_,_,rfl,hrel,_,_,rfl,by simp [aa],rfl⟩⟩
     · split at h
       · rename_i ee oC
         cases hz:Mf ee.zero with
         |false=>rw [hz] at h;cases h
         |true=>
         rw [hz] at h
         simp only [cond_true,Option.some.injEq] at h
         subst h
         have hn:n∉ks:=(tg n ks).1 (hc _ (List.mem_cons_self ..))
         have hf:=qu n es.toList ks 0 hk hn
         obtain⟨_,i,hi,_,_,hzz⟩:=hT.ok et ee oC
         have hz':ee.zero= .nilFunc:=by
          unfold Mf at hz;split at hz
          · rename_i q;exact q
          · cases hz
         have hzr:(zeroValue et).run P w= .ok .nilFunc w:=by
          simp [zeroValue,typeInfo,hi,hzz,hz']
         refine⟨⟨rfl,rfl,rfl⟩,(if ok then .tuple #[.nilFunc, .bool false] else .nilFunc),?_,?_⟩
         · simp [Instr.lookup,run_underlying hu,MapKept.run_getObj_map hb,þ,MapKept.run_findKey Ie hf,hzr,Result.andThen]
         · cases ok
           · simp [aa]
           · simp only [cond_true,if_true,aa]
             exact⟨_,rfl,by simp only [ae];exact⟨_,_,rfl,by simp [aa],_,_,rfl,by simp [aa],rfl⟩⟩
       · cases h
   · cases h
 · cases h
end
end Go.Vg

end
section
namespace Go.Vg
open Go
section
variable {P:Program} {C:Ctx} {A:Nat→Prop} {β:Nat→Value} {st:St} {a:Act} {w:World} {T:bW}
theorem Sd {op:UnOp} {x:AV} {vx:Value}(hx:aa w A β vx x) {out:Out}(h:Me op x=some out)(hc:∀p∈out.cond,p):Reads P A β w (Op.unary op vx) out:=by
 unfold Me at h
 split at h
 · split at h
   · simp only [Option.some.injEq] at h;subst h
     simp only [aa] at hx;subst hx
     exact⟨⟨rfl,rfl,rfl⟩,_,rfl,by simp only [aa]⟩
   · cases h
 · split at h
   · simp only [Option.some.injEq] at h;subst h
     simp only [aa] at hx;subst hx
     exact⟨⟨rfl,rfl,rfl⟩,_,rfl,by simp only [aa];rfl⟩
   · cases h
 · split at h
   · simp only [Option.some.injEq] at h;subst h
     simp only [aa] at hx;subst hx
     exact⟨⟨rfl,rfl,rfl⟩,_,rfl,by simp only [aa];rfl⟩
   · cases h
 · rename_i k n
   simp only [aa] at hx
   obtain⟨rfl,hn⟩:=hx
   split at h
   · obtain⟨hq,hr,_⟩:=l4 (w:=w) (A:=A) (β:=β) h hc
     exact⟨hq, .int k (k.wrap (0-n)),by simp [Op.unary,Op.intArith],hr⟩
   · cases hk:lT k with
     |none=>simp [hk] at h
     |some c=>
      simp only [hk,Option.some.injEq] at h;subst h
      have hs:k.signed=false :=by cases k<;>simp [lT] at hk<;>rfl
      have h0:0≤n:=by cases k<;>simp [lT] at hk<;>simpa [lo] using hn.1
      have Mp:c-1=hi k:=by cases k<;>simp [lT] at hk<;>subst hk<;>rfl
      have hx:(c-1-n)=k.wrap ((BitVec.ofInt k.bits (hi k)^^^BitVec.ofInt k.bits n).toNat:Int):=by
       rw [BitVec.toNat_xor,nP (by cases k<;>simp [hi]) (Int.le_refl _),nP h0 hn.2]
       have eB:=toNat_lt h0 hn.2
       have e:(hi k).toNat^^^n.toNat=(hi k).toNat-n.toNat:=by
        have e2:(hi k).toNat=2^j9 k-1:=by cases k<;>simp [lT] at hk<;>rfl
        rw [e2]
        apply Nat.eq_of_testBit_eq
        intro i
        rw [Nat.testBit_xor,Nat.testBit_two_pow_sub_one,Nat.sub_sub,Nat.add_comm,Nat.testBit_two_pow_sub_succ eB]
        cases hb:n.toNat.testBit i with
        |false=>simp
        |true=>
         have :i<j9 k:=by
          rcases Nat.lt_or_ge i (j9 k) with h|h
          · exact h
          · rw [Nat.testBit_lt_two_pow (Nat.lt_of_lt_of_le eB (Nat.pow_le_pow_right (by omega) h))] at hb;cases hb
         simp [this]
       rw [e]
       have hle:n.toNat≤(hi k).toNat:=by omega
       have hr:lo k≤(((hi k).toNat-n.toNat:Nat):Int)∧(((hi k).toNat-n.toNat:Nat):Int)≤hi k:=by
        have :lo k=0:=by cases k<;>simp [lT] at hk<;>rfl
        omega
       rw [tc hr,Mp]
       omega
      have ÿ:lo k≤c-1-n∧c-1-n≤hi k:=by
       have :lo k=0:=by cases k<;>simp [lT] at hk<;>rfl
       omega
      refine⟨⟨rfl,rfl,rfl⟩, .int k (c-1-n),?_,by simp only [aa];exact⟨trivial,ÿ⟩⟩
      have JV:k.max=hi k:=by cases k<;>simp [lT] at hk<;>rfl
      simp only [Op.unary,Op.intBits,hs,Bool.false_eq_true,if_false,Sem.run_pure,JV]
      rw [hx]
   · cases h
 · cases h
theorem xT(s:List UInt8)(x y:Nat)(hy:y≤s.length):(⟨s.toArray⟩:ByteArray).extract x y=⟨((s.take y).drop x).toArray⟩:=by
 apply ByteArray.ext
 apply Array.ext'
 simp [ByteArray.data_extract,List.extract,List.drop_take]
theorem run_sliceBound {k:IntKind} {n:Int} {y:Nat} {code:BoundsCode}(h0:0≤n)(h1:n≤(y:Int)):(Instr.sliceBound (.int k n) y code).run P w= .ok n.toNat w:=by
 simp [Instr.sliceBound,asIntOf,h0,h1]
def dq:Option Int→Nat
 |none=>0
 |some a=>a.toNat
def bg(len:Nat):Option Int→Nat
 |none=>len
 |some b=>b.toNat
def mC(w:World)(A:Nat→Prop)(β:Nat→Value):Option AV→Option Value→Prop
 |none,none=>True
 |some x,some v=>aa w A β v x
 |_,_=>False
theorem fg {x:Option AV} {n:Option Int} {v:Option Value}(h:mz x=some n)(hr:mC w A β x v):
  (n=none∧v=none)∨∃k m,n=some m∧v=some (.int k m):=by
 cases x with
 |none=>
  simp [mz] at h
  cases v with
  |none=>exact .inl ⟨h.symm,rfl⟩
  |some v=>simp [mC] at hr
 |some x=>
  cases v with
  |none=>simp [mC] at hr
  |some v=>
   cases x with
   |int k m=>
    simp only [mz,Option.some.injEq] at h
    simp only [mC,aa] at hr
    exact .inr ⟨k,m,h.symm,by rw [hr.1]⟩
   |_=>simp [mz] at h
theorem jG {s:Bool} {len cap:Nat} {lo hi:Option Int} {vl vh:Option Value}(hl:(lo=none∧vl=none)∨∃k m,lo=some m∧vl=some (.int k m))(hh:(hi=none∧vh=none)∨∃k m,hi=some m∧vh=some (.int k m))
  (hlen:len≤cap) (h0:∀m,hi=some m→0≤m∧m≤(len:Int)) (h1:∀m,lo=some m→0≤m∧m≤(bg len hi:Int)):
  (Instr.sliceBounds s len cap vl vh none).run P w= .ok (dq lo,bg len hi,cap) w:=by
 rcases hl with⟨rfl,rfl⟩|⟨k,m,rfl,rfl⟩<;>rcases hh with⟨rfl,rfl⟩|⟨k',m',rfl,rfl⟩
 · simp [Instr.sliceBounds,dq,bg]
 · obtain⟨g0,g1⟩:=h0 m' rfl
   simp [Instr.sliceBounds,dq,bg,run_sliceBound (P:=P) (w:=w) (k:=k') g0 (show m'≤(cap:Int) by omega)]
 · obtain⟨g0,g1⟩:=h1 m rfl
   simp only [bg] at g1
   simp [Instr.sliceBounds,dq,bg,run_sliceBound (P:=P) (w:=w) (k:=k) g0 g1]
 · obtain⟨g0,g1⟩:=h0 m' rfl
   obtain⟨f0,f1⟩:=h1 m rfl
   simp only [bg] at f1
   simp [Instr.sliceBounds,dq,bg,run_sliceBound (P:=P) (w:=w) (k:=k') g0 (show m'≤(cap:Int) by omega),run_sliceBound (P:=P) (w:=w) (k:=k) f0 f1]
theorem rN {row:List Ty} {v:Value} {l:List (Row row)}(h:Rd w A (.slice row) v l):∃ad cap,v= .slice ad l.length cap∧l.length≤cap∧cap≤maxLen:=by
 simp only [Rd] at h
 obtain⟨ad,cap,cs,h1,h2,h3,_⟩:=h
 exact⟨ad,cap,h1,h2,h3⟩
theorem JW {row:List Ty} {ad:Option Addr} {len cap:Nat} {l:List (Row row)}(h:Rd w A (.slice row) (.slice ad len cap) l)(x y:Nat)(hx:x≤y)(hy:y≤l.length)(zo:Option Addr)
  (had:x<cap→zo=ad.map (·.add (x*row.length))):Rd w A (.slice row) (.slice zo (y-x) (cap-x)) ((l.take y).drop x):=by
 simp only [Rd] at h ⊢
 obtain⟨a0,aj8,cs,h1,h2,h3,h4,h5⟩:=h
 simp only [Value.slice.injEq] at h1
 obtain⟨rfl,rfl,rfl⟩:=h1
 have hs:=dQ (w:=w) (A:=A) l cs y h4
 have Ib:=dQ (w:=w) (A:=A) (l.take y) _ x hs.1
 have hlen:((l.take y).drop x).length=y-x:=by simp;omega
 refine⟨zo,cap-x,((cs.take (y*row.length)).drop (x*row.length)),by rw [hlen],by rw [hlen];omega,by omega,Ib.2,fun dH=> ?_⟩
 have aoQ:x<l.length:=by
  rcases Nat.lt_or_ge x l.length with eB|Bx
  · exact eB
  · exfalso;apply dH
    have :y=x:=by omega
    subst this
    rw [List.drop_take];simp
 have c7:cs≠ []:=by intro h0;apply dH;simp [h0]
 obtain⟨b,o,hb,hA,hr⟩:=h5 c7
 refine⟨b,o+x*row.length,?_,hA,mB (gz hr)⟩
 rw [had (by omega),hb]
 simp [Addr.add_mid]
theorem zp {t:TypeId}(hu:P.underlying t=some .string)(s:List UInt8) {vl vh:Option Value} {x y c:Nat}(hy:y≤s.length)(hb:(Instr.sliceBounds false s.length s.length vl vh none).run P w= .ok (x,y,c) w):
  (Instr.sliceAt t (.string ⟨s.toArray⟩) vl vh none).run P w= .ok (.string ⟨((s.take y).drop x).toArray⟩) w:=by
 simp [Instr.sliceAt,Instr.slice,run_underlying hu,qU,hb,xT s x y hy]
theorem nC {t e:TypeId} {i:TypeInfo}(hu:P.underlying t=some (.slice e))(hi:P.info? e=some i)(ad:Option Addr)(len cap:Nat) {vl vh:Option Value} {x y:Nat}(hb:(Instr.sliceBounds true len cap vl vh none).run P w= .ok (x,y,cap) w):
  (Instr.sliceAt t (.slice ad len cap) vl vh none).run P w= .ok (.slice (if cap=x then ad else ad.map (·.add (x*i.size))) (y-x) (cap-x)) w:=by
 simp [Instr.sliceAt,Instr.slice,run_underlying hu,sizeOf,typeInfo,hi,hb]
theorem jg(hT:bw T P) {t:TypeId} {te:TE}(ht:T.find t=some te):P.underlying t=some te.desc:=(hT.ok t te ht).1
theorem Ig(hT:bw T P)(hB:aD C A β st a w) {t:TypeId} {x:AV} {lo hi mx:Option AV} {vx:Value} {vl vh vm:Option Value}(hx:aa w A β vx x)
  (hl:mC w A β lo vl)
  (hh:mC w A β hi vh)
  (hm:mC w A β mx vm) {out:Out}
  (h:oe T st.h t x lo hi mx=some out) (hc:∀p∈out.cond,p):Reads P A β w (Instr.sliceAt t vx vl vh vm) out:=by
 unfold oe at h
 split at h
 · rename_i s wN gI Ic Mq qW
   have TZ:vm=none:=by
    rcases fg qW hm with⟨_,h⟩|⟨k,m,h,_⟩
    · exact h
    · cases h
   subst TZ
   have iB:=fg Ic hl
   have FE:=fg Mq hh
   simp only [aa] at hx
   obtain⟨rfl,hs⟩:=hx
   cases hd:dn T t nN with
   |false=>simp [hd] at h
   |true=>
    simp only [hd,cond_true] at h
    have hu:P.underlying t=some .string:=by
     unfold dn at hd
     cases ht:T.find t with
     |none=>simp [ht] at hd
     |some te=>
      simp only [ht] at hd
      rw [(hT.ok t te ht).1]
      cases qt:te.desc<;>simp_all [nN]
    have fin:∀(r:List UInt8),(bg s.length gI≤s.length)→(∀m,gI=some m→0≤m∧m≤(s.length:Int))→(∀m,wN=some m→0≤m∧m≤(bg s.length gI:Int))→
      r=((s.take (bg s.length gI)).drop (dq wN))→∃v,(Instr.sliceAt t (.string ⟨s.toArray⟩) vl vh none).run P w= .ok v w∧aa w A β v (.str r):=by
     intro r h1 h2 h3 h4
     have hb:=jG (P:=P) (w:=w) (s:=false) (cap:=s.length) iB FE (Nat.le_refl _) h2 h3
     refine⟨_,zp hu s h1 hb,?_⟩
     simp only [aa,h4]
     exact⟨trivial,by simp only [List.length_drop,List.length_take];omega⟩
    split at h
    · simp only [Option.some.injEq] at h;subst h
      exact⟨⟨rfl,rfl,rfl⟩,fin s (by simp [bg]) (by simp) (by simp) (by simp [bg,dq])⟩
    · rename_i b
      simp only [Option.some.injEq] at h;subst h
      obtain⟨c0,c1⟩:=dI hc
      exact⟨⟨rfl,rfl,rfl⟩,fin _ (by simp only [bg];omega) (by simp only [Option.some.injEq];rintro m rfl;exact⟨c0,c1⟩) (by simp) (by simp [bg,dq])⟩
    · rename_i x
      simp only [Option.some.injEq] at h;subst h
      obtain⟨c0,c1⟩:=dI hc
      exact⟨⟨rfl,rfl,rfl⟩,fin _ (by simp [bg]) (by simp) (by simp only [Option.some.injEq,bg];rintro m rfl;exact⟨c0,c1⟩) (by simp [bg,dq])⟩
    · rename_i x b
      simp only [Option.some.injEq] at h;subst h
      obtain⟨c0,c1,c2⟩:=dI hc
      exact⟨⟨rfl,rfl,rfl⟩,fin _ (by simp only [bg];omega) (by simp only [Option.some.injEq];rintro m rfl;exact⟨by omega,c2⟩) (by simp only [Option.some.injEq,bg];rintro m rfl;omega) (by simp [bg,dq])⟩
 · rename_i row l wN gI Ic Mq qW
   have TZ:vm=none:=by
    rcases fg qW hm with⟨_,h⟩|⟨k,m,h,_⟩
    · exact h
    · cases h
   subst TZ
   have iB:=fg Ic hl
   have FE:=fg Mq hh
   simp only [aa] at hx
   cases hs:bp T t row.length with
   |false=>simp [hs] at h
   |true=>
    simp only [hs,cond_true] at h
    obtain⟨e,ii,hu,gH,cR,im⟩:=eh hT hs
    obtain⟨ad,cap,rfl,hle,xU⟩:=rN hx
    have fin:∀(r:List (Row row)),(bg l.length gI≤l.length)→(dq wN≤bg l.length gI)→(∀m,gI=some m→0≤m∧m≤(l.length:Int))→(∀m,wN=some m→0≤m∧m≤(bg l.length gI:Int))→
      r=((l.take (bg l.length gI)).drop (dq wN))→∃v,(Instr.sliceAt t (.slice ad l.length cap) vl vh none).run P w= .ok v w∧aa w A β v (.sl row r):=by
     intro r h1 Se h2 h3 h4
     have hb:=jG (P:=P) (w:=w) (s:=true) (cap:=cap) iB FE hle h2 h3
     refine⟨_,nC hu gH ad l.length cap hb,?_⟩
     simp only [aa,h4]
     refine JW hx _ _ Se h1 _ (fun eB=> ?_)
     rw [if_neg (by omega),cR]
    split at h
    · simp only [Option.some.injEq] at h;subst h
      exact⟨⟨rfl,rfl,rfl⟩,fin l (by simp [bg]) (by simp [dq]) (by simp) (by simp) (by simp [bg,dq])⟩
    · rename_i b
      simp only [Option.some.injEq] at h;subst h
      obtain⟨c0,c1⟩:=dI hc
      exact⟨⟨rfl,rfl,rfl⟩,fin _ (by simp only [bg];omega) (by simp [dq]) (by simp only [Option.some.injEq];rintro m rfl;exact⟨c0,c1⟩) (by simp) (by simp [bg,dq])⟩
    · rename_i x
      simp only [Option.some.injEq] at h;subst h
      obtain⟨c0,c1⟩:=dI hc
      exact⟨⟨rfl,rfl,rfl⟩,fin _ (by simp [bg]) (by simp only [bg,dq];omega) (by simp) (by simp only [Option.some.injEq,bg];rintro m rfl;exact⟨c0,c1⟩) (by simp [bg,dq])⟩
    · rename_i x b
      simp only [Option.some.injEq] at h;subst h
      obtain⟨c0,c1,c2⟩:=dI hc
      exact⟨⟨rfl,rfl,rfl⟩,fin _ (by simp only [bg];omega) (by simp only [bg,dq];omega) (by simp only [Option.some.injEq];rintro m rfl;exact⟨by omega,c2⟩) (by simp only [Option.some.injEq,bg];rintro m rfl;omega) (by simp [bg,dq])⟩
 · rename_i row l b c Ic Mq qW
   have hvl:vl=none:=by
    rcases fg Ic hl with⟨_,h⟩|⟨k,m,h,_⟩
    · exact h
    · cases h
   subst hvl
   obtain⟨kb,rfl⟩:∃kb,vh=some (.int kb b):=by
    rcases fg Mq hh with⟨h,_⟩|⟨k,m,h,h2⟩
    · cases h
    · cases h;exact⟨k,h2⟩
   obtain⟨kc,rfl⟩:∃kc,vm=some (.int kc c):=by
    rcases fg qW hm with⟨h,_⟩|⟨k,m,h,h2⟩
    · cases h
    · cases h;exact⟨k,h2⟩
   simp only [aa] at hx
   cases hs:bp T t row.length with
   |false=>simp [hs] at h
   |true=>
    simp only [hs,cond_true] at h
    obtain⟨e,ii,hu,gH,cR,im⟩:=eh hT hs
    obtain⟨ad,cap,rfl,hle,xU⟩:=rN hx
    simp only [Option.some.injEq] at h;subst h
    obtain⟨c0,c1,c2⟩:=dI hc
    subst c1
    have hb:(Instr.sliceBounds true l.length cap none (some (.int kb b)) (some (.int kc b))).run P w= .ok (0,b.toNat,b.toNat) w:=by
     simp [Instr.sliceBounds,run_sliceBound (P:=P) (w:=w) (k:=kc) (n:=b) (y:=cap) (by omega) (by omega),run_sliceBound (P:=P) (w:=w) (k:=kb) (n:=b) (y:=b.toNat) (by omega) (by omega)]
    have fQ:(Instr.sliceAt t (.slice ad l.length cap) none (some (.int kb b)) (some (.int kc b))).run P w=
      .ok (.slice (if b.toNat=0 then ad else ad.map (·.add (0*ii.size))) (b.toNat-0) (b.toNat-0)) w:=by
     simp [Instr.sliceAt,Instr.slice,run_underlying hu,sizeOf,typeInfo,gH,hb]
    have hR:=JW hx 0 b.toNat (by omega) (by omega) (if b.toNat=0 then ad else ad.map (·.add (0*ii.size))) (fun _=>by
     by_cases hz:b.toNat=0
     · rw [if_pos hz];cases ad<;>simp [Addr.add]
     · rw [if_neg hz];cases ad<;>simp [Addr.add])
    have hlen:((l.take b.toNat).drop 0).length=b.toNat:=by rw [List.drop_zero,List.length_take];omega
    simp only [Rd] at hR
    obtain⟨a0,aj8,cs,g1,g2,g3,g4,g5⟩:=hR
    simp only [Value.slice.injEq] at g1
    obtain⟨g6,g7,g8⟩:=g1
    rw [List.drop_zero] at hlen g4
    rw [g6,Nat.sub_zero] at fQ
    refine⟨⟨rfl,rfl,rfl⟩, .slice a0 b.toNat b.toNat,fQ,?_⟩
    simp only [aa,Rd]
    refine⟨⟨a0,b.toNat,cs,?_,by omega,by omega,g4,g5⟩,a0,?_⟩<;>rw [hlen]
 · rename_i k wN gI Ic Mq qW
   have TZ:vm=none:=by
    rcases fg qW hm with⟨_,h⟩|⟨k,m,h,_⟩
    · exact h
    · cases h
   subst TZ
   have iB:=fg Ic hl
   have FE:=fg Mq hh
   split at h
   · rename_i e' row l fr hk
     cases hs:bp T t row.length with
     |false=>simp [hs] at h
     |true=>
      simp only [hs,cond_true] at h
      obtain⟨e,ii,hu,gH,cR,im⟩:=eh hT hs
      simp only [aa] at hx
      obtain⟨rfl,_⟩:=hx
      have fin:(bg l.length gI≤l.length)→(dq wN≤bg l.length gI)→(∀m,gI=some m→0≤m∧m≤(l.length:Int))→(∀m,wN=some m→0≤m∧m≤(bg l.length gI:Int))→
        (β k= .slice none 0 0∧l= []∧(Instr.sliceAt t (β k) vl vh none).run P w= .ok (.slice none 0 0) w)∨∃b cap zo,β k= .slice (some ⟨b,0,none⟩) l.length cap∧(l.length≤cap∧cap≤maxLen)∧
          (Instr.sliceAt t (β k) vl vh none).run P w= .ok (.slice zo (bg l.length gI-dq wN) (cap-dq wN)) w∧(dq wN<cap→zo=some ⟨b,dq wN*row.length,none⟩)∧(dq wN=0→zo=some ⟨b,0,none⟩):=by
       intro h1 Se h2 h3
       rcases ej hB hk with⟨g1,g2⟩|⟨b,cap,cur,g1,_,g3,g4,_⟩
       · subst g2
         have hb:=jG (P:=P) (w:=w) (s:=true) (cap:=0) iB FE (Nat.le_refl _) h2 h3
         have hz:bg 0 gI=0:=by simpa using h1
         have hz2:dq wN=0:=by simp only [List.length_nil] at Se;omega
         refine .inl ⟨g1,rfl,?_⟩
         rw [g1,nC hu gH none 0 0 hb,hz,hz2]
         simp
       · have hb:=jG (P:=P) (w:=w) (s:=true) (cap:=cap) iB FE g3 h2 h3
         refine .inr ⟨b,cap,_,g1,⟨g3,g4⟩,by rw [g1];exact nC hu gH (some ⟨b,0,none⟩) l.length cap hb,fun eB=> ?_,fun hz=> ?_⟩
         · rw [if_neg (by omega),cR];simp [Addr.add_mid]
         · split
           · rfl
           · rw [hz];simp [Addr.add]
      split at h
      · simp only [Option.some.injEq] at h;subst h
        rcases fin (by simp [bg]) (by simp [dq]) (by simp) (by simp) with⟨g1,g2,g3⟩|⟨b,cap,zo,g1,g2,g3,_,g5⟩
        · exact⟨⟨rfl,rfl,rfl⟩,_,g3,by simp only [aa];exact⟨g1.symm,rfl⟩⟩
        · refine⟨⟨rfl,rfl,rfl⟩,_,g3,?_⟩
          simp only [aa]
          rw [g5 rfl,g1];simp [bg,dq,Value.oneCell']
      · rename_i b
        simp only [Option.some.injEq] at h;subst h
        obtain⟨c0,c1⟩:=dI hc
        rcases fin (by simp only [bg];omega) (by simp [dq]) (by simp only [Option.some.injEq];rintro m rfl;exact⟨c0,c1⟩) (by simp) with⟨g1,g2,g3⟩|⟨bb,cap,zo,g1,g2,g3,_,g5⟩
        · refine⟨⟨rfl,rfl,rfl⟩,_,g3,?_⟩
          simp only [aa]
          refine .inl ⟨g1,trivial,?_⟩
          subst g2;simp at c1;omega
        · refine⟨⟨rfl,rfl,rfl⟩,_,g3,?_⟩
          simp only [aa]
          rw [g5 rfl]
          exact .inr ⟨bb,_,cap,g1,by simp [bg,dq],by omega⟩
      · rename_i x
        simp only [Option.some.injEq] at h;subst h
        obtain⟨c0,c1⟩:=dI hc
        rcases fin (by simp [bg]) (by simp only [bg,dq];omega) (by simp) (by simp only [Option.some.injEq,bg];rintro m rfl;exact⟨c0,c1⟩) with⟨g1,g2,g3⟩|⟨bb,cap,zo,g1,g2,g3,g4,_⟩
        · refine⟨⟨rfl,rfl,rfl⟩,_,g3,?_⟩
          simp only [aa]
          subst g2
          exact .inl ⟨by simp,none,0,rfl,by simp⟩
        · refine⟨⟨rfl,rfl,rfl⟩,_,g3,?_⟩
          simp only [aa,bg,dq] at g4 ⊢
          by_cases hz:l.length-x.toNat=0
          · exact .inl ⟨hz,zo,_,by rw [hz],by omega⟩
          · exact .inr ⟨bb,_,cap,cap-x.toNat,g1,by rw [g4 (by omega)],by omega,by omega,by omega⟩
      · rename_i x b
        simp only [Option.some.injEq] at h;subst h
        obtain⟨c0,c1,c2⟩:=dI hc
        rcases fin (by simp only [bg];omega) (by simp only [bg,dq];omega) (by simp only [Option.some.injEq];rintro m rfl;exact⟨by omega,c2⟩) (by simp only [Option.some.injEq,bg];rintro m rfl;omega) with⟨g1,g2,g3⟩|⟨bb,cap,zo,g1,g2,g3,g4,_⟩
        · refine⟨⟨rfl,rfl,rfl⟩,_,g3,?_⟩
          simp only [aa]
          subst g2
          exact .inl ⟨by simp at c2;omega,none,0,rfl,by simp⟩
        · refine⟨⟨rfl,rfl,rfl⟩,_,g3,?_⟩
          simp only [aa,bg,dq] at g4 ⊢
          by_cases hz:b.toNat-x.toNat=0
          · exact .inl ⟨hz,zo,_,by rw [hz],by omega⟩
          · exact .inr ⟨bb,_,cap,cap-x.toNat,g1,by rw [g4 (by omega)],by omega,by omega,by omega⟩
   · cases h
 · cases h
end
end Go.Vg

end
section
namespace Go.Vg
open Go
section
variable {P:Program} {C:Ctx} {A:Nat→Prop} {β:Nat→Value} {st:St} {a:Act} {w:World} {T:bW}
theorem Ih:∀(t:Ty) (v:Value) (x:D t),Rd w A t v x→v.oneCell'=true
 | .int _,v,x,h=>by simp only [Rd] at h;rw [h.1];rfl
 | .bool,v,x,h=>by simp only [Rd] at h;rw [h];rfl
 | .str,v,x,h=>by simp only [Rd] at h;rw [h.1];rfl
 | .slice _,v,x,h=>by simp only [Rd] at h;obtain⟨_,_,_,h1,_⟩:=h;rw [h1];rfl
theorem th:∀(ts:List Ty) (vs:List Value) (x:Row ts),bh w A ts vs x→∀v∈vs,v.oneCell'=true
 | [],vs,_,h=>by simp only [bh] at h;subst h;simp
 |t::ts,vs,x,h=>by
  simp only [bh] at h
  obtain⟨v,bI,rfl,h1,h2⟩:=h
  intro u hu
  rcases List.mem_cons.1 hu with rfl|hu
  · exact Ih t _ _ h1
  · exact th ts bI _ h2 u hu
theorem ti {row:List Ty}:∀(l:List (Row row)) (cs:List Value),bZ (bh w A row) cs l→∀v∈cs,v.oneCell'=true
 | [],cs,h=>by simp only [bZ] at h;subst h;simp
 |x::l,cs,⟨c1,c2,hc,h1,h2⟩=>by
  subst hc
  intro u hu
  rcases List.mem_append.1 hu with hu|hu
  · exact th row c1 x h1 u hu
  · exact ti l c2 h2 u hu
theorem gU {r r':List Ty} {l:List (Row r)} {l':List (Row r')}(h:eF r r' l=some l'):∃e:r=r',e▸l=l':=by
 unfold eF at h
 split at h
 · rename_i hb
   simp only [Option.some.injEq] at h
   exact⟨Ty.jd r r' hb,h⟩
 · cases h
structure Src (P:Program) (w:World) (A:Nat→Prop) (row:List Ty) (m:List (Row row)) (v:Value) (cs:List Value):Prop where
 rd:bZ (bh w A row) cs m
 len:(Builtin.lenOf v).run P w= .ok m.length w
 first :∀w':World,w'.heap=w.heap→∀n,n≤m.length→(Builtin.firstCells row.length n v).run P w'= .ok (cs.take (n*row.length)).toArray w'
 max:m.length≤maxLen
theorem Cv {w w':World}(h:w'.heap=w.heap)(p:Addr):w'.cell? p=w.cell? p:=by simp [World.cell?,h]
theorem l6 {row:List Ty} {m:List (Row row)} {cs:List Value} {ad:Option Addr} {cap:Nat}(qv:bZ (bh w A row) cs m)(c7:cs≠ []→∃b o,ad=some ⟨b,o,none⟩∧w.rangeAt b o cs)(JV:m.length≤maxLen):
  Src P w A row m (.slice ad m.length cap) cs:=by
 refine⟨qv,by simp [Builtin.lenOf],fun w' hw n hn=> ?_,JV⟩
 have hlen:=eC m cs qv
 by_cases h0:cs= []
 · subst h0
   simp only [List.length_nil] at hlen
   have hz:n*row.length=0:=by
    rcases Nat.eq_zero_or_pos n with h|h
    · simp [h]
    · have :m.length*row.length=0:=hlen.symm
      rcases Nat.mul_eq_zero.1 this with h'|h'
      · omega
      · simp [h']
   cases ad with
   |none=>simp [Builtin.firstCells]
   |some p=>simp [Builtin.firstCells,hz,loadCells,loadCellsFrom]
 · obtain⟨b,o,rfl,hr⟩:=c7 h0
   have eB:(cs.take (n*row.length)).length=n*row.length:=by
    rw [List.length_take,hlen]
    exact Nat.min_eq_left (Nat.mul_le_mul_right _ hn)
   have :=run_loadCells_list (P:=P) w' ⟨b,o,none⟩ (cs.take (n*row.length)) (fun j v hv=>by
    rw [Addr.add_mid,Cv hw]
    exact gz hr j v hv)
   rw [eB] at this
   simp only [Builtin.firstCells,this]
theorem Cw {row:List Ty}:Src P w A row ([]:List (Row row)) (.slice none 0 0) []:=
 l6 (m:=([]:List (Row row))) (by simp [bZ]) (fun h=>absurd rfl h) (by simp)
theorem Ii {row:List Ty} {l:List (Row row)} {v:Value}(h:Rd w A (.slice row) v l):∃cs,Src P w A row l v cs:=by
 simp only [Rd] at h
 obtain⟨ad,cap,cs,rfl,h2,h3,h4,h5⟩:=h
 exact⟨cs,l6 h4 (fun dH=>let⟨b,o,h1,_,h2⟩:=h5 dH;⟨b,o,h1,h2⟩) (by omega)⟩
theorem Cx(s:List UInt8):bZ (bh w A [.int .u8]) (s.map fun b=>Value.int .u8 (b.toNat:Int)) s:=by
 induction s with
 |nil=>simp [bZ]
 |cons b s ih=>
  refine⟨[.int .u8 (b.toNat:Int)],s.map fun b=>Value.int .u8 (b.toNat:Int),rfl,?_,ih⟩
  simp only [bh,Rd]
  refine⟨_,[],rfl,⟨rfl,?_,?_⟩,rfl⟩
  · simp [lo,Row.hd,DI.toInt]
  · have :=b.toNat_lt
    simp only [hi,Row.hd,DI.toInt];omega
theorem T0(s:List UInt8)(hs:s.length≤maxLen):Src P w A [.int .u8] s (.string ⟨s.toArray⟩) (s.map fun b=>Value.int .u8 (b.toNat:Int)):=by
 refine⟨Cx s,by simp [Builtin.lenOf,qU],fun w' hw n hn=> ?_,hs⟩
 simp only [Builtin.firstCells,List.length_singleton,Nat.mul_one,Sem.run_pure]
 congr 1
 rw [xT s 0 n hn]
 apply Array.ext'
 simp [List.map_take]
theorem kM {k e:Nat} {row:List Ty} {l:List (Row row)} {fr:Bool}(hB:aD C A β st a w)(h:st.h k=some (.row e row l fr)):
  (β k= .slice none 0 0∧l= [])∨∃b cap cs,β k= .slice (some ⟨b,0,none⟩) l.length cap∧l.length≤cap∧cap≤maxLen∧bZ (bh w A row) cs l∧w.rangeAt b 0 cs:=by
 rcases ej hB h with h|⟨b,cap,cur,h1,h2,h3,h4,h5,h6,_⟩
 · exact .inl h
 · refine .inr ⟨b,cap,_,h1,h3,h4,h6,fun j v hj=> ?_⟩
   rw [List.getElem?_take] at hj
   split at hj
   · simp [World.cell?,h2];simpa using hj
   · cases hj
theorem BT(hB:aD C A β st a w) {x:AV} {v:Value}(hx:aa w A β v x) {row:List Ty} {m:List (Row row)}(h:jX st.h row x=some m):∃cs,Src P w A row m v cs:=by
 unfold jX at h
 split at h
 · rename_i s
   obtain⟨e,h⟩:=gU h
   subst e
   simp only at h;subst h
   simp only [aa] at hx
   obtain⟨rfl,hs⟩:=hx
   exact⟨_,T0 s hs⟩
 · simp only [Option.some.injEq] at h
   subst h
   simp only [aa] at hx;subst hx
   exact⟨[],Cw⟩
 · rename_i h1 h2
   have key:∀r (l:List (Row r)),(fj st.h x).1= .sl r l→eF r row l=some m→∃cs,Src P w A row m v cs:=by
    intro r l hp hc
    obtain⟨e,hc⟩:=gU hc
    subst e
    simp only at hc;subst hc
    unfold fj at hp
    split at hp
    · rename_i k
      simp only [aa] at hx
      split at hp
      · rename_i e' ik l' fr hk
        simp only [AV.sl.injEq] at hp
        obtain⟨rfl,hp⟩:=hp
        simp only [heq_eq_eq] at hp;subst hp
        rcases kM hB hk with⟨g1,g2⟩|⟨b,cap,cs,g1,g2,g3,g4,g5⟩
        · subst g2;rw [hx.1,g1];exact⟨[],Cw⟩
        · rw [hx.1,g1];exact⟨cs,l6 g4 (fun _=>⟨b,0,rfl,g5⟩) (by omega)⟩
      · cases hp
    · rename_i k n
      simp only [aa] at hx
      split at hp
      · rename_i e' ik l' fr hk
        simp only [AV.sl.injEq] at hp
        obtain⟨rfl,hp⟩:=hp
        simp only [heq_eq_eq] at hp;subst hp
        rcases kM hB hk with⟨g1,g2⟩|⟨b,cap,cs,g1,g2,g3,g4,g5⟩
        · subst g2
          rcases hx with⟨_,hv,hn⟩|⟨b,m,cap,hv,_⟩
          · subst hn;rw [hv];exact⟨[],by have :=Cw (P:=P) (w:=w) (A:=A) (row:=ik);simpa using this⟩
          · rw [g1] at hv;cases hv
        · rcases hx with⟨hv,_,_⟩|⟨b',m,gT,hv,wK,hle⟩
          · rw [g1] at hv;cases hv
          · rw [g1] at hv
            simp only [Value.slice.injEq,Option.some.injEq,Addr.mk.injEq,and_true] at hv
            obtain⟨rfl,rfl,rfl⟩:=hv
            have hl:(l'.take n).length=n:=by simp;omega
            rw [wK]
            have :=l6 (P:=P) (ad:=some ⟨b,0,none⟩) (cap:=cap) (dQ l' cs n g4).1 (fun _=>⟨b,0,rfl,gz g5⟩) (by omega)
            rw [hl] at this
            exact⟨_,this⟩
      · cases hp
    · rename_i k sz off n
      simp only [aa] at hx
      split at hp
      · rename_i e' ik l' fr hk
        cases cR:Nat.beq sz ik.length with
        |false=>simp [cR] at hp
        |true=>
         have cR:=Nat.eq_of_beq_eq_true cR
         subst cR
         simp only [bE,cond_true,AV.sl.injEq] at hp
         obtain⟨rfl,hp⟩:=hp
         simp only [heq_eq_eq] at hp;subst hp
         rcases hx with⟨hn,ad,cap,hv,_⟩|⟨b',m,gT,ta,hv,wK,hle,aj4,amY⟩
         · subst hn;rw [hv]
           have :=l6 (P:=P) (w:=w) (A:=A) (row:=ik) (m:= []) (ad:=ad) (cap:=cap) (cs:= []) (by simp [bZ]) (fun h=>absurd rfl h) (by simp)
           exact⟨[],by simpa using this⟩
         · rcases kM hB hk with⟨g1,g2⟩|⟨b,cap,cs,g1,g2,g3,g4,g5⟩
           · rw [g1] at hv;cases hv
           · rw [g1] at hv
             simp only [Value.slice.injEq,Option.some.injEq,Addr.mk.injEq,and_true] at hv
             obtain⟨rfl,rfl,rfl⟩:=hv
             have hl:((l'.drop off).take n).length=n:=by simp;omega
             rw [wK]
             have :=l6 (P:=P) (ad:=some ⟨b,off*ik.length,none⟩) (cap:=ta) (dQ _ _ n (dQ l' cs off g4).2).1 (fun _=>⟨b,_,rfl,by have :=gz (n:=n*ik.length) (mB (n:=off*ik.length) g5);simpa using this⟩) (by omega)
             rw [hl] at this
             exact⟨_,this⟩
      · cases hp
    · rename_i Sb hn2 hn3
      simp only at hp
      subst hp
      simp only [aa] at hx
      exact Ii hx
   split at h
   · rename_i r l hp
     exact key r l hp h
   · rename_i r l hp
     have jH:x= .full r l:=by
      unfold fj at hp
      split at hp
      · split at hp<;>cases hp
      · split at hp<;>cases hp
      · split at hp
        · rename_i sz _ _ _ _ ik _ _ _
          cases cR:Nat.beq sz ik.length<;>simp [cR] at hp
        · cases hp
      · exact hp
     subst jH
     simp only [aa] at hx
     obtain⟨e,hc⟩:=gU h
     subst e
     simp only at hc;subst hc
     exact Ii hx.1
   · cases h
end
end Go.Vg

end
section
namespace Go.Vg
open Go
section
variable {P:Program} {C:Ctx} {A:Nat→Prop} {β:Nat→Value} {st:St} {a:Act} {w:World} {T:bW}
structure OR (P:Program) (t t' e:TypeId) (size bytes:Nat) (z:Value):Prop where
 under:P.underlying t=some (.slice e)
 amJ:∃d,P.underlying t'=some d∧(d= .string∨∃e',d= .slice e')
 info:∃i,P.info? e=some i∧i.size=size∧i.bytes=bytes∧i.zero=some z
 T1:z.cells.size=size
 pos:0<size
theorem lr {t t' ty e:TypeId} {size bytes:Nat} {z:Value}(hE:OR P t t' e size bytes z) {base:Option Addr} {n cap:Nat} {acD:List Value} {x:Value} {m:Nat} {news:List Value}
  (hold:∀w':World,w'.heap=w.heap→(Builtin.firstCells size n (.slice base n cap)).run P w'= .ok acD.toArray w')
  (hlen:(Builtin.lenOf x).run P w= .ok m w) (gm:∀w':World,w'.heap=w.heap→(Builtin.firstCells size m x).run P w'= .ok news.toArray w')
  (hg:cap<n+m) (JX:n+m≤maxLen) (uX:(n+m)*bytes≤140737488355328):
  (Builtin.append_ #[t,t'] ty #[.slice base n cap,x]).run P w=
    .ok (.slice (some ⟨w.heap.size,0,none⟩) (n+m) (grownCap w (n+m) cap e))
      (w.drew.alloc (.cells (acD.toArray++(news.toArray++Builtin.zeroCells z.cells (grownCap w (n+m) cap e-(n+m)))) e)):=by
 obtain⟨hu,⟨d',zq,Cy⟩,⟨i,hi,hs,hb,hz⟩,FF,im⟩:=hE
 subst hs;subst hb
 have hn:¬(n+m≤cap):=by omega
 have acE:¬(9223372036854775807<((n:Int)+(m:Int))):=by unfold maxLen at JX;omega
 have h48:=growslice_fits hg uX
 have acF:¬(281474976710656<Builtin.nextslicecap (n+m) cap*i.bytes):=by omega
 have TX:=hold w.drew rfl
 have hf:=gm w.drew rfl
 rcases Cy with rfl|⟨e',rfl⟩
 · simp [Builtin.append_,run_underlying hu,run_underlying zq,sizeOf,typeInfo,zeroValue,hi,hz,hlen,hn,acE,acF,Question.forced,hf,TX,newRow,grownCap]
 · simp [Builtin.append_,run_underlying hu,run_underlying zq,sizeOf,typeInfo,zeroValue,hi,hz,hlen,hn,acE,acF,Question.forced,hf,TX,newRow,grownCap]
theorem xV {t t' ty e:TypeId} {size bytes:Nat} {z:Value}(hE:OR P t t' e size bytes z) {g n cap:Nat} {cur:Array Value}(hg:w.heap[g]? =some (.cells cur e (0,0))) {x:Value} {m:Nat} {news:List Value}
  (hlen:(Builtin.lenOf x).run P w= .ok m w) (gm:∀w':World,w'.heap=w.heap→(Builtin.firstCells size m x).run P w'= .ok news.toArray w')
  (hl:news.length=m*size) (h1:∀u∈news,u.oneCell'=true) (tj:n+m≤cap) (c7:cur.size=cap*size):
  (Builtin.append_ #[t,t'] ty #[.slice (some ⟨g,0,none⟩) n cap,x]).run P w=
    .ok (.slice (some ⟨g,0,none⟩) (n+m) cap) (w.setRow g (cur.toList.take (n*size)++news++cur.toList.drop (n*size+news.length)).toArray):=by
 obtain⟨hu,⟨d',zq,Cy⟩,⟨i,hi,hs,hb,hz⟩,FF,im⟩:=hE
 subst hs;subst hb
 have oD:n*i.size+news.length≤cur.size:=by rw [hl,c7,←Nat.add_mul];exact Nat.mul_le_mul_right _ tj
 have ka:=run_storeCells_at P g (n*i.size) e news 0 cur w hg (by simpa using oD) h1
 simp only [Nat.add_zero] at ka
 have hf:=gm w rfl
 rcases Cy with rfl|⟨e',rfl⟩
 · simp [Builtin.append_,run_underlying hu,run_underlying zq,sizeOf,typeInfo,hi,hlen,tj,hf,Addr.add_lit,ka]
 · simp [Builtin.append_,run_underlying hu,run_underlying zq,sizeOf,typeInfo,hi,hlen,tj,hf,Addr.add_lit,ka]
theorem l7 {t t' ty e:TypeId} {size bytes:Nat} {z:Value}(hE:OR P t t' e size bytes z) {v:Value} {n:Nat} {xs:List Value}(fG:w.ownsRow 0 e size v n xs) {x:Value} {m:Nat} {news:List Value}
  (hlen:(Builtin.lenOf x).run P w= .ok m w) (gm:∀w':World,w'.heap=w.heap→(Builtin.firstCells size m x).run P w'= .ok news.toArray w')
  (hl:news.length=m*size) (h1:∀u∈news,u.oneCell'=true) (JX:n+m≤maxLen) (uX:(n+m)*bytes≤140737488355328):
  ∃v' w',(Builtin.append_ #[t,t'] ty #[v,x]).run P w= .ok v' w'∧w'.ownsRow 0 e size v' (n+m) (xs++news)∧w.grownBy w' v.ownBlock∧∀b,aw v'=some b→aw v=some b∨w.heap.size≤b:=by
 have Ij:(xs++news).length=(n+m)*size:=by rw [List.length_append,fG.1,hl,Nat.add_mul]
 have grown:∀(j6:Nat) (row:Option Nat),
   (w.drew.alloc (.cells (xs.toArray++(news.toArray++Builtin.zeroCells z.cells (grownCap w (n+m) j6 e-(n+m)))) e)).ownsRow 0 e size
     (.slice (some ⟨w.heap.size,0,none⟩) (n+m) (grownCap w (n+m) j6 e)) (n+m) (xs++news)∧
   w.grownBy (w.drew.alloc (.cells (xs.toArray++(news.toArray++Builtin.zeroCells z.cells (grownCap w (n+m) j6 e-(n+m)))) e)) row:=by
  intro j6 row
  have Bx:=grownCap_ge w (n+m) j6 e
  have zr:grownCap w (n+m) j6 e≤maxLen:=grownCap_le_maxLen w (n+m) j6 e JX
  refine⟨⟨Ij, .inr ⟨w.heap.size,_,_,rfl,by omega,heap_alloc_new w.drew _,Bx,zr,?_,?_⟩⟩,⟨rfl,rfl,rfl,by simp,fun k hk _=>heap_alloc_old w.drew _ k hk⟩⟩
  · simp only [Array.size_append,List.size_toArray,size_zeroCells,hE.T1,fG.1,hl,←Nat.add_mul]
    congr 1
    omega
  · simp only [Array.toList_append]
    rw [←List.append_assoc,←Ij]
    exact List.take_left
 rcases fG.2 with⟨rfl,rfl⟩|⟨g,cap,cur,rfl,hbg,hg,hnc,zr,c7,adZ⟩
 · have hx:xs= []:=List.eq_nil_of_length_eq_zero (by simpa using fG.1)
   subst hx
   by_cases hm:m=0
   · subst hm
     have hn:news= []:=List.eq_nil_of_length_eq_zero (by simpa using hl)
     subst hn
     refine⟨.slice none 0 0,w,?_,by simpa using World.ownsRow_nil w 0 e size,⟨rfl,rfl,rfl,Nat.le_refl _,fun _ _ _=>rfl⟩,by simp [aw]⟩
     obtain⟨hu,⟨d',zq,Cy⟩,⟨i,hi,hs,hb,hz⟩,FF,im⟩:=hE
     subst hs
     have hf:=gm w rfl
     rcases Cy with rfl|⟨e',rfl⟩
     · simp [Builtin.append_,run_underlying hu,run_underlying zq,sizeOf,typeInfo,hi,hlen,hf]
     · simp [Builtin.append_,run_underlying hu,run_underlying zq,sizeOf,typeInfo,hi,hlen,hf]
   · have hold:∀w':World,w'.heap=w.heap→(Builtin.firstCells size 0 (.slice none 0 0)).run P w'= .ok ([]:List Value).toArray w':=fun w' _=>by simp [Builtin.firstCells]
     have hr:=lr (ty:=ty) hE hold hlen gm (by omega) JX uX
     have T2:=grown 0 (Value.ownBlock (.slice none 0 0))
     exact⟨_,_,hr,T2.1,T2.2,fun b hb=> .inr (by simp only [aw,Option.some.injEq] at hb;omega)⟩
 · by_cases tj:n+m≤cap
   · have oD:n*size+news.length≤cur.size:=by rw [hl,c7,←Nat.add_mul];exact Nat.mul_le_mul_right _ tj
     have hr:=xV (ty:=ty) hE hg hlen gm hl h1 tj c7
     refine⟨_,_,hr,⟨Ij, .inr ⟨g,cap,_,rfl,hbg,setRow_heap w g cur _ e _ hg,tj,zr,?_,?_⟩⟩,⟨rfl,rfl,rfl,by simp,fun k _ hk=>setRow_other w g k _ (fun e=>hk (by simp [Value.ownBlock,e]))⟩,fun b hb=> .inl hb⟩
     · simp only [List.size_toArray,List.length_append,List.length_take,List.length_drop,Array.length_toList]
       omega
     · rw [adZ,←Ij]
       exact List.take_left
   · have holds:=fG.cells (g:=g) rfl
     have hold:∀w':World,w'.heap=w.heap→(Builtin.firstCells size n (.slice (some ⟨g,0,none⟩) n cap)).run P w'= .ok xs.toArray w':=fun w' T3=>by
      have :=run_loadCells_list (P:=P) w' ⟨g,0,none⟩ xs (fun j v hv=>by rw [Cv T3];exact holds j v hv)
      rw [fG.1] at this
      simpa [Builtin.firstCells] using this
     have hr:=lr (ty:=ty) hE hold hlen gm (by omega) JX uX
     have T2:=grown cap (Value.ownBlock (.slice (some ⟨g,0,none⟩) n cap))
     exact⟨_,_,hr,T2.1,T2.2,fun b hb=> .inr (by simp only [aw,Option.some.injEq] at hb;omega)⟩
theorem aD.newRow(hB:aD C A β st a w) {dst:Option Nat}(hd:∀t,dst=some t→t<st.n) {d e:Nat} {row:List Ty} {l:List (Row row)} {cond:List Prop} {del:List Nat} {v':Value} {w':World} {rw :Option Nat} {xs:List Value}
  (fq:st.h d=none∧nO d=false) (hg:w.grownBy w' rw) (jV:∀b,rw=some b→∃k,aE del k=true∧(st.h k).isSome∧aw (β k)=some b) (jb:∀b,rw=some b→¬A b)
  (fG:w'.ownsRow 0 e row.length v' l.length xs) (qv:bZ (bh w A row) xs l) (hblk:∀b,aw v'=some b→rw=some b∨w.heap.size≤b):
  aD C A (bG β d v') (st.put dst {cond:=cond,res:= .own d,del:=del,new:= [(d, .row e row l false)]}) (a.put dst v') w':=by
 have hK:cM w w' A A:=fun b hb=>⟨hb,hg.block b (hB.bound b hb) (fun h=>jb b h.symm hb)⟩
 have hf:∀k b,ao [(d,AB.row e row l false)] k=some b→k=d∧b= .row e row l false :=by
  intro k b h
  simp only [ao] at h
  by_cases hk:k=d
  · subst hk;simp only [bE,cond_true,Option.some.injEq] at h;exact⟨rfl,h.symm⟩
  · simp [aN hk] at h
 refine hB.step (out:= {cond:=cond,res:= .own d,del:=del,new:= [(d, .row e row l false)]}) hd ?_ (by simp [ao]) ?_ hK hg.os hg.tape hg.output hg.size ?_ (fun b hb=>Nat.lt_of_lt_of_le (hB.bound b hb) hg.size) (fun b hb=> .inl hb) (by simp [ao]) ?_ ?_ ?_ ?_
 · intro k b h;obtain⟨rfl,_⟩:=hf k b h;exact fq
 · intro k h
   have :k≠d:=by rintro rfl;simp [ao] at h
   simp [bG,this]
 · intro b hb ht
   refine hg.block b hb (fun h=> ?_)
   obtain⟨k,h1,h2,h3⟩:=jV b h.symm
   exact ht k ⟨h2, .inr h1⟩ h3
 · intro k ab h
   obtain⟨rfl,rfl⟩:=hf k ab h
   refine⟨xs,by simpa [bG] using fG,bC (fun c x hx=>bD hK row c x hx) l xs qv,fun b hb=> ?_⟩
   simp only [bG,if_true] at hb
   simp only [Bool.false_eq_true,if_false]
   rcases hblk b hb with h|h
   · exact jb b h
   · intro hA;exact absurd (hB.bound b hA) (by omega)
 · intro k b ab h hb
   obtain⟨rfl,_⟩:=hf k ab h
   simp only [bG,if_true] at hb
   rcases hblk b hb with h|h
   · exact .inr (let⟨k,h1,h2,h3⟩:=jV b h;⟨k,h1,h2,h3⟩)
   · exact .inl h
 · intro k k' b h h' _ _
   obtain⟨x,hx⟩:=Option.isSome_iff_exists.1 h
   obtain⟨y,hy⟩:=Option.isSome_iff_exists.1 h'
   rw [(hf k x hx).1,(hf k' y hy).1]
 · simp only [aa,bG,if_true,true_and]
   obtain⟨ad,l',c,rfl⟩:∃ad l c,v'= .slice ad l c:=by
    rcases fG.2 with⟨rfl,_⟩|⟨g,cap,cur,rfl,_⟩
    · exact⟨_,_,_,rfl⟩
    · exact⟨_,_,_,rfl⟩
   rfl
end
end Go.Vg

end
section
namespace Go.Vg
open Go
section
variable {P:Program} {C:Ctx} {A:Nat→Prop} {β:Nat→Value} {st:St} {a:Act} {w:World} {T:bW}
theorem xW(hT:bw T P) {t e:TypeId} {te:TE}(h1:uV T t=some e)(h2:pG T t=some te):P.underlying t=some (.slice e)∧T.find e=some te∧∃i,P.info? e=some i∧i.size=te.size∧i.bytes=te.bytes∧i.zero=some te.zero:=by
 unfold uV at h1
 unfold pG at h2
 cases ht:T.find t with
 |none=>simp [ht] at h1
 |some tt=>
  simp only [ht] at h1 h2
  cases hd:tt.desc with
  |slice e'=>
   simp only [hd,Option.some.injEq] at h1 h2
   subst h1
   exact⟨by rw [jg hT ht,hd],h2,(hT.ok _ _ h2).2⟩
  |_=>simp [hd] at h1
theorem tm(z:Value):(ofConst z).cells.length=z.cells.size:=by
 unfold ofConst
 split
 · simp [AV.cells,Value.cells]
 · rename_i h
   have h1:(rE z).cells.length=1:=by
    unfold rE
    split
    · split<;>rfl
    · split<;>rfl
    · rename_i s;cases Nat.ble s.data.toList.length 1000000<;>rfl
    all_goals rfl
   rw [h1]
   cases z<;>first|rfl|exact absurd rfl (h _)
theorem rO {n k x:Nat}(h:n≤x/k):n*k≤x:=Nat.le_trans (Nat.mul_le_mul_right _ h) (Nat.div_mul_le_self x k)
theorem oE(hT:bw T P) {t:TypeId} {f:TypeDesc→Bool}(h:dn T t f=true):∃d,P.underlying t=some d∧f d=true :=by
 unfold dn at h
 cases ht:T.find t with
 |none=>simp [ht] at h
 |some te=>simp only [ht] at h;exact⟨te.desc,jg hT ht,h⟩
theorem Mr {d:TypeDesc}(h:BQ d=true):d= .string∨∃e,d= .slice e:=by
 cases d<;>simp_all [BQ]
theorem Cz(hB:aD C A β st a w) {k e:Nat} {row:List Ty} {l:List (Row row)}(h:st.h k=some (.row e row l false)):
  ∃xs,w.ownsRow 0 e row.length (β k) l.length xs∧bZ (bh w A row) xs l∧∀b,aw (β k)=some b→¬A b:=by
 obtain⟨xs,h1,h2,h3⟩:=hB.blocks k _ h
 exact⟨xs,h1,h2,fun b hb=>by simpa using h3 b hb⟩
theorem xX {v:Value}(h:(∃ad l c,v= .slice ad l c)):v.ownBlock=aw v:=by
 obtain⟨ad,l,c,rfl⟩:=h
 cases ad<;>rfl
theorem oF {w:World} {e size n:Nat} {v:Value} {xs:List Value}(h:w.ownsRow 0 e size v n xs):∃ad l c,v= .slice ad l c:=by
 rcases h.2 with⟨rfl,_⟩|⟨g,cap,cur,rfl,_⟩
 · exact⟨_,_,_,rfl⟩
 · exact⟨_,_,_,rfl⟩
theorem FG(hT:bw T P)(hB:aD C A β st a w) {dst:Option Nat}(hd:∀t,dst=some t→t<st.n) {d:Nat}(fq:st.h d=none∧nO d=false) {t t' ty:TypeId} {s x:AV} {vs vx:Value}(hs:aa w A β vs s)(hx:aa w A β vx x) {out:Out}
  (h:lY T st.h d t t' s x=some out) (hc:∀p∈out.cond,p):∃v' w',(Builtin.append_ #[t,t'] ty #[vs,vx]).run P w= .ok v' w'∧Rel C (st.put dst out) (a.put dst v') w':=by
 unfold lY at h
 split at h
 · rename_i e te he jZ
   split at h
   · rename_i row jV
     obtain⟨hu,Ik,i,hi,nK,JY,Ms⟩:=xW hT he jZ
     cases hq:(Nat.beq row.length te.size&&Nat.blt 0 te.size&&Nat.beq (ofConst te.zero).cells.length te.size&&dn T t' BQ) with
     |false=>simp [hq] at h
     |true=>
      simp only [hq,cond_true] at h
      simp only [Bool.and_eq_true] at hq
      obtain⟨⟨⟨q1,q2⟩,q3⟩,q4⟩:=hq
      have q1:=Nat.eq_of_beq_eq_true q1
      have q2:=Nat.le_of_ble_eq_true q2
      have q3:=Nat.eq_of_beq_eq_true q3
      obtain⟨d',zq,Cy⟩:=oE hT q4
      have hE:OR P t t' e row.length te.bytes te.zero:=⟨hu,⟨d',zq,Mr Cy⟩,⟨i,hi,by omega,JY,Ms⟩,by rw [←tm];omega,by omega⟩
      split at h
      · rename_i m hm
        obtain⟨cs,eX⟩:=BT (P:=P) hB hx hm
        have hlen:=eC m cs eX.rd
        have gG:=ti m cs eX.rd
        have gm:∀w':World,w'.heap=w.heap→(Builtin.firstCells row.length m.length vx).run P w'= .ok cs.toArray w':=fun w' T3=>by
         have :=eX.first w' T3 m.length (Nat.le_refl _)
         rwa [←hlen,List.take_length] at this
        split at h
        ·
         simp only [Option.some.injEq] at h;subst h
         have l8:=dI hc
         simp only [aa] at hs;subst hs
         have fG:=World.ownsRow_nil w 0 e row.length
         obtain⟨v',w',g1,g2,g3,g4⟩:=l7 (ty:=ty) hE fG eX.len gm hlen gG (by have :=Nat.le_trans l8 (Nat.div_le_self _ _);unfold maxLen;omega) (by simpa using rO l8)
         refine⟨v',w',g1,Rel.jY (hB.newRow hd fq (rw :=none) (by simpa [Value.ownBlock] using g3) (by simp) (by simp) (by simpa using g2) eX.rd (fun b hb=> ?_))⟩
         rcases g4 b hb with h|h
         · simp [aw] at h
         · exact .inr h
        · rename_i k
          split at h
          · rename_i e' ik l hk
            cases oC:Nat.beq e' e with
            |false=>simp [oC] at h
            |true=>
             have oC:=Nat.eq_of_beq_eq_true oC
             subst oC
             simp only [bE,cond_true] at h
             split at h
             · rename_i l' iB
               simp only [Option.some.injEq] at h;subst h
               have l8:=dI hc
               obtain⟨er,iB⟩:=gU iB
               subst er
               simp only at iB;subst iB
               simp only [aa] at hs;obtain⟨rfl,_⟩:=hs
               obtain⟨xs,o1,o2,o3⟩:=Cz hB hk
               obtain⟨v',w',g1,g2,g3,g4⟩:=l7 (ty:=ty) hE o1 eX.len gm hlen gG (by have :=Nat.le_trans l8 (Nat.div_le_self _ _);unfold maxLen;omega) (rO l8)
               rw [xX (oF o1)] at g3
               refine⟨v',w',g1,Rel.jY (hB.newRow hd fq (rw :=aw (β k)) g3 (fun b hb=>⟨k,by simp [aE],by simp [hk],hb⟩) o3 (by simpa using g2) (gl l m xs cs o2 eX.rd) (fun b hb=>g4 b hb))⟩
             · cases h
          · cases h
        · rename_i k n
          split at h
          · rename_i e' ik l hk
            cases oC:Nat.beq e' e with
            |false=>simp [oC] at h
            |true=>
             have oC:=Nat.eq_of_beq_eq_true oC
             subst oC
             simp only [bE,cond_true] at h
             split at h
             · rename_i l' iB
               simp only [Option.some.injEq] at h;subst h
               have l8:=dI hc
               obtain⟨er,iB⟩:=gU iB
               subst er
               simp only at iB;subst iB
               obtain⟨xs,o1,o2,o3⟩:=Cz hB hk
               have CA:=dQ l xs n o2
               simp only [aa] at hs
               have fG:w.ownsRow 0 e' ik.length vs n (xs.take (n*ik.length))∧n≤l.length∧aw vs=aw (β k):=by
                rcases hs with⟨h1,h2,h3⟩|⟨b,mm,cap,h1,h2,h3⟩
                · subst h3;subst h2;rw [h1]
                  exact⟨by simpa using World.ownsRow_nil w 0 e' ik.length,by omega,rfl⟩
                · rcases o1.2 with⟨g1,_⟩|⟨g,gT,cur,g1,g2,g3,g4,g5,g6,g7⟩
                  · rw [h1] at g1;cases g1
                  · rw [h1] at g1
                    simp only [Value.slice.injEq,Option.some.injEq,Addr.mk.injEq,and_true] at g1
                    obtain⟨rfl,rfl,rfl⟩:=g1
                    refine⟨⟨?_, .inr ⟨b,cap,cur,h2,by omega,g3,by omega,g5,g6,?_⟩⟩,h3,by rw [h1,h2];rfl⟩
                    · rw [List.length_take,o1.1]
                      exact Nat.min_eq_left (Nat.mul_le_mul_right _ h3)
                    · rw [←g7,List.take_take,Nat.min_eq_left (Nat.mul_le_mul_right _ h3)]
               obtain⟨fG,T4,T5⟩:=fG
               obtain⟨v',w',g1,g2,g3,g4⟩:=l7 (ty:=ty) hE fG eX.len gm hlen gG (by have :=Nat.le_trans l8 (Nat.div_le_self _ _);unfold maxLen;omega) (rO l8)
               rw [xX (oF fG),T5] at g3
               refine⟨v',w',g1,Rel.jY (hB.newRow hd fq (rw :=aw (β k)) g3 (fun b hb=>⟨k,by simp [aE],by simp [hk],hb⟩) o3 ?_ (gl _ m _ cs CA.1 eX.rd) (fun b hb=>by rw [←T5];exact g4 b hb))⟩
               have :(l.take n++m).length=n+m.length:=by simp;omega
               rw [this];exact g2
             · cases h
          · cases h
        · rename_i r l
          split at h
          · rename_i l' iB
            simp only [Option.some.injEq] at h;subst h
            have hc0:=dI hc
            have l8:=acC hc
            obtain⟨er,iB⟩:=gU iB
            subst er
            simp only at iB;subst iB
            simp only [aa] at hs
            obtain⟨qv,ad,rfl⟩:=hs
            obtain⟨Mt,Sf⟩:=Ii (P:=P) qv
            have Mu:=eC l Mt Sf.rd
            have hold:∀w':World,w'.heap=w.heap→(Builtin.firstCells r.length l.length (.slice ad l.length l.length)).run P w'= .ok Mt.toArray w':=fun w' T3=>by
             have :=Sf.first w' T3 l.length (Nat.le_refl _)
             rwa [←Mu,List.take_length] at this
            have JX:l.length+m.length≤maxLen:=by have :=Nat.le_trans l8 (Nat.div_le_self _ _);unfold maxLen;omega
            have hr:=lr (ty:=ty) hE hold eX.len gm (by omega) JX (rO l8)
            refine⟨_,_,hr,Rel.jY (hB.newRow hd fq (rw :=none) (xs:=Mt++cs) ⟨rfl,rfl,rfl,by simp,fun k hk _=>heap_alloc_old w.drew _ k hk⟩ (by simp) (by simp) ?_ (gl l m Mt cs Sf.rd eX.rd) (fun b hb=> .inr (by simp only [aw,Option.some.injEq] at hb;omega)))⟩
            have Bx:=grownCap_ge w (l.length+m.length) l.length e
            have zr:=grownCap_le_maxLen w (l.length+m.length) l.length e JX
            have JZ:(Mt++cs).length=(l.length+m.length)*r.length:=by rw [List.length_append,Mu,hlen,Nat.add_mul]
            rw [List.length_append]
            refine⟨JZ, .inr ⟨w.heap.size,_,_,rfl,by omega,heap_alloc_new w.drew _,Bx,zr,?_,?_⟩⟩
            · simp only [Array.size_append,List.size_toArray,size_zeroCells,hE.T1,Mu,hlen,←Nat.add_mul]
              congr 1
              omega
            · simp only [Array.toList_append]
              rw [←List.append_assoc,←JZ]
              exact List.take_left
          · cases h
        · cases h
      · cases h
   · cases h
 · cases h
end
end Go.Vg

end
section
namespace Go.Vg
open Go
section
variable {P:Program} {C:Ctx} {A:Nat→Prop} {β:Nat→Value} {st:St} {a:Act} {w:World} {T:bW}
theorem one_cell {v:Value}:∀(x:AV),x.one=true→aa w A β v x→v.oneCell'=true
 | .cW,h,_=>by simp [AV.one] at h
 | .undef,h,_=>by simp [AV.one] at h
 | .agg _,h,_=>by simp [AV.one] at h
 | .cK _,h,_=>by simp [AV.one] at h
 | .int _ _,_,h=>by simp only [aa] at h;rw [h.1];rfl
 | .bool _,_,h=>by simp only [aa] at h;rw [h];rfl
 | .tt,_,h=>by simp only [aa] at h;rw [h];rfl
 | .ff,_,h=>by simp only [aa] at h;rw [h];rfl
 | .str _,_,h=>by simp only [aa] at h;rw [h.1];rfl
 | .nil,_,h=>by simp only [aa] at h;rw [h];rfl
 | .iR,_,h=>by simp only [aa] at h;rw [h];rfl
 | .nI _ _,_,h=>by simp only [aa] at h;obtain⟨b,h,_⟩:=h;rw [h];rfl
 | .jc,_,h=>by simp only [aa] at h;rw [h];rfl
 | .sl _ _,_,h=>by simp only [aa] at h;exact Ih _ _ _ h
 | .full _ _,_,h=>by simp only [aa] at h;exact Ih _ _ _ h.1
 | .fO _ _ _,_,h=>by simp only [aa] at h;obtain⟨b,o,cs,h,_⟩:=h;rw [h];rfl
 | .ow _ _,_,h=>by simp only [aa] at h;obtain⟨b,o,cs,h,_⟩:=h;rw [h];rfl
 | .own _,_,h=>by simp only [aa] at h;exact h.2
 | .pre _ _,_,h=>by
   simp only [aa] at h
   rcases h with⟨_,h,_⟩|⟨b,m,cap,_,h,_⟩<;>rw [h]<;>rfl
 | .view _ _ _ _,_,h=>by
   simp only [aa] at h
   rcases h with⟨_,ad,c,h,_⟩|⟨b,m,cap,gT,_,h,_⟩<;>rw [h]<;>rfl
 | .ref _ _,_,h=>by simp only [aa] at h;obtain⟨b,_,h⟩:=h;rw [h];rfl
 | .elem _ _ _ _,_,h=>by simp only [aa] at h;obtain⟨b,m,cap,_,h⟩:=h;rw [h];rfl
 | .fn _ _ _,_,h=>by simp only [aa] at h;obtain⟨_,_,h,_⟩:=h;rw [h];rfl
 | .fP _ _,_,h=>by simp only [aa] at h;obtain⟨_,_,_,h,_⟩:=h;rw [h];rfl
theorem cells_one {v:Value}(h:v.oneCell'=true):v.cells= #[v]:=by
 cases v<;>simp_all [Value.oneCell',Value.cells]
theorem J0:∀(xs:List AV) (vs:List Value),xs.all AV.one=true→ae w A β vs xs→∀v∈vs,v.oneCell'=true
 | [],vs,_,h=>by simp only [ae] at h;subst h;simp
 |x::xs,vs,ho,h=>by
  simp only [ae] at h
  obtain⟨v,bI,rfl,h1,h2⟩:=h
  simp only [List.all_cons,Bool.and_eq_true] at ho
  intro u hu
  rcases List.mem_cons.1 hu with rfl|hu
  · exact one_cell x ho.1 h1
  · exact J0 xs bI ho.2 h2 u hu
theorem rP {x:AV} {v:Value}(ho:x.cells.all AV.one=true)(h:aa w A β v x):ae w A β v.cells.toList x.cells∧(∀u∈v.cells.toList,u.oneCell'=true)∧v.cells.size=x.cells.length:=by
 by_cases hx:∃cs,x= .agg cs
 · obtain⟨cs,rfl⟩:=hx
   simp only [aa] at h
   obtain⟨arr,rfl,h⟩:=h
   have :=cX cs _ h
   exact⟨h,J0 cs _ ho h,by simpa [Value.cells,AV.cells] using this⟩
 · have hc:x.cells= [x]:=by cases x<;>first|rfl|exact absurd ⟨_,rfl⟩ hx
   rw [hc] at ho ⊢
   have ho':x.one=true :=by simpa using ho
   have h1:=one_cell x ho' h
   rw [cells_one h1]
   refine⟨by simp only [ae];exact⟨v,[],rfl,h,rfl⟩,by simpa using h1,rfl⟩
theorem dJ:∀(xs ys:List AV) (us vs:List Value),ae w A β us xs→ae w A β vs ys→ae w A β (us++vs) (xs++ys)
 | [],ys,us,vs,h,h'=>by simp only [ae] at h;subst h;simpa using h'
 |x::xs,ys,us,vs,h,h'=>by
  simp only [ae] at h
  obtain⟨v,wJ,rfl,h1,h2⟩:=h
  simp only [List.cons_append,ae]
  exact⟨v,wJ++vs,rfl,h1,dJ xs ys wJ vs h2 h'⟩
theorem tp {cs vs:List AV} {arr us:List Value} {off:Nat}(h:ae w A β arr cs)(hv:ae w A β us vs):ae w A β (arr.take off++us++arr.drop (off+us.length)) (xB cs off vs):=by
 have hl:=cX vs us hv
 unfold xB
 rw [hl]
 exact dJ _ _ _ _ (dJ _ _ _ _ (fF cs arr off h).1 hv) (fF cs arr _ h).2
theorem oG(hT:bw T P) {t n:Nat}(h:jE T t n=true):∃i,P.info? t=some i∧i.size=n:=by
 unfold jE at h
 cases ht:T.find t with
 |none=>simp [ht] at h
 |some te=>
  simp only [ht] at h
  obtain⟨_,i,hi,hs,_⟩:=hT.ok t te ht
  exact⟨i,hi,hs.trans (Nat.eq_of_beq_eq_true h)⟩
theorem lu {t:TypeId} {i:TypeInfo}(hi:P.info? t=some i) {v:Value}(hs:v.cells.size=i.size)(h1:∀u∈v.cells.toList,u.oneCell'=true) {b off:Nat} {arr:Array Value} {e:TypeId}(hg:w.heap[b]? =some (.cells arr e (0,0)))
  (oD:off+v.cells.size≤arr.size):(Instr.storeAt t (.pointer (some ⟨b,off,none⟩)) v).run P w= .ok () (w.setRow b (arr.toList.take off++v.cells.toList++arr.toList.drop (off+v.cells.toList.length)).toArray):=by
 have :=run_storeCells_at P b off e v.cells.toList 0 arr w hg (by simpa using oD) h1
 simp only [Nat.add_zero] at this
 simp [Instr.storeAt,Instr.sureAddr,storeVar,sizeOf,typeInfo,hi,hs,this]
theorem FH(b:Nat)(cs:Array Value):(w.setRow b cs).os=w.os∧(w.setRow b cs).tape=w.tape∧(w.setRow b cs).output=w.output∧(w.setRow b cs).heap.size=w.heap.size:=⟨rfl,rfl,rfl,by simp⟩
theorem aD.write(hB:aD C A β st a w) {dst:Option Nat}(hd:∀t,dst=some t→t<st.n) {out:Out} {k b:Nat} {ab:AB} {fz:List Nat} {new:Array Value} {e:Nat} {j6:Array Value} {v:Value}
  (eW:(st.h k).isSome) (hb:aw (β k)=some b) (jb:¬A b) (hg:w.heap[b]? =some (.cells j6 e (0,0)))
  (mX:out.new= []∧out.del= []∧out.ga=(k,ab)::cd st.h fz) (wO:∀j∈fz,j≠k∧∃e row l fr,st.h j=some (.row e row l fr))
  (fk:∀A',(∀b',A b'→A' b')→(∀b',A' b'→A b'∨∃j∈fz,aw (β j)=some b')→(∀j∈fz,∀b',aw (β j)=some b'→A' b')→BR (w.setRow b new) A' β k ab)
  (qR:aa (w.setRow b new) A β v out.res) (aka:out.raw= []:=by rfl):Rel C (st.put dst out) (a.put dst v) (w.setRow b new):=by
 obtain⟨o1,o2,o3⟩:=mX
 let A':Nat→Prop :=fun b'=>A b'∨∃j∈fz,aw (β j)=some b'
 have eB:∀j b',(st.h j).isSome→aw (β j)=some b'→b'<w.heap.size:=by
  intro j b' hj bz
  obtain⟨ab,fk⟩:=Option.isSome_iff_exists.1 hj
  have fK:=hB.blocks j ab fk
  cases ab with
  |arr row l=>
   obtain⟨b'',arr,e,h1,h2,_⟩:=fK
   rw [h1] at bz
   simp only [aw,Option.some.injEq] at bz
   subst bz
   exact(Array.getElem?_eq_some_iff.1 h2).1
  |cells cs=>
   obtain⟨b'',arr,e,h1,h2,_⟩:=fK
   rw [h1] at bz
   simp only [aw,Option.some.injEq] at bz
   subst bz
   exact(Array.getElem?_eq_some_iff.1 h2).1
  |row e row l fr=>
   obtain⟨xs,h1,_⟩:=fK
   rcases h1.2 with⟨hn,_⟩|⟨g,cap,cur,hv,_,hg,_⟩
   · rw [hn] at bz;simp [aw] at bz
   · rw [hv] at bz
     simp only [aw,Option.some.injEq] at bz
     subst bz
     exact(Array.getElem?_eq_some_iff.1 hg).1
  |gj e j row l i=>
   obtain⟨xs,v0,h1,_⟩:=fK
   rcases h1.2 with⟨hn,_⟩|⟨g,cap,cur,hv,_,hg,_⟩
   · rw [hn] at bz;simp [aw] at bz
   · rw [hv] at bz
     simp only [aw,Option.some.injEq] at bz
     subst bz
     exact(Array.getElem?_eq_some_iff.1 hg).1
  |views e j n m sz=>
   obtain⟨xs,h1,_⟩:=fK
   rcases h1.2 with⟨hn,_⟩|⟨g,cap,cur,hv,_,hg,_⟩
   · rw [hn] at bz;simp [aw] at bz
   · rw [hv] at bz
     simp only [aw,Option.some.injEq] at bz
     subst bz
     exact(Array.getElem?_eq_some_iff.1 hg).1
 have mD:∀b',b'≠b→(w.setRow b new).heap[b']? =w.heap[b']? :=fun b' h=>setRow_other w b b' new (fun h'=>h h')
 have hK0:cM w (w.setRow b new) A A:=fun b' h=>⟨h,mD b' (fun h'=>jb (h'▸h))⟩
 have hK:cM w (w.setRow b new) A A':=fun b' h=>⟨.inl h,mD b' (fun h'=>jb (h'▸h))⟩
 have Mv:cM (w.setRow b new) (w.setRow b new) A A':=fun b' h=>⟨.inl h,rfl⟩
 have Sh:∀(fz:List Nat) j x,ao (cd st.h fz) j=some x→j∈fz∧∃e row l fr,st.h j=some (.row e row l fr)∧x= .row e row l true :=by
  intro fz
  induction fz with
  |nil=>intro j x h;simp [cd,ao] at h
  |cons i fz ih=>
   intro j x h
   simp only [cd] at h
   split at h
   · rename_i e row l fr hi
     simp only [ao] at h
     by_cases zt:j=i
     · subst zt
       simp only [bE,cond_true,Option.some.injEq] at h
       exact⟨by simp,e,row,l,fr,hi,h.symm⟩
     · simp only [aN zt,cond_false] at h
       obtain⟨h1,h2⟩:=ih j x h
       exact⟨by simp [h1],h2⟩
   · obtain⟨h1,h2⟩:=ih j x h
     exact⟨by simp [h1],h2⟩
 have akb:∀(fz:List Nat) j,j∈fz→(∃e row l fr,st.h j=some (.row e row l fr))→(ao (cd st.h fz) j).isSome:=by
  intro fz
  induction fz with
  |nil=>intro j h;simp at h
  |cons i fz ih=>
   intro j h hr
   simp only [cd]
   by_cases zt:j=i
   · subst zt
     obtain⟨e,row,l,fr,hr⟩:=hr
     simp [hr,ao]
   · have :=ih j ((List.mem_cons.1 h).resolve_left zt) hr
     split
     · simp only [ao,aN zt,cond_false];exact this
     · exact this
 have xP:∀j x,ao out.ga j=some x→(j=k∧x=ab)∨(j≠k∧j∈fz∧∃e row l fr,st.h j=some (.row e row l fr)∧x= .row e row l true):=by
  intro j x h
  rw [o3] at h
  simp only [ao] at h
  by_cases xY:j=k
  · subst xY;simp only [bE,cond_true,Option.some.injEq] at h;exact .inl ⟨rfl,h.symm⟩
  · simp only [aN xY,cond_false] at h
    obtain⟨h1,h2⟩:=Sh fz j x h
    exact .inr ⟨xY,h1,h2⟩
 have Bw:j8 st out k:=⟨eW, .inl (by rw [o3];simp [ao])⟩
 refine⟨A',β,hB.step hd (by rw [o1];simp [ao]) ?_ (fun _ _=>rfl) hK rfl rfl rfl (by simp) ?_ ?_ ?_ ?_ (by rw [o1];simp [ao]) (by rw [o1];simp [ao]) (by rw [o1];simp [ao]) (il Mv _ _ qR) aka⟩
 · intro j x h
   rcases xP j x h with⟨rfl,_⟩|⟨_,_,e,row,l,fr,h,_⟩
   · exact eW
   · simp [h]
 · intro b' _ ht
   exact mD b' (fun h=>ht k Bw (h▸hb))
 · intro b' h
   rw [(FH b new).2.2.2]
   rcases h with h|⟨j,hj,Mw⟩
   · exact hB.bound b' h
   · obtain⟨_,e,row,l,fr,hr⟩:=wO j hj
     exact eB j b' (by simp [hr]) Mw
 · intro b' h
   rcases h with h|⟨j,hj,Mw⟩
   · exact .inl h
   · obtain⟨xY,hr⟩:=wO j hj
     refine .inr (.inr ⟨j,⟨by obtain⟨e,row,l,fr,hr⟩:=hr;simp [hr], .inl ?_⟩,Mw⟩)
     rw [o3]
     simp only [ao,aN xY,cond_false]
     exact akb fz j hj hr
 · intro j x h _
   rw [o1]
   simp only [cG]
   rcases xP j x h with⟨rfl,rfl⟩|⟨xY,hj,e',row,l,fr,hr,rfl⟩
   · exact fk A' (fun _ h=> .inl h) (fun _ h=>h) (fun j hj b' h=> .inr ⟨j,hj,h⟩)
   · obtain⟨xs,h1,h2,h3⟩:=hB.blocks j _ hr
     have tq:∀b',aw (β j)=some b'→b'≠b:=fun b' h h'=>xY (hB.apart j k b (by simp [hr]) eW (h'▸h) hb)
     refine⟨xs,fD h1 (fun b' h=>mD b' (tq b' h)),bC (fun c x hx=>bD hK row c x hx) l xs h2,fun b' h=> ?_⟩
     simp only [if_true]
     exact .inr ⟨j,hj,h⟩
theorem zu(hT:bw T P)(hB:aD C A β st a w) {dst:Option Nat}(hd:∀t,dst=some t→t<st.n) {t:TypeId} {k off:Nat} {x:AV} {vp vx:Value}(hp:aa w A β vp (.ref k off))(hx:aa w A β vx x) {out:Out}
  (h:gQ T st.h t (.ref k off) x=some out):∃w',(Instr.storeAt t vp vx).run P w= .ok () w'∧Rel C (st.put dst out) (a.put dst undef) w':=by
 simp only [gQ] at h
 split at h
 · rename_i cs hk
   cases hq:(x.cells.all AV.one&&jE T t x.cells.length&&Nat.ble (off+x.cells.length) cs.length) with
   |false=>simp [hq] at h
   |true=>
    simp only [hq,cond_true,Option.some.injEq] at h
    subst h
    simp only [Bool.and_eq_true] at hq
    obtain⟨⟨q1,q2⟩,q3⟩:=hq
    have q3:=Nat.le_of_ble_eq_true q3
    obtain⟨i,hi,cR⟩:=oG hT q2
    obtain⟨c1,c2,c3⟩:=rP q1 hx
    simp only [aa] at hp
    obtain⟨b,bX,rfl⟩:=hp
    obtain⟨b',arr,e,h1,h2,h3,h4,h5⟩:=hB.blocks k _ hk
    rw [bX] at h1
    simp only [Value.pointer.injEq,Option.some.injEq,Addr.mk.injEq,and_true] at h1
    subst h1
    have hlen:=cX cs _ h4
    have hb:aw (β k)=some b:=by rw [bX];rfl
    refine⟨_,lu hi (by omega) c2 h2 (by rw [c3];simp at hlen;omega),?_⟩
    refine hB.write hd (k:=k) (fz:= []) (ab:= .cells (xB cs off x.cells)) (by simp [hk]) hb h3 h2 ⟨rfl,rfl,rfl⟩ (by simp) ?_ (by simp [aa])
    intro A' hA1 CB hA3
    have hK:cM w (w.setRow b (arr.toList.take off++vx.cells.toList++arr.toList.drop (off+vx.cells.toList.length)).toArray) A A':=fun b' h=>⟨hA1 b' h,setRow_other w b b' _ (fun h'=>h3 (h'▸h))⟩
    refine⟨b,_,e,bX,setRow_heap w b arr _ e _ h2,fun h=> ?_,eb hK _ _ (tp h4 c1),?_⟩
    · rcases CB b h with h|⟨j,hj,_⟩
      · exact h3 h
      · simp at hj
    · intro v hv
      rcases List.mem_append.1 hv with hv|hv
      · rcases List.mem_append.1 hv with hv|hv
        · exact h5 v (List.mem_of_mem_take hv)
        · exact c2 v hv
      · exact h5 v (List.mem_of_mem_drop hv)
 · cases h
end
end Go.Vg

end
section
namespace Go.Vg
open Go
section
variable {P:Program} {C:Ctx} {A A':Nat→Prop} {β:Nat→Value} {st:St} {a:Act} {w:World} {T:bW}
theorem Ge {k:IntKind} {n:Int}(h:lo k≤n∧n≤hi k):DI.toInt k (DI.ofInt k n)=n:=by
 cases k<;>try rfl
 simp [lo,hi] at h
 simp only [DI.toInt,DI.ofInt,UInt8.toNat_ofNat']
 omega
theorem CC:∀(t:Ty) (x:AV) (v:Value) (d:D t),aa w A β v x→JO t x=some d→Rd w A t v d:=by
 intro t x v d h hd
 unfold JO at hd
 split at hd
 · rename_i k k' n
   split at hd
   · rename_i hk
     subst hk
     simp only [Option.some.injEq] at hd;subst hd
     simp only [aa] at h
     simp only [Rd,Ge h.2]
     exact h
   · cases hd
 · simp only [Option.some.injEq] at hd;subst hd;simpa only [Rd,aa] using h
 · simp only [Option.some.injEq] at hd;subst hd;simpa only [Rd,aa] using h
 · simp only [Option.some.injEq] at hd;subst hd;simpa only [Rd,aa] using h
 · simp only [Option.some.injEq] at hd;subst hd;simpa only [Rd,aa] using h
 · obtain⟨e,hd⟩:=gU hd
   subst e;simp only at hd;subst hd
   simpa only [aa] using h
 · obtain⟨e,hd⟩:=gU hd
   subst e;simp only at hd;subst hd
   simp only [aa] at h;exact h.1
 · simp only [Option.some.injEq] at hd;subst hd
   simp only [aa] at h
   simp only [Rd]
   exact⟨none,0,[],by simpa using h,by simp,by simp,by simp [bZ],by simp⟩
 · cases hd
theorem oH {t:Ty}:∀(ts:List Ty) (x:D t) (y:Row ts),Row.hd (Row.mk x y:Row (t::ts))=x
 | [],_,_=>rfl
 |_::_,_,_=>rfl
theorem tu {t:Ty}:∀(ts:List Ty) (x:D t) (y:Row ts),Row.tl (Row.mk x y:Row (t::ts))=y
 | [],_,_=>rfl
 |_::_,_,_=>rfl
theorem oI:∀(ts:List Ty) (xs:List AV) (vs:List Value) (r:Row ts),ae w A β vs xs→jW ts xs=some r→bh w A ts vs r
 | [],[],vs,r,h,_=>by simpa only [ae,bh] using h
 |t::ts,x::xs,vs,r,h,hr=>by
  simp only [ae] at h
  obtain⟨v,bI,rfl,h1,h2⟩:=h
  simp only [jW] at hr
  split at hr
  · rename_i d y hd hy
    simp only [Option.some.injEq] at hr;subst hr
    simp only [bh]
    exact⟨v,bI,rfl,by rw [oH];exact CC t x v d h1 hd,by rw [tu];exact oI ts xs bI y h2 hy⟩
  · cases hr
 | [],_::_,_,_,_,hr=>by simp [jW] at hr
 |_::_,[],_,_,_,hr=>by simp [jW] at hr
theorem Az:∀(ts:List Ty) (r:Row ts) (j:Nat) (x:AV) (cs:List Value) (v:Value) (r':Row ts),bh w A ts cs r→aa w A β v x→setRow ts r j x=some r'→bh w A ts (cs.set j v) r'∧j<cs.length
 | [],_,_,_,_,_,_,_,_,hr=>by simp [setRow] at hr
 |t::ts,r,0,x,cs,v,r',h,hx,hr=>by
  simp only [bh] at h
  obtain⟨u,eN,rfl,h1,h2⟩:=h
  simp only [setRow] at hr
  split at hr
  · rename_i d hd
    simp only [Option.some.injEq] at hr;subst hr
    simp only [bh,List.set_cons_zero]
    exact⟨⟨v,eN,rfl,by rw [oH];exact CC t x v d hx hd,by rw [tu];exact h2⟩,by simp⟩
  · cases hr
 |t::ts,r,j+1,x,cs,v,r',h,hx,hr=>by
  simp only [bh] at h
  obtain⟨u,eN,rfl,h1,h2⟩:=h
  simp only [setRow] at hr
  split at hr
  · rename_i y hy
    simp only [Option.some.injEq] at hr;subst hr
    obtain⟨g1,g2⟩:=Az ts _ j x eN v y h2 hx hy
    simp only [bh,List.set_cons_succ]
    exact⟨⟨u,_,rfl,by rw [oH];exact h1,by rw [tu];exact g1⟩,by simp [g2]⟩
  · cases hr
theorem J1(cs:List Value)(j:Nat)(v:Value)(us:List Value)(h:j<cs.length):(cs.set j v).take (j+1)++us++(cs.set j v).drop (j+1+us.length)=cs.take j++(v::us)++cs.drop (j+(v::us).length):=by
 have e1:(cs.set j v).take (j+1)=cs.take j++ [v]:=by
  rw [List.take_succ_eq_append_getElem (by simpa using h)]
  simp [List.take_set_of_le]
 have e2:(cs.set j v).drop (j+1+us.length)=cs.drop (j+(us.length+1)):=by
  rw [List.drop_set_of_lt (by omega)]
  congr 1;omega
 rw [e1,e2];simp
theorem rQ(ts:List Ty):∀(xs:List AV) (r:Row ts) (j:Nat) (cs us:List Value) (r':Row ts),bh w A ts cs r→ae w A β us xs→mT ts r j xs=some r'→bh w A ts (cs.take j++us++cs.drop (j+us.length)) r'∧(us≠ []→j+us.length≤cs.length)
 | [],r,j,cs,us,r',h,hx,hr=>by
   simp only [ae] at hx;subst hx
   simp only [mT,Option.some.injEq] at hr;subst hr
   simpa using h
 |x::xs,r,j,cs,us,r',h,hx,hr=>by
  simp only [ae] at hx
  obtain⟨v,wJ,rfl,h1,h2⟩:=hx
  simp only [mT] at hr
  split at hr
  · rename_i y hy
    obtain⟨g1,g2⟩:=Az ts r j x cs v y h h1 hy
    obtain⟨f1,f2⟩:=rQ ts xs y (j+1) (cs.set j v) wJ r' g1 h2 hr
    rw [J1 cs j v wJ g2] at f1
    refine⟨f1,fun _=> ?_⟩
    by_cases hu:wJ= []
    · subst hu;simp;omega
    · have :=f2 hu;simp at this ⊢;omega
  · cases hr
theorem oh(hB:aD C A β st a w) {x:AV} {v:Value}(h:aa w A β v x)(hA:∀b,A b→A' b)(kN:∀k∈(fj st.h x).2,∀b,aw (β k)=some b→A' b):
  aa w A' β v (fj st.h x).1∧∀k∈(fj st.h x).2,∃e row l fr,st.h k=some (.row e row l fr):=by
 have hK:cM w w A A':=fun b hb=>⟨hA b hb,rfl⟩
 unfold fj at kN ⊢
 split at kN
 · rename_i k
   simp only [aa] at h
   split at kN
   · rename_i e row l fr hk
     refine⟨?_,fun j hj=>by simp at hj;subst hj;exact⟨e,row,l,fr,hk⟩⟩
     simp only [aa,Rd]
     rcases kM hB hk with⟨g1,g2⟩|⟨b,cap,cs,g1,g2,g3,g4,g5⟩
     · subst g2;rw [h.1,g1];exact⟨none,0,[],rfl,by simp,by simp,by simp [bZ],by simp⟩
     · rw [h.1,g1]
       exact⟨_,cap,cs,rfl,g2,g3,bC (fun c x hx=>bD hK row c x hx) l cs g4,fun _=>⟨b,0,rfl,kN k (by simp) b (by rw [g1];rfl),g5⟩⟩
   · exact⟨by simp [aa],by simp⟩
 · rename_i k n
   simp only [aa] at h
   split at kN
   · rename_i e row l fr hk
     refine⟨?_,fun j hj=>by simp at hj;subst hj;exact⟨e,row,l,fr,hk⟩⟩
     simp only [aa,Rd]
     rcases h with⟨h1,h2,h3⟩|⟨b',m,gT,h1,h2,h3⟩
     · subst h3;rw [h2];exact⟨none,0,[],by simp,by simp,by simp,by simp [bZ],by simp⟩
     · rcases kM hB hk with⟨g1,g2⟩|⟨b,cap,cs,g1,g2,g3,g4,g5⟩
       · rw [g1] at h1;cases h1
       · rw [g1] at h1
         simp only [Value.slice.injEq,Option.some.injEq,Addr.mk.injEq,and_true] at h1
         obtain⟨rfl,rfl,rfl⟩:=h1
         have hl:(l.take n).length=n:=by simp;omega
         refine⟨_,cap,cs.take (n*row.length),by rw [h2,hl],by rw [hl];omega,g3,bC (fun c x hx=>bD hK row c x hx) _ _ (dQ l cs n g4).1,fun _=>⟨b,0,rfl,kN k (by simp) b (by rw [g1];rfl),gz g5⟩⟩
   · exact⟨by simp [aa],by simp⟩
 · rename_i k sz off n
   simp only [aa] at h
   split at kN
   · rename_i e row l fr hk
     cases cR:Nat.beq sz row.length with
     |false=>exact⟨by simp [aa],by simp⟩
     |true=>
      simp only [cR,cond_true] at kN ⊢
      have cR:=Nat.eq_of_beq_eq_true cR
      subst cR
      refine⟨?_,fun j hj=>by simp at hj;subst hj;exact⟨e,row,l,fr,hk⟩⟩
      simp only [aa,Rd]
      rcases h with⟨hn,ad,cap,h2,zr⟩|⟨b',m,gT,ta,h1,h2,h3,h4,h5⟩
      · subst hn;rw [h2];exact⟨ad,cap,[],by simp,by simp,zr,by simp [bZ],by simp⟩
      · rcases kM hB hk with⟨g1,g2⟩|⟨b,cap,cs,g1,g2,g3,g4,g5⟩
        · rw [g1] at h1;cases h1
        · rw [g1] at h1
          simp only [Value.slice.injEq,Option.some.injEq,Addr.mk.injEq,and_true] at h1
          obtain⟨rfl,rfl,rfl⟩:=h1
          have hl:((l.drop off).take n).length=n:=by simp;omega
          refine⟨_,ta,(cs.drop (off*row.length)).take (n*row.length),by rw [h2,hl],by rw [hl];omega,by omega,bC (fun c x hx=>bD hK row c x hx) _ _ (dQ _ _ n (dQ l cs off g4).2).1,fun _=>⟨b,_,rfl,kN k (by simp) b (by rw [g1];rfl),?_⟩⟩
          have :=gz (n:=n*row.length) (mB (n:=off*row.length) g5)
          simpa using this
   · exact⟨by simp [aa],by simp⟩
 · exact⟨il hK _ _ h,by simp⟩
end
end Go.Vg

end
section
namespace Go.Vg
open Go
section
variable {P:Program} {C:Ctx} {A A':Nat→Prop} {β:Nat→Value} {st:St} {a:Act} {w:World} {T:bW}
theorem Gf(hB:aD C A β st a w)(hA:∀b,A b→A' b):∀(xs:List AV) (vs:List Value),ae w A β vs xs→(∀k∈(lf st.h xs).2,∀b,aw (β k)=some b→A' b)→
  ae w A' β vs (lf st.h xs).1∧∀k∈(lf st.h xs).2,∃e row l fr,st.h k=some (.row e row l fr)
 | [],vs,h,_=>by simp only [ae] at h;subst h;simp [lf,ae]
 |x::xs,vs,h,kN=>by
  simp only [ae] at h
  obtain⟨v,bI,rfl,h1,h2⟩:=h
  simp only [lf] at kN ⊢
  obtain⟨p1,p2⟩:=oh hB h1 hA (fun k hk=>kN k (by simp [hk]))
  obtain⟨q1,q2⟩:=Gf hB hA xs bI h2 (fun k hk=>kN k (by simp [hk]))
  refine⟨by simp only [ae];exact⟨v,bI,rfl,p1,q1⟩,fun k hk=> ?_⟩
  rcases List.mem_append.1 hk with hk|hk
  · exact p2 k hk
  · exact q2 k hk
theorem tv(hB:aD C A β st a w)(hA:∀b,A b→A' b)(x:AV)(v:Value)(h:aa w A β v x)(kN:∀k∈(lQ st.h x).2,∀b,aw (β k)=some b→A' b):
  aa w A' β v (lQ st.h x).1∧∀k∈(lQ st.h x).2,∃e row l fr,st.h k=some (.row e row l fr):=by
 unfold lQ at kN ⊢
 split at kN
 · rename_i cs
   simp only [aa] at h
   obtain⟨arr,rfl,h⟩:=h
   obtain⟨p1,p2⟩:=Gf hB hA cs _ h kN
   exact⟨by simp only [aa];exact⟨arr,rfl,p1⟩,p2⟩
 · exact oh hB h hA kN
theorem zv(hB:aD C A β st a w)(hA:∀b,A b→A' b):∀(xs:List AV) (vs:List Value),ae w A β vs xs→(∀k∈(je st.h xs).2,∀b,aw (β k)=some b→A' b)→
  ae w A' β vs (je st.h xs).1∧∀k∈(je st.h xs).2,∃e row l fr,st.h k=some (.row e row l fr)
 | [],vs,h,_=>by simp only [ae] at h;subst h;simp [je,ae]
 |x::xs,vs,h,kN=>by
  simp only [ae] at h
  obtain⟨v,bI,rfl,h1,h2⟩:=h
  simp only [je] at kN ⊢
  obtain⟨p1,p2⟩:=tv hB hA x v h1 (fun k hk=>kN k (by simp [hk]))
  obtain⟨q1,q2⟩:=zv hB hA xs bI h2 (fun k hk=>kN k (by simp [hk]))
  refine⟨by simp only [ae];exact⟨v,bI,rfl,p1,q1⟩,fun k hk=> ?_⟩
  rcases List.mem_append.1 hk with hk|hk
  · exact p2 k hk
  · exact q2 k hk
theorem xZ {h:aO}:∀(xs:List AV),(lf h xs).1.length=xs.length
 | []=>rfl
 |x::xs=>by simp [lf,xZ xs]
theorem pN {h:aO}(x:AV):(lQ h x).1.cells.length=x.cells.length:=by
 unfold lQ
 split
 · simp [AV.cells,xZ]
 · rename_i hna
   have hz:x.cells.length=1:=by cases x<;>first|rfl|exact absurd rfl (hna _)
   rw [hz]
   unfold fj
   split
   · split<;>rfl
   · split<;>rfl
   · split
     · rename_i sz _ _ _ _ rr _ _ _;cases Nat.beq sz rr.length<;>rfl
     · rfl
   · exact hz
theorem CD {x:AV} {v:Value}(h:aa w A β v x) {row:List Ty} {r r':Row row} {cs:List Value} {j:Nat}(hr:bh w A row cs r)(hs:mT row r j x.cells=some r'):
  ae w A β v.cells.toList x.cells∧bh w A row (cs.take j++v.cells.toList++cs.drop (j+v.cells.toList.length)) r'∧(∀u∈v.cells.toList,u.oneCell'=true)∧(v.cells.toList≠ []→j+v.cells.toList.length≤cs.length)∧v.cells.size=x.cells.length:=by
 have key:∀us,ae w A β us x.cells→bh w A row (cs.take j++us++cs.drop (j+us.length)) r'∧(∀u∈us,u.oneCell'=true)∧(us≠ []→j+us.length≤cs.length):=by
  intro us nD
  obtain⟨f1,f2⟩:=rQ row x.cells r j cs us r' hr nD hs
  exact⟨f1,fun u hu=>th row _ r' f1 u (by simp [hu]),f2⟩
 by_cases hx:∃cs,x= .agg cs
 · obtain⟨xs,rfl⟩:=hx
   simp only [aa] at h
   obtain⟨arr,rfl,h⟩:=h
   obtain⟨k1,k2,k3⟩:=key arr.toList h
   exact⟨h,k1,k2,k3,by simpa [Value.cells,AV.cells] using cX xs _ h⟩
 · have hc:x.cells= [x]:=by cases x<;>first|rfl|exact absurd ⟨_,rfl⟩ hx
   have nD:ae w A β [v] x.cells:=by rw [hc];simp only [ae];exact⟨v,[],rfl,h,rfl⟩
   obtain⟨k1,k2,k3⟩:=key [v] nD
   have h1:=k2 v (by simp)
   rw [cells_one h1]
   exact⟨nD,k1,k2,k3,by rw [hc];rfl⟩
theorem CE {row:List Ty} {l:List (Row row)} {i j:Nat} {cur:Array Value} {us:List Value} {y:Row row}(hi:i<l.length)(hL:bZ (bh w A row) (cur.toList.take (l.length*row.length)) l)
  (hy:∀c,bh w A row c l[i]→bh w A row (c.take j++us++c.drop (j+us.length)) y∧(us≠ []→j+us.length≤c.length)) (c7:l.length*row.length≤cur.size):
  let new:=(cur.toList.take (i*row.length+j)++us++cur.toList.drop (i*row.length+j+us.length)).toArray
  new.size=cur.size∧bZ (bh w A row) (new.toList.take (l.length*row.length)) (l.set i y)∧i*row.length+j+us.length≤cur.size∨us= []:=by
 intro new
 by_cases nD:us= []
 · exact .inr nD
 left
 obtain⟨c1,c,c2,e1,e2,e3,e4,e5⟩:=oB l _ i hi hL
 obtain⟨f1,f2⟩:=hy c e3
 have f2:=f2 nD
 have hc:=fE row c _ e3
 have gn:(cur.toList.take (l.length*row.length)).length=l.length*row.length:=by rw [List.length_take];simp;omega
 have eB:i*row.length+row.length≤l.length*row.length:=by
  have :(i+1)*row.length≤l.length*row.length:=Nat.mul_le_mul_right _ hi
  rwa [Nat.add_mul,Nat.one_mul] at this
 have oD:i*row.length+j+us.length≤cur.size:=by omega
 refine⟨by simp [new];omega,?_,oD⟩
 have BU:cur.toList=c1++(c++c2)++cur.toList.drop (l.length*row.length):=by rw [←e1,List.take_append_drop]
 have de:new.toList=c1++((c.take j++us++c.drop (j+us.length))++c2)++cur.toList.drop (l.length*row.length):=by
  have t1:cur.toList.take (i*row.length+j)=c1++c.take j:=by
   rw [BU,←e2,List.append_assoc,List.take_length_add_append,List.append_assoc,List.take_append_of_le_length (by omega)]
  have t2:cur.toList.drop (i*row.length+j+us.length)=c.drop (j+us.length)++c2++cur.toList.drop (l.length*row.length):=by
   conv=>lhs;rw [BU]
   rw [show i*row.length+j+us.length=c1.length+(j+us.length) by omega,List.append_assoc,List.drop_length_add_append,List.append_assoc,List.drop_append_of_le_length (by omega),List.append_assoc]
  simp only [new,t1,t2]
  simp
 rw [de]
 have ad3:(c1++((c.take j++us++c.drop (j+us.length))++c2)).length=l.length*row.length:=by
  have :=congrArg List.length e1
  rw [gn] at this
  simp at this ⊢
  omega
 rw [←ad3,List.take_left]
 have sJ:l.set i y=l.take i++(y::l.drop (i+1)):=by
  rw [List.set_eq_take_append_cons_drop,if_pos hi]
 rw [sJ]
 exact gl _ _ _ _ e4 ⟨_,c2,rfl,f1,e5⟩
theorem x4(hT:bw T P)(hB:aD C A β st a w) {dst:Option Nat}(hd:∀t,dst=some t→t<st.n) {t:TypeId} {k sz i j:Nat} {x:AV} {vp vx:Value}(hp:aa w A β vp (.elem k sz i j))(hx:aa w A β vx x) {out:Out}
  (h:gQ T st.h t (.elem k sz i j) x=some out) (hc:∀p∈out.cond,p):∃w',(Instr.storeAt t vp vx).run P w= .ok () w'∧Rel C (st.put dst out) (a.put dst undef) w':=by
 simp only [gQ] at h
 split at h
 · rename_i e row l hk
   cases hq:(Nat.beq sz row.length&&jE T t x.cells.length&&Nat.blt 0 x.cells.length) with
   |false=>simp [hq] at h
   |true=>
    simp only [hq,cond_true] at h
    simp only [Bool.and_eq_true] at hq
    obtain⟨⟨q1,q2⟩,q3⟩:=hq
    have q3:=Nat.le_of_ble_eq_true q3
    have q1:=Nat.eq_of_beq_eq_true q1
    subst q1
    split at h
    · rename_i y hy
      cases CF:(lQ st.h x).2.elem k with
      |true=>rw [CF] at h;simp at h
      |false=>
       rw [CF] at h
       simp only [cond_false,Option.some.injEq] at h
       subst h
       have hi:i<l.length:=dI hc
       rw [getD_eq l _ _ hi] at hy
       simp only [aa] at hp
       obtain⟨b,m,cap,bX,rfl⟩:=hp
       rcases ej hB hk with⟨_,hl⟩|⟨b',gT,cur,hv,hg,hle,qW,c7,hL,jb⟩
       · subst hl;simp at hi
       · rw [bX] at hv
         simp only [Value.slice.injEq,Option.some.injEq,Addr.mk.injEq,and_true] at hv
         obtain⟨rfl,rfl,rfl⟩:=hv
         simp only [Bool.false_eq_true,if_false] at jb
         have hb:aw (β k)=some b:=by rw [bX];rfl
         obtain⟨ii,gH,nK⟩:=oG hT q2
         let A1:Nat→Prop :=fun b'=>A b'∨∃j∈(lQ st.h x).2,aw (β j)=some b'
         obtain⟨px,pk⟩:=tv (A':=A1) hB (fun b h=> .inl h) x vx hx (fun k hk b hb=> .inr ⟨k,hk,hb⟩)
         have hKA:cM w w A A1:=fun b h=>⟨.inl h,rfl⟩
         have Ā:bZ (bh w A1 row) (cur.toList.take (l.length*row.length)) l:=bC (fun c x hx=>bD hKA row c x hx) l _ hL
         have ya:l.length*row.length≤cur.size:=by rw [c7];exact Nat.mul_le_mul_right _ hle
         have hyy:∀c,bh w A1 row c l[i]→bh w A1 row (c.take j++vx.cells.toList++c.drop (j+vx.cells.toList.length)) y∧(vx.cells.toList≠ []→j+vx.cells.toList.length≤c.length):=
          fun c hc=>let h:=CD px hc hy;⟨h.2.1,h.2.2.2.1⟩
         obtain⟨c1,c,c2,e1,e2,e3,e4,e5⟩:=oB l _ i hi Ā
         have yb:=CD px e3 hy
         have nB:vx.cells.size=ii.size:=by
          have h1:=yb.2.2.2.2
          have h2:=pN (h:=st.h) x
          omega
         rcases CE hi Ā hyy ya with⟨g1,g2,g3⟩|nD
         · refine⟨_,lu gH nB yb.2.2.1 hg (by simpa using g3),?_⟩
           refine hB.write hd (k:=k) (fz:=(lQ st.h x).2) (ab:= .row e row (l.set i y) false) (by simp [hk]) hb jb hg ⟨rfl,rfl,rfl⟩ (fun q hq=>⟨?_,pk q hq⟩) ?_ (by simp [aa])
           · rintro rfl;rw [List.elem_eq_mem] at CF;simp [hq] at CF
           · intro A2 h1 h2 h3
             have hK:cM w (w.setRow b (cur.toList.take (i*row.length+j)++vx.cells.toList++cur.toList.drop (i*row.length+j+vx.cells.toList.length)).toArray) A1 A2:=by
              intro b' bz
              rcases bz with bz|⟨q,hq,vI⟩
              · exact⟨h1 b' bz,setRow_other w b b' _ (fun h'=>jb (h'▸bz))⟩
              · refine⟨h3 q hq b' vI,setRow_other w b b' _ (fun h'=> ?_)⟩
                subst h'
                obtain⟨e',ik,l',zg,k9⟩:=pk q hq
                have :q=k:=hB.apart q k b' (by simp [k9]) (by simp [hk]) vI hb
                subst this
                rw [List.elem_eq_mem] at CF;simp [hq] at CF
             refine⟨_,⟨?_, .inr ⟨b,cap,_,by rw [bX];simp,by omega,setRow_heap w b cur _ e _ hg,by simpa using hle,qW,g1.trans c7,rfl⟩⟩,?_,fun b' bz=> ?_⟩
             · rw [List.length_take]
               refine Nat.min_eq_left ?_
               rw [List.length_set]
               exact Nat.le_trans ya (Nat.le_of_eq g1.symm)
             · simp only [List.length_set]
               exact bC (fun c x hx=>bD hK row c x hx) _ _ g2
             · rw [hb] at bz;simp only [Option.some.injEq] at bz;subst bz
               simp only [Bool.false_eq_true,if_false]
               intro CB
               rcases h2 _ CB with h|⟨q,hq,vI⟩
               · exact jb h
               · obtain⟨e',ik,l',zg,k9⟩:=pk q hq
                 have :q=k:=hB.apart q k _ (by simp [k9]) (by simp [hk]) vI hb
                 subst this
                 rw [List.elem_eq_mem] at CF;simp [hq] at CF
         · exfalso
           have h1:=yb.2.2.2.2
           have h2:=pN (h:=st.h) x
           have h3:vx.cells.size=0:=by simpa using congrArg List.length nD
           omega
    · cases h
 · cases h
end
end Go.Vg

end
section
namespace Go.Vg
open Go
section
variable {P:Program} {C:Ctx} {A A':Nat→Prop} {β:Nat→Value} {st:St} {a:Act} {w:World} {T:bW}
theorem du {d k:Nat} {ab b:AB}(h:ao [(d,ab)] k=some b):k=d∧b=ab:=by
 simp only [ao] at h
 by_cases hk:k=d
 · subst hk;simp only [bE,cond_true,Option.some.injEq] at h;exact⟨rfl,h.symm⟩
 · simp [aN hk] at h
theorem l9(o:Obj)(k:Nat)(hk:k<w.heap.size):(w.alloc o).heap[k]? =w.heap[k]? :=heap_alloc_old w o k hk
theorem aD.Gg(hB:aD C A β st a w) {dst:Option Nat}(hd:∀t,dst=some t→t<st.n) {d e:Nat} {cs:List AV} {arr:Array Value} {cond:List Prop}
  (fq:st.h d=none∧nO d=false) (hrel:ae w A β arr.toList cs) (gG:∀v∈arr.toList,v.oneCell'=true):
  aD C A (bG β d (.pointer (some ⟨w.heap.size,0,none⟩))) (st.put dst {cond:=cond,res:= .ref d 0,new:= [(d, .cells (eT d cs))]}) (a.put dst (.pointer (some ⟨w.heap.size,0,none⟩))) (w.alloc (.cells arr e)):=by
 have hK:cM w (w.alloc (.cells arr e)) A A:=fun b hb=>⟨hb,l9 _ b (hB.bound b hb)⟩
 have bX:∀k,ao [(d,AB.cells (eT d cs))] k=none→bG β d (.pointer (some ⟨w.heap.size,0,none⟩)) k=β k:=by
  intro k h
  have :k≠d:=by rintro rfl;simp [ao] at h
  simp [bG,this]
 refine hB.step (out:= {cond:=cond,res:= .ref d 0,new:= [(d, .cells (eT d cs))]}) hd ?_ (by simp [ao]) bX hK rfl rfl rfl (by simp) (fun b hb _=>l9 _ b hb) (fun b hb=>by have :=hB.bound b hb;simp;omega) (fun b hb=> .inl hb) (by simp [ao]) ?_ ?_ ?_ ?_
 · intro k b h;obtain⟨rfl,_⟩:=du h;exact fq
 · intro k ab h
   obtain⟨rfl,rfl⟩:=du h
   refine⟨w.heap.size,arr,e,by simp [bG],heap_alloc_new w _,fun h=>absurd (hB.bound _ h) (by omega),fC k _ _ _ (eb hK _ _ hrel),gG⟩
 · intro k b ab h hb
   obtain⟨rfl,_⟩:=du h
   simp only [bG,if_true,aw,Option.some.injEq] at hb
   exact .inl (by omega)
 · intro k k' b h h' _ _
   obtain⟨x,hx⟩:=Option.isSome_iff_exists.1 h
   obtain⟨y,hy⟩:=Option.isSome_iff_exists.1 h'
   rw [(du hx).1,(du hy).1]
 · simp only [aa]
   exact⟨w.heap.size,by simp [bG],rfl⟩
theorem gA {h:aO}:∀(fz:List Nat) j x,ao (cd h fz) j=some x→j∈fz∧∃e row l fr,h j=some (.row e row l fr)∧x= .row e row l true :=by
 intro fz
 induction fz with
 |nil=>intro j x h;simp [cd,ao] at h
 |cons i fz ih=>
  intro j x h
  simp only [cd] at h
  split at h
  · rename_i e row l fr hi
    simp only [ao] at h
    by_cases zt:j=i
    · subst zt
      simp only [bE,cond_true,Option.some.injEq] at h
      exact⟨by simp,e,row,l,fr,hi,h.symm⟩
    · simp only [aN zt,cond_false] at h
      obtain⟨h1,h2⟩:=ih j x h
      exact⟨by simp [h1],h2⟩
  · obtain⟨h1,h2⟩:=ih j x h
    exact⟨by simp [h1],h2⟩
theorem mE {h:aO}:∀(fz:List Nat) j,j∈fz→(∃e row l fr,h j=some (.row e row l fr))→(ao (cd h fz) j).isSome:=by
 intro fz
 induction fz with
 |nil=>intro j h;simp at h
 |cons i fz ih=>
  intro j h hr
  simp only [cd]
  by_cases zt:j=i
  · subst zt
    obtain⟨e,row,l,fr,hr⟩:=hr
    simp [hr,ao]
  · have :=ih j ((List.mem_cons.1 h).resolve_left zt) hr
    split
    · simp only [ao,aN zt,cond_false];exact this
    · exact this
def bL(A:Nat→Prop)(β:Nat→Value)(fz:List Nat):Nat→Prop :=fun b=>A b∨∃j∈fz,aw (β j)=some b
theorem ke(hB:aD C A β st a w) {j b':Nat}(hj:(st.h j).isSome)(bz:aw (β j)=some b'):b'<w.heap.size:=by
 obtain⟨ab,fk⟩:=Option.isSome_iff_exists.1 hj
 have fK:=hB.blocks j ab fk
 cases ab with
 |arr row l=>
  obtain⟨b'',arr,e,h1,h2,_⟩:=fK
  rw [h1] at bz
  simp only [aw,Option.some.injEq] at bz
  subst bz
  exact(Array.getElem?_eq_some_iff.1 h2).1
 |cells cs=>
  obtain⟨b'',arr,e,h1,h2,_⟩:=fK
  rw [h1] at bz
  simp only [aw,Option.some.injEq] at bz
  subst bz
  exact(Array.getElem?_eq_some_iff.1 h2).1
 |row e row l fr=>
  obtain⟨xs,h1,_⟩:=fK
  rcases h1.2 with⟨hn,_⟩|⟨g,cap,cur,hv,_,hg,_⟩
  · rw [hn] at bz;simp [aw] at bz
  · rw [hv] at bz
    simp only [aw,Option.some.injEq] at bz
    subst bz
    exact(Array.getElem?_eq_some_iff.1 hg).1
 |gj e j row l i=>
  obtain⟨xs,v0,h1,_⟩:=fK
  rcases h1.2 with⟨hn,_⟩|⟨g,cap,cur,hv,_,hg,_⟩
  · rw [hn] at bz;simp [aw] at bz
  · rw [hv] at bz
    simp only [aw,Option.some.injEq] at bz
    subst bz
    exact(Array.getElem?_eq_some_iff.1 hg).1
 |views e j n m sz=>
  obtain⟨xs,h1,_⟩:=fK
  rcases h1.2 with⟨hn,_⟩|⟨g,cap,cur,hv,_,hg,_⟩
  · rw [hn] at bz;simp [aw] at bz
  · rw [hv] at bz
    simp only [aw,Option.some.injEq] at bz
    subst bz
    exact(Array.getElem?_eq_some_iff.1 hg).1
theorem aD.J2(hB:aD C A β st a w) {dst:Option Nat}(hd:∀t,dst=some t→t<st.n) {d e:Nat} {row:List Ty} {l:List (Row row)} {cond:List Prop} {fz:List Nat} {v':Value} {w':World} {xs:List Value}
  (fq:st.h d=none∧nO d=false) (hg:w.grownBy w' none) (wO:∀j∈fz,∃e row l fr,st.h j=some (.row e row l fr))
  (fG:w'.ownsRow 0 e row.length v' l.length xs) (qv:bZ (bh w (bL A β fz) row) xs l) (hblk:∀b,aw v'=some b→w.heap.size≤b):
  aD C (bL A β fz) (bG β d v') (st.put dst {cond:=cond,res:= .own d,ga:=cd st.h fz,new:= [(d, .row e row l false)]}) (a.put dst v') w':=by
 have Mx:∀b,bL A β fz b→b<w.heap.size:=by
  intro b h
  rcases h with h|⟨j,hj,hb⟩
  · exact hB.bound b h
  · obtain⟨e',r',l',f',hr⟩:=wO j hj
    exact ke hB (by simp [hr]) hb
 have hK:cM w w' A (bL A β fz):=fun b hb=>⟨.inl hb,hg.block b (hB.bound b hb) (by simp)⟩
 have ā:cM w w' (bL A β fz) (bL A β fz):=fun b hb=>⟨hb,hg.block b (Mx b hb) (by simp)⟩
 have bX:∀k,ao [(d,AB.row e row l false)] k=none→bG β d v' k=β k:=by
  intro k h
  have :k≠d:=by rintro rfl;simp [ao] at h
  simp [bG,this]
 refine hB.step (out:= {cond:=cond,res:= .own d,ga:=cd st.h fz,new:= [(d, .row e row l false)]}) hd ?_ ?_ bX hK hg.os hg.tape hg.output hg.size (fun b hb _=>hg.block b hb (by simp)) (fun b hb=>Nat.lt_of_lt_of_le (Mx b hb) hg.size) ?_ ?_ ?_ ?_ ?_ ?_
 · intro k b h;obtain⟨rfl,_⟩:=du h;exact fq
 · intro k b h;obtain⟨_,_,_,_,_,h,_⟩:=gA fz k b h;simp [h]
 · intro b h
   rcases h with h|⟨j,hj,hb⟩
   · exact .inl h
   · have hr:=wO j hj
     exact .inr (.inr ⟨j,⟨by obtain⟨_,_,_,_,hr⟩:=hr;simp [hr], .inl (mE fz j hj hr)⟩,hb⟩)
 · intro k ab h _
   obtain⟨hk,e',ik,l',zg,hr,rfl⟩:=gA fz k ab h
   rw [jF]
   have H9:k≠d:=by rintro rfl;rw [fq.1] at hr;cases hr
   have wI:bG β d v' k=β k:=by simp [bG,H9]
   obtain⟨xs',h1,h2,h3⟩:=hB.blocks k _ hr
   simp only [BR,wI]
   refine⟨xs',fD h1 (fun b hb=>hg.block b (ke hB (by simp [hr]) hb) (by simp)),bC (fun c x hx=>bD hK ik c x hx) l' xs' h2,fun b hb=> ?_⟩
   simp only [if_true]
   exact .inr ⟨k,hk,hb⟩
 · intro k ab h
   obtain⟨rfl,rfl⟩:=du h
   refine⟨xs,by simpa [bG] using fG,bC (fun c x hx=>bD ā row c x hx) l xs qv,fun b hb=> ?_⟩
   simp only [bG,if_true] at hb
   simp only [Bool.false_eq_true,if_false]
   intro hA;exact absurd (Mx b hA) (by have :=hblk b hb;omega)
 · intro k b ab h hb
   obtain⟨rfl,_⟩:=du h
   simp only [bG,if_true] at hb
   exact .inl (hblk b hb)
 · intro k k' b h h' _ _
   obtain⟨x,hx⟩:=Option.isSome_iff_exists.1 h
   obtain⟨y,hy⟩:=Option.isSome_iff_exists.1 h'
   rw [(du hx).1,(du hy).1]
 · simp only [aa,bG,if_true,true_and]
   obtain⟨ad,l',c,rfl⟩:=oF fG
   rfl
theorem Il(hT:bw T P)(hB:aD C A β st a w) {dst:Option Nat}(hd:∀t,dst=some t→t<st.n) {d:Nat}(fq:st.h d=none∧nO d=false) {t:TypeId} {te:TE}(ht:T.find t=some te)(gG:(ofConst te.zero).cells.all AV.one=true):
  ∃v' w',(Instr.alloc t true (.tuple #[])).run P w= .ok v' w'∧Rel C (st.put dst {cond:= [],res:= .ref d 0,new:= [(d, .cells (eT d (ofConst te.zero).cells))]}) (a.put dst v') w':=by
 obtain⟨hu,i,hi,hs,hb,hz⟩:=hT.ok t te ht
 obtain⟨c1,c2,c3⟩:=rP gG (rJ (w:=w) (A:=A) (β:=β) te.zero)
 refine⟨.pointer (some ⟨w.heap.size,0,none⟩),w.alloc (.cells te.zero.cells t),?_,Rel.jY (hB.Gg hd fq c1 c2)⟩
 simp [Instr.alloc,zeroValue,typeInfo,hi,hz,newVar,newRow]
theorem My(hB:aD C A β st a w) {dst:Option Nat}(hd:∀t,dst=some t→t<st.n) {d:Nat}(fq:st.h d=none∧nO d=false) {t:TypeId} {x:AV} {v:Value}(hx:aa w A β v x)(gG:x.cells.all AV.one=true):
  ∃v' w',(Instr.box t v).run P w= .ok v' w'∧Rel C (st.put dst {cond:= [],res:= .ref d 0,new:= [(d, .cells (eT d x.cells))]}) (a.put dst v') w':=by
 obtain⟨c1,c2,c3⟩:=rP gG hx
 refine⟨.pointer (some ⟨w.heap.size,0,none⟩),w.alloc (.cells v.cells t),?_,Rel.jY (hB.Gg hd fq c1 c2)⟩
 simp [Instr.box,newVar,newRow]
theorem AA(off:Nat):∀(l:List Value) (k:Nat) (arr:Array Value),off+k+l.length≤arr.size→
  ((l.zipIdx k).foldl (fun cs (x:Value×Nat)=>cs.setIfInBounds (off+x.2) x.1) arr).toList=arr.toList.take (off+k)++l++arr.toList.drop (off+k+l.length)
 | [],k,arr,_=>by simp
 |v::l,k,arr,h=>by
  simp only [List.zipIdx_cons,List.foldl_cons]
  rw [AA off l (k+1) _ (by simp at h ⊢;omega)]
  have e:=list_seg_step arr.toList (off+k) v l (by simp at h ⊢;omega)
  simpa [Array.toList_setIfInBounds,Nat.add_assoc] using e
theorem uY(place:Nat→Option (Nat×Nat)):∀(parts:List (Nat×AV)) (gp:List (Nat×Value)) (cs:List AV) (arr:Array Value) (r:List AV),ae w A β arr.toList cs→
  gp.map (·.1)=parts.map (·.1)→ae w A β (gp.map (·.2)) (parts.map (·.2))→wD place cs parts=some r→
  ∃pO,Instr.fill place arr gp=some pO∧ae w A β pO.toList r
 | [],[],cs,arr,r,h,_,_,hr=>by
   simp only [wD,Option.some.injEq] at hr;subst hr
   exact⟨arr,rfl,h⟩
 |(i,x)::parts,(i',v)::gp,cs,arr,r,h,hk,hv,hr=>by
  simp only [List.map_cons,List.cons.injEq] at hk
  obtain⟨hi,hk⟩:=hk
  subst hi
  simp only [List.map_cons,ae] at hv
  obtain⟨v0,CG,h0,h1,h2⟩:=hv
  simp only [List.cons.injEq] at h0
  obtain⟨rfl,rfl⟩:=h0
  simp only [wD] at hr
  split at hr
  · cases hr
  · rename_i off size hp
    cases hq:(Nat.beq x.cells.length size&&Nat.ble (off+size) cs.length&&x.cells.all AV.one) with
    |false=>simp [hq] at hr
    |true=>
     simp only [hq,cond_true] at hr
     simp only [Bool.and_eq_true] at hq
     obtain⟨⟨q1,q2⟩,q3⟩:=hq
     have q1:=Nat.eq_of_beq_eq_true q1
     have q2:=Nat.le_of_ble_eq_true q2
     obtain⟨c1,c2,c3⟩:=rP q3 h1
     have hlen:=cX cs _ h
     have CA:=tp (off:=off) h c1
     have ad5:(v.cells.zipIdx.foldl (fun cs (x:Value×Nat)=>cs.setIfInBounds (off+x.2) x.1) arr).toList=arr.toList.take off++v.cells.toList++arr.toList.drop (off+v.cells.toList.length):=by
      have :=AA off v.cells.toList 0 arr (by simp;simp at hlen;omega)
      simp only [Nat.add_zero] at this
      rw [←this,←Array.foldl_toList,Array.toList_zipIdx]
     obtain⟨pO,g1,g2⟩:=uY place parts gp _ (v.cells.zipIdx.foldl (fun cs (x:Value×Nat)=>cs.setIfInBounds (off+x.2) x.1) arr) r (by rw [ad5];exact CA) hk h2 hr
     refine⟨pO,?_,g2⟩
     simp only [Instr.fill,hp]
     rw [if_neg (by simp;simp at hlen;omega)]
     exact g1
 | [],_::_,_,_,_,_,hk,_,_=>by simp at hk
 |_::_,[],_,_,_,_,hk,_,_=>by simp at hk
end
end Go.Vg

end
section
namespace Go.Vg
open Go
section
variable {P:Program} {C:Ctx} {A A':Nat→Prop} {β:Nat→Value} {st:St} {a:Act} {w:World} {T:bW}
theorem run_places(hT:bw T P):∀(fs:List Field) (ps:List (Nat×Nat)),placesOf T fs=some ps→
  (List.mapM (m:=Sem) (fun(f:Field)=>do pure (f.offset,←sizeOf f.type)) fs).run P w= .ok ps w
 | [],ps,h=>by simp only [placesOf,Option.some.injEq] at h;subst h;simp
 |f::fs,ps,h=>by
  simp only [placesOf] at h
  split at h
  · rename_i te ps' ht hp
    simp only [Option.some.injEq] at h;subst h
    obtain⟨_,i,hi,hs,_⟩:=hT.ok _ _ ht
    have ih:=run_places hT fs ps' hp
    have h1:(sizeOf f.type).run P w= .ok te.size w:=by simp [sizeOf,typeInfo,hi,hs]
    simp only [List.mapM_cons,Sem.run_bind,h1,Result.andThen_ok,Sem.run_pure]
    rw [ih]
    rfl
  · cases h
theorem jI(z:Value):ae w A β z.cells.toList (ofConst z).cells:=by
 have h:=rJ (w:=w) (A:=A) (β:=β) z
 by_cases hx:∃cs,ofConst z= .agg cs
 · obtain⟨cs,hc⟩:=hx
   rw [hc] at h ⊢
   simp only [aa] at h
   obtain⟨arr,rfl,h⟩:=h
   exact h
 · have hc:(ofConst z).cells= [ofConst z]:=by
    cases hz:ofConst z<;>first|rfl|exact absurd ⟨_,hz⟩ hx
   have hz:z.cells= #[z]:=by
    cases z<;>first|rfl|exact absurd ⟨_,rfl⟩ hx
   rw [hc,hz]
   simp only [ae]
   exact⟨z,[],rfl,h,rfl⟩
theorem Im(hT:bw T P) {t:TypeId} {parts:List (Nat×AV)} {gp:Array (Nat×Value)}(hk:gp.toList.map (·.1)=parts.map (·.1))(hv:ae w A β (gp.toList.map (·.2)) (parts.map (·.2))) {out:Out}
  (h:zf T t parts=some out):Reads P A β w (Instr.build t gp) out:=by
 unfold zf at h
 split at h
 · rename_i te ht
   obtain⟨hu,i,hi,hs,hb,hz⟩:=hT.ok t te ht
   split at h
   · rename_i fs hd
     split at h
     · rename_i ps hp
       split at h
       · rename_i cs hf
         simp only [Option.some.injEq] at h;subst h
         obtain⟨pO,g1,g2⟩:=uY (fun i=>ps[i]?) parts gp.toList _ te.zero.cells cs (jI te.zero) hk hv hf
         refine⟨⟨rfl,rfl,rfl⟩, .agg pO,?_,by simp only [aa];exact⟨pO,rfl,g2⟩⟩
         have hm:=run_places (w:=w) hT fs.toList ps hp
         rw [hd] at hu
         simp only [Instr.build,zeroValue,typeInfo,Sem.run_bind,run_program,Result.andThen_ok,hi,hz,Sem.run_pure,run_underlying hu,Array.mapM_eq_mapM_toList,Sem.run_map,hm]
         have e:(fun(x:Nat)=>ps.toArray[x]?)=(fun(x:Nat)=>ps[x]?):=by funext x;simp
         simp [g1]
       · cases h
     · cases h
   · rename_i n e hd
     split at h
     · rename_i ee he
       split at h
       · rename_i cs hf
         simp only [Option.some.injEq] at h;subst h
         obtain⟨_,i2,By,Ib,_⟩:=hT.ok e ee he
         obtain⟨pO,g1,g2⟩:=uY (fun i=>some (i*ee.size,ee.size)) parts gp.toList _ te.zero.cells cs (jI te.zero) hk hv hf
         refine⟨⟨rfl,rfl,rfl⟩, .agg pO,?_,by simp only [aa];exact⟨pO,rfl,g2⟩⟩
         rw [hd] at hu
         simp [Instr.build,zeroValue,typeInfo,hi,hz,run_underlying hu,sizeOf,By,Ib,g1]
       · cases h
     · cases h
   · cases h
 · cases h
theorem nQ(z:Array Value)(hz:0<z.size):∀n,(List.range (n*z.size)).map (fun i=>z[i%z.size]!)=(List.replicate n z.toList).flatten
 |0=>by simp
 |n+1=>by
  rw [Nat.add_mul,Nat.one_mul,List.range_add,List.map_append,nQ z hz n,List.replicate_succ',List.flatten_append]
  congr 1
  simp only [List.map_map,List.flatten_cons,List.flatten_nil,List.append_nil]
  apply List.ext_getElem
  · simp
  · intro i h1 h2
    simp at h1
    simp [Nat.add_mod,Nat.mod_eq_of_lt h1,h1]
theorem pP {vs:List Value} {xs:List AV}(h:ae w A β vs xs):∀n,ae w A β (List.replicate n vs).flatten (List.replicate n xs).flatten
 |0=>by simp [ae]
 |n+1=>by
  simp only [List.replicate_succ,List.flatten_cons]
  exact dJ _ _ _ _ h (pP h n)
theorem tw(ts:List Ty):∀(n:Nat) (xs:List AV) (vs:List Value) (l:List (Row ts)),ae w A β vs xs→rD ts n xs=some l→bZ (bh w A ts) vs l∧l.length=n
 |0,[],vs,l,h,hl=>by
  simp only [rD,Option.some.injEq] at hl;subst hl
  simp only [ae] at h;subst h
  simp [bZ]
 |0,_::_,_,_,_,hl=>by simp [rD] at hl
 |n+1,xs,vs,l,h,hl=>by
  simp only [rD] at hl
  split at hl
  · rename_i x l' hx iB
    simp only [Option.some.injEq] at hl;subst hl
    obtain⟨s1,s2⟩:=fF xs vs ts.length h
    obtain⟨g1,g2⟩:=tw ts n _ _ l' s2 iB
    exact⟨⟨_,_,(List.take_append_drop _ _).symm,oI ts _ _ x s1 hx,g1⟩,by simp [g2]⟩
  · cases hl
theorem Gh(hB:aD C A β st a w)(hA:∀b,A b→A' b):∀(ps:List (Nat×AV)) (vs:List Value),ae w A β vs (ps.map (·.2))→(∀k∈(lh st.h ps).2,∀b,aw (β k)=some b→A' b)→
  ae w A' β vs ((lh st.h ps).1.map (·.2))∧(lh st.h ps).1.map (·.1)=ps.map (·.1)∧∀k∈(lh st.h ps).2,∃e row l fr,st.h k=some (.row e row l fr)
 | [],vs,h,_=>by simp only [List.map_nil,ae] at h;subst h;simp [lh,ae]
 |(i,x)::ps,vs,h,kN=>by
  simp only [List.map_cons,ae] at h
  obtain⟨v,bI,rfl,h1,h2⟩:=h
  simp only [lh] at kN ⊢
  obtain⟨p1,p2⟩:=tv hB hA x v h1 (fun k hk=>kN k (by simp [hk]))
  obtain⟨q1,q2,q3⟩:=Gh hB hA ps bI h2 (fun k hk=>kN k (by simp [hk]))
  refine⟨by simp only [List.map_cons,ae];exact⟨v,bI,rfl,p1,q1⟩,by simp [q2],fun k hk=> ?_⟩
  rcases List.mem_append.1 hk with hk|hk
  · exact p2 k hk
  · exact q3 k hk
theorem yc(hT:bw T P)(hB:aD C A β st a w) {dst:Option Nat}(hd:∀t,dst=some t→t<st.n) {d:Nat}(fq:st.h d=none∧nO d=false) {t:TypeId} {len:Nat} {parts:List (Nat×AV)} {gp:Array (Nat×Value)}
  (hk:gp.toList.map (·.1)=parts.map (·.1)) (hv:ae w A β (gp.toList.map (·.2)) (parts.map (·.2))) {out:Out}
  (h:gR T st.h d t len parts=some out):∃v' w',(Instr.buildSlice t len gp).run P w= .ok v' w'∧Rel C (st.put dst out) (a.put dst v') w':=by
 unfold gR at h
 split at h
 · rename_i e te he jZ
   split at h
   · rename_i row jV
     obtain⟨hu,Ik,i,hi,nK,JY,Ms⟩:=xW hT he jZ
     cases hq:(Nat.beq row.length te.size&&Nat.blt 0 te.size&&Nat.beq (ofConst te.zero).cells.length te.size&&Nat.ble (len*te.size) 16777216) with
     |false=>simp [hq] at h
     |true=>
      simp only [hq,cond_true] at h
      simp only [Bool.and_eq_true] at hq
      obtain⟨⟨⟨q1,q2⟩,q3⟩,q4⟩:=hq
      have q1:=Nat.eq_of_beq_eq_true q1
      have q2:=Nat.le_of_ble_eq_true q2
      have q3:=Nat.eq_of_beq_eq_true q3
      have q4:=Nat.le_of_ble_eq_true q4
      split at h
      · rename_i cs hf
        split at h
        · rename_i l hl
          simp only [Option.some.injEq] at h;subst h
          have FF:te.zero.cells.size=te.size:=by rw [←tm];exact q3
          obtain⟨p1,p2,p3⟩:=Gh (A':=bL A β (lh st.h parts).2) hB (fun b h=> .inl h) parts _ hv (fun k hk b hb=> .inr ⟨k,hk,hb⟩)
          have gq:(((Array.range (len*i.size)).map (te.zero.cells[· %te.zero.cells.size]!)).toList)=(List.replicate len te.zero.cells.toList).flatten:=by
           have :=nQ te.zero.cells (by omega) len
           rw [FF] at this
           simp [nK,FF,this]
          obtain⟨pO,g1,g2⟩:=uY (w:=w) (A:=bL A β (lh st.h parts).2) (β:=β) (fun i=>some (i*te.size,te.size)) _ gp.toList _ ((Array.range (len*i.size)).map (te.zero.cells[· %te.zero.cells.size]!)) cs
           (by rw [gq];exact pP (jI te.zero) len) (hk.trans p2.symm) p1 hf
          obtain⟨f1,f2⟩:=tw row len cs _ l g2 hl
          have hlen:=eC l _ f1
          have fQ:(Instr.buildSlice t len gp).run P w= .ok (.slice (some ⟨w.heap.size,0,none⟩) len len) (w.alloc (.cells pO e)):=by
           have T6:¬(16777216<len*i.size):=by rw [nK];omega
           by_cases hz:len*i.size=0
           · have hln:len=0:=by
              rcases Nat.mul_eq_zero.1 hz with h|h
              · exact h
              · omega
             subst hln
             rw [nK] at g1
             simp only [Nat.zero_mul] at g1
             simp [Instr.buildSlice,run_underlying hu,sizeOf,typeInfo,hi,nK,newRow]
             have e0:∀f:Nat→Value,(Array.range 0).map f= #[]:=fun f=>by apply Array.eq_empty_of_size_eq_zero;simp
             rw [e0] at g1
             rw [e0,g1]
             simp
           · rw [←nK] at g1
             simp [Instr.buildSlice,run_underlying hu,sizeOf,typeInfo,zeroValue,hi,Ms,T6,hz,g1,newRow]
          refine⟨_,_,fQ,Rel.jY (hB.J2 hd fq (xs:=pO.toList) ⟨rfl,rfl,rfl,by simp,fun k hk _=>heap_alloc_old w _ k hk⟩ p3 ?_ f1 (fun b hb=>by simp only [aw,Option.some.injEq] at hb;omega))⟩
          refine⟨hlen, .inr ⟨w.heap.size,len,pO,by rw [f2],by omega,heap_alloc_new w _,by omega,?_,?_,?_⟩⟩
          · have :len≤len*te.size:=Nat.le_mul_of_pos_right _ (by omega)
            unfold maxLen;omega
          · simp at hlen;rw [hlen,f2]
          · rw [←hlen];exact List.take_length
        · cases h
      · cases h
   · cases h
 · cases h
end
end Go.Vg

end
section
namespace Go.Vg
open Go
section
variable {P:Program} {C:Ctx} {A A':Nat→Prop} {β:Nat→Value} {st:St} {a:Act} {w:World} {T:bW}
theorem gV:∀(row:List Ty) (vs:List Value),cz.bS row vs=true→bh w A row vs (Row.zero row)
 | [],[],_=>by simp [bh]
 | .int k::ts, .int k' n::vs,h=>by
   simp only [cz.bS,Bool.and_eq_true,decide_eq_true_eq] at h
   obtain⟨⟨h1,h2⟩,h3⟩:=h
   subst h1;subst h2
   simp only [bh,Row.zero,oH,tu]
   refine⟨_,vs,rfl,?_,gV ts vs h3⟩
   simp only [Rd,D.zero]
   cases k<;>simp [DI.zero,DI.toInt,lo,hi]
 | .bool::ts, .bool b::vs,h=>by
   cases b with
   |true=>simp [cz.bS] at h
   |false=>
    simp only [cz.bS] at h
    simp only [bh,Row.zero,oH,tu]
    exact⟨_,vs,rfl,by simp [Rd,D.zero],gV ts vs h⟩
 | .str::ts, .string s::vs,h=>by
   simp only [cz.bS,Bool.and_eq_true] at h
   simp only [bh,Row.zero,oH,tu]
   refine⟨_,vs,rfl,?_,gV ts vs h.2⟩
   simp only [Rd,D.zero]
   refine⟨?_,by simp⟩
   have :s.data.toList= []:=by simpa using h.1
   have hs:s=⟨#[]⟩:=by
    apply ByteArray.ext
    apply Array.ext'
    exact this
   rw [hs]
 | .slice r::ts, .slice ad l c::vs,h=>by
   cases ad with
   |some p=>simp [cz.bS] at h
   |none=>
    cases l with
    |succ l=>simp [cz.bS] at h
    |zero=>
     cases c with
     |succ c=>simp [cz.bS] at h
     |zero=>
      simp only [cz.bS] at h
      simp only [bh,Row.zero,oH,tu]
      refine⟨_,vs,rfl,?_,gV ts vs h⟩
      simp only [Rd,D.zero]
      exact⟨none,0,[],by simp,by simp,by simp,by simp [bZ],by simp⟩
 | [],_::_,h=>by simp [cz.bS] at h
 | .int _::_,[],h=>by simp [cz.bS] at h
 | .bool::_,[],h=>by simp [cz.bS] at h
 | .str::_,[],h=>by simp [cz.bS] at h
 | .slice _::_,[],h=>by simp [cz.bS] at h
 | .int _::_, .bool _::_,h| .int _::_, .string _::_,h| .int _::_, .slice .. ::_,h| .int _::_, .float .. ::_,h| .int _::_, .complex .. ::_,h| .int _::_, .pointer _::_,h
 | .int _::_, .map _::_,h| .int _::_, .chan _::_,h| .int _::_, .func .. ::_,h| .int _::_, .nilFunc::_,h| .int _::_, .iface .. ::_,h| .int _::_, .nilIface::_,h| .int _::_, .agg _::_,h| .int _::_, .tuple _::_,h=>by simp [cz.bS] at h
 | .bool::_, .int .. ::_,h| .bool::_, .string _::_,h| .bool::_, .slice .. ::_,h| .bool::_, .float .. ::_,h| .bool::_, .complex .. ::_,h| .bool::_, .pointer _::_,h
 | .bool::_, .map _::_,h| .bool::_, .chan _::_,h| .bool::_, .func .. ::_,h| .bool::_, .nilFunc::_,h| .bool::_, .iface .. ::_,h| .bool::_, .nilIface::_,h| .bool::_, .agg _::_,h| .bool::_, .tuple _::_,h=>by simp [cz.bS] at h
 | .str::_, .int .. ::_,h| .str::_, .bool _::_,h| .str::_, .slice .. ::_,h| .str::_, .float .. ::_,h| .str::_, .complex .. ::_,h| .str::_, .pointer _::_,h
 | .str::_, .map _::_,h| .str::_, .chan _::_,h| .str::_, .func .. ::_,h| .str::_, .nilFunc::_,h| .str::_, .iface .. ::_,h| .str::_, .nilIface::_,h| .str::_, .agg _::_,h| .str::_, .tuple _::_,h=>by simp [cz.bS] at h
 | .slice _::_, .int .. ::_,h| .slice _::_, .bool _::_,h| .slice _::_, .string .. ::_,h| .slice _::_, .float .. ::_,h| .slice _::_, .complex .. ::_,h| .slice _::_, .pointer _::_,h
 | .slice _::_, .map _::_,h| .slice _::_, .chan _::_,h| .slice _::_, .func .. ::_,h| .slice _::_, .nilFunc::_,h| .slice _::_, .iface .. ::_,h| .slice _::_, .nilIface::_,h| .slice _::_, .agg _::_,h| .slice _::_, .tuple _::_,h=>by simp [cz.bS] at h
theorem qw {row:List Ty} {z:Value}(h:cz row z=true):bh w A row z.cells.toList (Row.zero row):=by
 unfold cz at h
 split at h
 · exact gV row _ h
 · rename_i hna
   have hz:z.cells= #[z]:=by cases z<;>first|rfl|exact absurd rfl (hna _)
   rw [hz];exact gV row _ h
theorem oJ {row:List Ty} {vs:List Value} {x:Row row}(h:bh w A row vs x):∀n,bZ (bh w A row) (List.replicate n vs).flatten (List.replicate n x)
 |0=>by simp [bZ]
 |n+1=>by
  simp only [List.replicate_succ,List.flatten_cons]
  exact⟨vs,_,rfl,h,oJ h n⟩
theorem zw(hT:bw T P)(hB:aD C A β st a w) {dst:Option Nat}(hd:∀t,dst=some t→t<st.n) {d:Nat}(fq:st.h d=none∧nO d=false) {t:TypeId} {x y:AV} {vx vy:Value}(hx:aa w A β vx x)(hy:aa w A β vy y) {out:Out}
  (h:qn T d t x y=some out) (hc:∀p∈out.cond,p):∃v' w',(Instr.makeSlice t vx vy).run P w= .ok v' w'∧Rel C (st.put dst out) (a.put dst v') w':=by
 unfold qn at h
 split at h
 · rename_i k n k' c
   split at h
   · rename_i e te he jZ
     split at h
     · rename_i row jV
       obtain⟨hu,Ik,i,hi,nK,JY,Ms⟩:=xW hT he jZ
       cases hq:(Nat.beq row.length te.size&&Nat.blt 0 te.size&&cz row te.zero) with
       |false=>simp [hq] at h
       |true=>
        simp only [hq,cond_true,Option.some.injEq] at h
        subst h
        simp only [Bool.and_eq_true] at hq
        obtain⟨⟨q1,q2⟩,q3⟩:=hq
        have q1:=Nat.eq_of_beq_eq_true q1
        have q2:=Nat.le_of_ble_eq_true q2
        obtain⟨c0,c1,c2⟩:=dI hc
        simp only [aa] at hx hy
        obtain⟨rfl,_⟩:=hx
        obtain⟨rfl,yb⟩:=hy
        have hz:=qw (w:=w) (A:=A) q3
        have Mz:=fE row _ _ hz
        have FF:te.zero.cells.size=te.size:=by simp at Mz;omega
        have akd:(te.bytes:Int)*c≤281474976710656:=by
         rcases Nat.eq_zero_or_pos te.bytes with Bt|Bt
         · rw [Bt];simp
         · have :=(Int.le_ediv_iff_mul_le (show(0:Int)<te.bytes by omega)).1 c2
           rw [Int.mul_comm];omega
        have zr:c≤9223372036854775807:=by
         have :=Int.ediv_le_self (te.bytes:Int) (show(0:Int)≤140737488355328 by omega)
         omega
        have hr:=run_make (P:=P) w t e i te.zero hu hi Ms k k' n c c0 c1 (by rw [JY];exact akd) zr
        refine⟨_,_,hr,Rel.jY (hB.J2 hd fq (fz:= []) (xs:=(List.replicate n.toNat te.zero.cells.toList).flatten) ⟨rfl,rfl,rfl,by simp,fun k hk _=>heap_alloc_old w _ k hk⟩ (by simp) ?_ ?_ (fun b hb=>by simp only [aw,Option.some.injEq] at hb;omega))⟩
        · have gq:(madeCells te.zero.cells (c.toNat*i.size)).toList=(List.replicate c.toNat te.zero.cells.toList).flatten:=by
           have :=nQ te.zero.cells (by omega) c.toNat
           rw [FF] at this
           simp [madeCells,nK,FF,this]
          have zx:∀m,(List.replicate m te.zero.cells.toList).flatten.length=m*te.size:=by
           intro m;simp [FF]
          simp only [List.length_replicate]
          refine⟨by rw [zx,q1], .inr ⟨w.heap.size,c.toNat,_,rfl,by omega,heap_alloc_new w _,by omega,by unfold maxLen;omega,?_,?_⟩⟩
          · have :=congrArg List.length gq
            rw [zx,Array.length_toList] at this
            rw [this,q1]
          · rw [gq]
            have CA:c.toNat=n.toNat+(c.toNat-n.toNat):=by omega
            rw [CA,←List.replicate_append_replicate,List.flatten_append,q1,←zx n.toNat,List.take_left]
        · exact oJ (qw q3) _
     · cases h
   · cases h
 · cases h
theorem CH {t t' ty e:TypeId} {i:TypeInfo}(hu:P.underlying t=some (.slice e))(hi:P.info? e=some i) {b off dLen dCap:Nat} {cur:Array Value} {be:TypeId}(hg:w.heap[b]? =some (.cells cur be (0,0))) {x:Value} {m:Nat} {cs:List Value}
  (hlen:(Builtin.lenOf x).run P w= .ok m w) (gm:(Builtin.firstCells i.size (min m dLen) x).run P w= .ok cs.toArray w) (h1:∀u∈cs,u.oneCell'=true) (oD:off+cs.length≤cur.size):
  (Builtin.copy_ #[t,t'] ty #[.slice (some ⟨b,off,none⟩) dLen dCap,x]).run P w= .ok (.int .i64 ((min m dLen:Nat):Int)) (w.setRow b (cur.toList.take off++cs++cur.toList.drop (off+cs.length)).toArray):=by
 have ka:=run_storeCells_at P b off be cs 0 cur w hg (by simpa using oD) h1
 simp only [Nat.add_zero] at ka
 have hm:Nat.min m dLen=min m dLen:=rfl
 simp [Builtin.copy_,run_underlying hu,sizeOf,typeInfo,hi,hlen,hm,gm,ka,goInt]
theorem tx {t t' ty e:TypeId} {i:TypeInfo}(hu:P.underlying t=some (.slice e))(hi:P.info? e=some i) {ad:Option Addr} {dCap:Nat} {x:Value} {m:Nat}
  (hlen:(Builtin.lenOf x).run P w= .ok m w) (gm:(Builtin.firstCells i.size 0 x).run P w= .ok #[] w):
  (Builtin.copy_ #[t,t'] ty #[.slice ad 0 dCap,x]).run P w= .ok (.int .i64 0) w:=by
 have hm:Nat.min m 0=0:=Nat.min_eq_right (Nat.zero_le _)
 cases ad<;>simp [Builtin.copy_,run_underlying hu,sizeOf,typeInfo,hi,hlen,gm,goInt,storeCells]
theorem aD.same(hB:aD C A β st a w) {dst:Option Nat}(hd:∀t,dst=some t→t<st.n) {c:List Prop} {r:AV} {k:Nat} {ab:AB}(hk:st.h k=some ab) {v:Value}(h:aa w A β v r):
  aD C A β (st.put dst {cond:=c,res:=r,ga:= [(k,ab)]}) (a.put dst v) w:=by
 refine hB.step (out:= {cond:=c,res:=r,ga:= [(k,ab)]}) hd (by simp [ao]) ?_ (fun _ _=>rfl) (cM.refl w A) rfl rfl rfl (Nat.le_refl _) (fun _ _ _=>rfl) hB.bound (fun b h=> .inl h) ?_ (by simp [ao]) (by simp [ao]) (by simp [ao]) h
 · intro j b h;obtain⟨rfl,_⟩:=du h;simp [hk]
 · intro j b h _
   obtain⟨rfl,rfl⟩:=du h
   simp only [cG]
   exact hB.blocks _ _ hk
theorem tz(n:Nat)(h:n≤maxLen):aa w A β (.int .i64 (n:Int)) (.int .i64 (n:Int)):=by
 simp only [aa,lo,hi,true_and]
 unfold maxLen at h;omega
theorem zy(hB:aD C A β st a w) {dst:Option Nat}(hd:∀t,dst=some t→t<st.n) {k e:Nat} {row:List Ty} {l m':List (Row row)}(hk:st.h k=some (.row e row l false)) {b cap off:Nat}(bX:β k= .slice (some ⟨b,0,none⟩) l.length cap)
  {cs:List Value} (c7:bZ (bh w A row) cs m') (oD:off+m'.length≤l.length) {c:List Prop} {r:AV} {v:Value} (qR:∀w',aa w' A β v r) {cur:Array Value} (hg:w.heap[b]? =some (.cells cur e (0,0)))
  (cR:cur.size=cap*row.length) (hle:l.length≤cap) (qW:cap≤maxLen) (hL:bZ (bh w A row) (cur.toList.take (l.length*row.length)) l) (jb:¬A b):
  Rel C (st.put dst {cond:=c,res:=r,ga:= [(k, .row e row (l.take off++m'++l.drop (off+m'.length)) false)]}) (a.put dst v)
   (w.setRow b (cur.toList.take (off*row.length)++cs++cur.toList.drop (off*row.length+cs.length)).toArray):=by
 have hb:aw (β k)=some b:=by rw [bX];rfl
 have hlen:=eC m' cs c7
 have T7:l.length*row.length≤cur.size:=by rw [cR];exact Nat.mul_le_mul_right _ hle
 have Sh:off*row.length+cs.length≤l.length*row.length:=by rw [hlen,←Nat.add_mul];exact Nat.mul_le_mul_right _ oD
 refine hB.write hd (k:=k) (fz:= []) (ab:= .row e row _ false) (by simp [hk]) hb jb hg ⟨rfl,rfl,rfl⟩ (by simp) ?_ (qR _)
 intro A2 h1 h2 h3
 have hK:cM w (w.setRow b (cur.toList.take (off*row.length)++cs++cur.toList.drop (off*row.length+cs.length)).toArray) A A2:=fun b' bz=>⟨h1 b' bz,setRow_other w b b' _ (fun h'=>jb (h'▸bz))⟩
 have JZ:(l.take off++m'++l.drop (off+m'.length)).length=l.length:=by simp;omega
 have Si:(cur.toList.take (off*row.length)++cs++cur.toList.drop (off*row.length+cs.length)).toArray.size=cur.size:=by simp;omega
 refine⟨_,⟨?_, .inr ⟨b,cap,_,by rw [bX,JZ],by omega,setRow_heap w b cur _ e _ hg,by omega,qW,Si.trans cR,rfl⟩⟩,?_,fun b' bz=> ?_⟩
 · rw [List.length_take,JZ]
   refine Nat.min_eq_left (Nat.le_trans T7 (Nat.le_of_eq Si.symm))
 · rw [JZ]
   have BU:(cur.toList.take (off*row.length)++cs++cur.toList.drop (off*row.length+cs.length)).take (l.length*row.length)=
     (cur.toList.take (l.length*row.length)).take (off*row.length)++cs++(cur.toList.take (l.length*row.length)).drop ((off+m'.length)*row.length):=by
    rw [List.take_take,Nat.min_eq_left (by omega),List.take_append,List.take_of_length_le (by simp;omega),Nat.add_mul,←hlen,List.drop_take]
    congr 1
    congr 1
    simp;omega
   have e1:(cur.toList.take (off*row.length)++cs++cur.toList.drop (off*row.length+cs.length)).toArray.toList=cur.toList.take (off*row.length)++cs++cur.toList.drop (off*row.length+cs.length):=by simp
   rw [e1,BU]
   have s1:=dQ l _ off hL
   have s2:=dQ l _ (off+m'.length) hL
   exact bC (fun c x hx=>bD hK row c x hx) _ _ (gl _ _ _ _ (gl _ _ _ _ s1.1 c7) s2.2)
 · rw [hb] at bz;simp only [Option.some.injEq] at bz;subst bz
   simp only [Bool.false_eq_true,if_false]
   intro CB
   rcases h2 _ CB with h|⟨q,hq,_⟩
   · exact jb h
   · simp at hq
theorem J3(hT:bw T P)(hB:aD C A β st a w) {dst:Option Nat}(hd:∀t,dst=some t→t<st.n) {t t' ty:TypeId} {s x:AV} {vs vx:Value}(hs:aa w A β vs s)(hx:aa w A β vx x) {out:Out}
  (h:mV T st.h t t' s x=some out) (hc:∀p∈out.cond,p):∃v' w',(Builtin.copy_ #[t,t'] ty #[vs,vx]).run P w= .ok v' w'∧Rel C (st.put dst out) (a.put dst v') w':=by
 unfold mV at h
 split at h
 · rename_i k
   split at h
   · rename_i e row l hk
     cases hq:bp T t row.length with
     |false=>simp [hq] at h
     |true=>
      simp only [hq,cond_true] at h
      obtain⟨el,i,hu,hi,cR,im⟩:=eh hT hq
      split at h
      · rename_i m hm
        simp only [Option.some.injEq] at h;subst h
        obtain⟨cs,eX⟩:=BT (P:=P) hB hx hm
        simp only [aa] at hs
        obtain⟨rfl,_⟩:=hs
        rcases ej hB hk with⟨g1,g2⟩|⟨b,cap,cur,g1,g2,g3,g4,g5,g6,g7⟩
        · subst g2
          have hf:=eX.first w rfl 0 (Nat.zero_le _)
          simp only [Nat.zero_mul,List.take_zero] at hf
          rw [g1]
          refine⟨_,_,tx (ty:=ty) hu hi eX.len (by rw [cR];exact hf),?_⟩
          have :=hB.same (dst:=dst) hd (c:= []) (r:= .int .i64 0) (v:= .int .i64 0) hk (by simp [aa,lo,Vg.hi])
          simpa using Rel.jY this
        · simp only [Bool.false_eq_true,if_false] at g7
          have hn:min m.length l.length≤m.length:=Nat.min_le_left _ _
          have hf:=eX.first w rfl _ hn
          have tA:=(dQ m cs (min m.length l.length) eX.rd).1
          have hlen:=eC _ _ tA
          have xU:(m.take (min m.length l.length)).length=min m.length l.length:=by simp
          have hr:=CH (P:=P) (ty:=ty) (t':=t') (dLen:=l.length) (dCap:=cap) (off:=0) hu hi g2 eX.len (by rw [cR];exact hf) (ti _ _ tA) (by
           rw [hlen,xU,g5]
           have :min m.length l.length*row.length≤cap*row.length:=Nat.mul_le_mul_right _ (by omega)
           omega)
          rw [g1]
          refine⟨_,_,hr,?_⟩
          have yd:=zy hB hd hk g1 (off:=0) (c:= []) tA (by rw [xU];omega) (fun w'=>tz (w:=w') (min m.length l.length) (by unfold maxLen;unfold maxLen at g4;omega)) g2 g5 g3 g4 g6 g7
          have e1:m.take l.length++l.drop m.length=l.take 0++m.take (min m.length l.length)++l.drop (0+(m.take (min m.length l.length)).length):=by
           rw [xU]
           simp only [List.take_zero,List.nil_append,Nat.zero_add]
           rcases Nat.le_total m.length l.length with hh|hh
           · rw [Nat.min_eq_left hh,List.take_of_length_le hh,List.take_length]
           · rw [Nat.min_eq_right hh,List.drop_length,List.drop_of_length_le hh]
          rw [e1]
          simpa using yd
      · cases h
   · cases h
 · rename_i k sz off n
   split at h
   · rename_i e row l hk
     cases hq:(bp T t row.length&&Nat.beq sz row.length) with
     |false=>simp [hq] at h
     |true=>
      simp only [hq,cond_true] at h
      simp only [Bool.and_eq_true] at hq
      obtain⟨q1,q2⟩:=hq
      have q2:=Nat.eq_of_beq_eq_true q2
      subst q2
      obtain⟨el,i,hu,hi,cR,im⟩:=eh hT q1
      split at h
      · rename_i m hm
        simp only [Option.some.injEq] at h;subst h
        obtain⟨cs,eX⟩:=BT (P:=P) hB hx hm
        have hon:=dI hc
        simp only [aa] at hs
        rcases hs with⟨hn0,ad,cap,hv,zr⟩|⟨b',mm,gT,ta,hv,wK,akf,akg,akh⟩
        · subst hn0
          have hf:=eX.first w rfl 0 (Nat.zero_le _)
          simp only [Nat.zero_mul,List.take_zero] at hf
          rw [hv]
          refine⟨_,_,tx (ty:=ty) hu hi eX.len (by rw [cR];exact hf),?_⟩
          have :=hB.same (dst:=dst) hd (c:= [off+0≤l.length]) (r:= .int .i64 0) (v:= .int .i64 0) hk (by simp [aa,lo,Vg.hi])
          simpa using Rel.jY this
        · rcases ej hB hk with⟨g1,g2⟩|⟨b,cap,cur,g1,g2,g3,g4,g5,g6,g7⟩
          · rw [g1] at hv;cases hv
          · rw [g1] at hv
            simp only [Value.slice.injEq,Option.some.injEq,Addr.mk.injEq,and_true] at hv
            obtain⟨rfl,rfl,rfl⟩:=hv
            simp only [Bool.false_eq_true,if_false] at g7
            have hn:min m.length n≤m.length:=Nat.min_le_left _ _
            have hf:=eX.first w rfl _ hn
            have tA:=(dQ m cs (min m.length n) eX.rd).1
            have hlen:=eC _ _ tA
            have xU:(m.take (min m.length n)).length=min m.length n:=by simp
            have hr:=CH (P:=P) (ty:=ty) (t':=t') (dLen:=n) (dCap:=ta) (off:=off*row.length) hu hi g2 eX.len (by rw [cR];exact hf) (ti _ _ tA) (by
             rw [hlen,xU,g5,←Nat.add_mul]
             exact Nat.mul_le_mul_right _ (by omega))
            rw [wK]
            refine⟨_,_,hr,?_⟩
            have yd:=zy hB hd hk g1 (off:=off) (c:= [off+n≤l.length]) tA (by rw [xU];omega) (fun w'=>tz (w:=w') (min m.length n) (by unfold maxLen;unfold maxLen at g4;omega)) g2 g5 g3 g4 g6 g7
            have e1:m.take n=m.take (min m.length n):=by
             rcases Nat.le_total m.length n with hh|hh
             · rw [Nat.min_eq_left hh,List.take_of_length_le hh,List.take_length]
             · rw [Nat.min_eq_right hh]
            rw [e1]
            rw [xU] at yd
            exact yd
      · cases h
   · cases h
 · cases h
end
end Go.Vg

end
section
namespace Go.Vg
open Go
section
variable {P:Program} {C:Ctx} {A A':Nat→Prop} {β:Nat→Value} {st:St} {a:Act} {w:World} {T:bW}
theorem J4 {t ty e:TypeId} {i:TypeInfo}(hu:P.underlying t=some (.slice e))(hi:P.info? e=some i) {z:Value}(hz:i.zero=some z) {b off n cap:Nat} {cur:Array Value} {be:TypeId}(hg:w.heap[b]? =some (.cells cur be (0,0)))
  {cs:List Value} (c7:(Builtin.zeroCells z.cells n).toList=cs) (h1:∀u∈cs,u.oneCell'=true) (oD:off+cs.length≤cur.size) (hn:0<n):
  (Builtin.clear_ #[t] ty #[.slice (some ⟨b,off,none⟩) n cap]).run P w= .ok (.tuple #[]) (w.setRow b (cur.toList.take off++cs++cur.toList.drop (off+cs.length)).toArray):=by
 have ka:=run_storeCells_at P b off be cs 0 cur w hg (by simpa using oD) h1
 simp only [Nat.add_zero] at ka
 obtain⟨m,rfl⟩:∃m,n=m+1:=⟨n-1,by omega⟩
 simp [Builtin.clear_,run_underlying hu,zeroValue,typeInfo,hi,hz,c7,ka]
theorem Io(hT:bw T P)(hB:aD C A β st a w) {dst:Option Nat}(hd:∀t,dst=some t→t<st.n) {t ty:TypeId} {x:AV} {vx:Value}(hx:aa w A β vx x) {out:Out}
  (h:lZ T st.h t x=some out) (hc:∀p∈out.cond,p):∃v' w',(Builtin.clear_ #[t] ty #[vx]).run P w= .ok v' w'∧Rel C (st.put dst out) (a.put dst v') w':=by
 have T8:∀w',aa w' A β (.tuple #[]) (.cK []):=fun w'=>by simp only [aa];exact⟨#[],rfl,by simp [ae]⟩
 unfold lZ at h
 split at h
 · rename_i k sz off n
   split at h
   · rename_i e row l hk
     split at h
     · rename_i el te he jZ
       obtain⟨hu,Ik,i,hi,nK,JY,Ms⟩:=xW hT he jZ
       cases hq:(bp T t row.length&&Nat.beq sz row.length&&Nat.beq row.length te.size&&cz row te.zero) with
       |false=>simp [hq] at h
       |true=>
        simp only [hq,cond_true,Option.some.injEq] at h
        subst h
        simp only [Bool.and_eq_true] at hq
        obtain⟨⟨⟨q0,q1⟩,q2⟩,q3⟩:=hq
        have q1:=Nat.eq_of_beq_eq_true q1
        have q2:=Nat.eq_of_beq_eq_true q2
        subst q1
        obtain⟨el',i',zq,gI,aoR,im⟩:=eh hT q0
        have hon:=dI hc
        have hz:=qw (w:=w) (A:=A) q3
        have Mz:=fE row _ _ hz
        have FF:te.zero.cells.size=te.size:=by simp at Mz;omega
        simp only [aa] at hx
        rcases hx with⟨hn0,ad,cap,hv,zr⟩|⟨b',mm,gT,ta,hv,wK,akf,akg,akh⟩
        · subst hn0
          rw [hv]
          refine⟨.tuple #[],w,by cases ad<;>simp [Builtin.clear_,run_underlying hu],?_⟩
          have :=hB.same (dst:=dst) hd (c:= [off+0≤l.length]) (r:= .cK []) (v:= .tuple #[]) hk (T8 w)
          simpa using Rel.jY this
        · rcases ej hB hk with⟨g1,g2⟩|⟨b,cap,cur,g1,g2,g3,g4,g5,g6,g7⟩
          · rw [g1] at hv;cases hv
          · rw [g1] at hv
            simp only [Value.slice.injEq,Option.some.injEq,Addr.mk.injEq,and_true] at hv
            obtain⟨rfl,rfl,rfl⟩:=hv
            simp only [Bool.false_eq_true,if_false] at g7
            have gq:(Builtin.zeroCells te.zero.cells n).toList=(List.replicate n te.zero.cells.toList).flatten:=by
             have :=nQ te.zero.cells (by omega) n
             simp [Builtin.zeroCells,this]
            have tA:=oJ hz n
            have hlen:=eC _ _ tA
            rw [List.length_replicate] at hlen
            rw [wK]
            by_cases hn:n=0
            · subst hn
              refine⟨.tuple #[],w,by simp [Builtin.clear_,run_underlying hu],?_⟩
              have :=hB.same (dst:=dst) hd (c:= [off+0≤l.length]) (r:= .cK []) (v:= .tuple #[]) hk (T8 w)
              simpa using Rel.jY this
            · have hr:=J4 (P:=P) (ty:=ty) (n:=n) (cap:=ta) (off:=off*row.length) hu hi Ms g2 gq (ti _ _ tA) (by
               rw [hlen,g5,←Nat.add_mul]
               exact Nat.mul_le_mul_right _ (by omega)) (by omega)
              refine⟨_,_,hr,?_⟩
              have yd:=zy hB hd hk g1 (off:=off) (c:= [off+n≤l.length]) (r:= .cK []) (v:= .tuple #[]) tA (by rw [List.length_replicate];omega) T8 g2 g5 g3 g4 g6 g7
              rw [List.length_replicate] at yd
              exact yd
     · cases h
   · cases h
 · cases h
end
end Go.Vg

end
section
namespace Go.Vg
open Go
section
variable {P:Program} {C:Ctx} {A A':Nat→Prop} {β:Nat→Value} {st:St} {a:Act} {w:World} {T:bW}
theorem ye:∀(u:List UInt8) (cs:List Value),bZ (bh w A [.int .u8]) cs u→cs=u.map fun b=>Value.int .u8 (b.toNat:Int)
 | [],cs,h=>by simp only [bZ] at h;simp [h]
 |b::u,cs,⟨c1,c2,hc,h1,h2⟩=>by
  subst hc
  simp only [bh] at h1
  obtain⟨v,vs,rfl,h3,rfl⟩:=h1
  simp only [Rd] at h3
  rw [ye u c2 h2]
  simp only [List.map_cons,List.cons_append,List.nil_append,List.cons.injEq,and_true]
  exact h3.1
theorem foldl_push:∀(u:List UInt8) (r:ByteArray),(u.map fun b=>(b.toNat:Int)).foldl (fun r n=>r.push (UInt8.ofNat n.toNat)) r=⟨(r.data.toList++u).toArray⟩
 | [],r=>by simp
 |b::u,r=>by
  simp only [List.map_cons,List.foldl_cons]
  rw [foldl_push u]
  simp
theorem tB(hB:aD C A β st a w) {x:AV} {v:Value}(hx:aa w A β v x) {u:List UInt8}(h:jX st.h [.int .u8] x=some u)(J5:∀n c,v= .slice none n c→n=0)(mZ:∃ad n c,v= .slice ad n c):
  (Conv.bytesToString v).run P w= .ok (.string ⟨u.toArray⟩) w∧u.length≤maxLen:=by
 obtain⟨cs,eX⟩:=BT (P:=P) hB hx h
 have c7:=ye u cs eX.rd
 obtain⟨ad,n,c,rfl⟩:=mZ
 have hn:n=u.length:=by
  have :=eX.len
  simpa [Builtin.lenOf] using this
 refine⟨?_,eX.max⟩
 cases ad with
 |none=>
  have :=J5 n c rfl
  have hu:u= []:=List.eq_nil_of_length_eq_zero (by omega)
  subst hu
  simp [Conv.bytesToString]
  rfl
 |some p=>
  have hf:=eX.first w rfl u.length (Nat.le_refl _)
  have hl:=eC (row:= [.int .u8]) u cs eX.rd
  simp only [List.length_singleton,Nat.mul_one] at hf hl
  rw [←hl,List.take_length] at hf
  have ad8:(loadCells p n).run P w= .ok ((u.map fun b=>(b.toNat:Int)).map (Value.int .u8)).toArray w:=by
   simp only [Builtin.firstCells,Nat.mul_one] at hf
   rw [hn,←hl,hf,c7]
   simp
  rw [run_bytesToString w p n c _ ad8,foldl_push]
  simp
theorem tC(hB:aD C A β st a w) {dst:Option Nat}(hd:∀t,dst=some t→t<st.n) {e:TypeId} {u:List UInt8}(hu:u.length≤maxLen) {c:List Prop}:
  ∃v' w',(Conv.stringToBytes e ⟨u.toArray⟩).run P w= .ok v' w'∧Rel C (st.put dst {cond:=c,res:= .sl [.int .u8] u}) (a.put dst v') w':=by
 let cap:=grownCap w u.length 0 e
 have Gi:u.length≤cap:=grownCap_ge w u.length 0 e
 have zr:cap≤maxLen:=grownCap_le_maxLen w u.length 0 e hu
 let arr:Array Value:=(u.map fun b=>Value.int .u8 (b.toNat:Int)).toArray++Array.replicate (cap-u.length) (.int .u8 0)
 let w':World:=(w.drew.alloc (.cells arr e)).freeze ⟨w.heap.size,arr.size,none⟩ 1
 have fQ:(Conv.stringToBytes e ⟨u.toArray⟩).run P w= .ok (.slice (some ⟨w.heap.size,0,none⟩) u.length cap) w':=by
  have FI:(w.drew.alloc (.cells arr e)).shape? w.heap.size=some (e,arr.size):=by
   have :=heap_alloc_new w.drew (.cells arr e)
   unfold World.shape?
   rw [show(w.drew.alloc (.cells arr e)).heap[w.heap.size]? =some (.cells arr e) from this]
  have h1:(⟨u.toArray⟩:ByteArray).size=u.length:=qU u
  simp only [Conv.stringToBytes,Sem.run_bind,run_choose,Question.forced,Bool.false_eq_true,if_false,Result.andThen_ok,h1,newRow,run_newObj,Sem.run_pure,markStringish,run_shape]
  have hg:(Question.appendCap u.length 0 e).cut (w.tape w.drawn (Question.appendCap u.length 0 e))=cap:=rfl
  rw [hg]
  have T9:Array.map (fun b:UInt8=>Value.int IntKind.u8 (b.toNat:Int)) u.toArray++Array.replicate (cap-u.length) (Value.int IntKind.u8 0)=arr:=by
   simp [arr]
  rw [T9]
  have hw2:({heap:=w.heap.push (Obj.cells arr e),tape:=w.tape,drawn:=w.drawn+1,os:=w.os,output:=w.output}:World)=w.drew.alloc (.cells arr e):=rfl
  simp only [hw2,FI,run_freeze,Result.andThen_ok]
  rfl
 have mD:∀b,b<w.heap.size→w'.heap[b]? =w.heap[b]? :=by
  intro b hb
  have h2:(w.drew.alloc (.cells arr e)).heap[b]? =w.heap[b]? :=l9 (w:=w.drew) _ b hb
  simp only [w',World.freeze,Nat.one_ne_zero,if_false,Array.getElem?_modify]
  rw [if_neg (by omega)]
  exact h2
 have de:∃fz,w'.heap[w.heap.size]? =some (.cells arr e fz):=by
  have h2:(w.drew.alloc (.cells arr e)).heap[w.heap.size]? =some (.cells arr e):=heap_alloc_new w.drew _
  simp only [w',World.freeze,Nat.one_ne_zero,if_false,Array.getElem?_modify,if_true,h2,Option.map_some]
  exact⟨_,rfl⟩
 obtain⟨fz,de⟩:=de
 have nB:w'.heap.size=w.heap.size+1:=by
  have :(w.drew.alloc (.cells arr e)).heap.size=w.heap.size+1:=by simp
  simp only [w',World.freeze,Nat.one_ne_zero,if_false,Array.size_modify]
  exact this
 let A':Nat→Prop :=fun b=>A b∨b=w.heap.size
 have hK:cM w w' A A':=fun b hb=>⟨.inl hb,mD b (hB.bound b hb)⟩
 refine⟨_,w',fQ,A',β,?_⟩
 refine hB.step (out:= {cond:=c,res:= .sl [.int .u8] u}) hd (by simp [ao]) (by simp [ao]) (fun _ _=>rfl) hK rfl rfl rfl (by omega) (fun b hb _=>mD b hb) ?_ ?_ (by simp [ao]) (by simp [ao]) (by simp [ao]) (by simp [ao]) ?_
 · intro b hb
   rcases hb with hb|rfl
   · have :=hB.bound b hb;omega
   · omega
 · intro b hb
   rcases hb with hb|rfl
   · exact .inl hb
   · exact .inr (.inl (Nat.le_refl _))
 · simp only [aa,Rd]
   refine⟨_,cap,_,rfl,Gi,zr,Cx u,fun _=>⟨w.heap.size,0,rfl, .inr rfl,fun j v hj=> ?_⟩⟩
   simp only [World.cell?,de,Nat.zero_add]
   have eB:j<(u.map fun b=>Value.int .u8 (b.toNat:Int)).length:=by
    rcases Nat.lt_or_ge j (u.map fun b=>Value.int .u8 (b.toNat:Int)).length with h|h
    · exact h
    · rw [List.getElem?_eq_none h] at hj;cases hj
   simp only [arr,Option.isSome_none,Bool.false_eq_true,if_false]
   rw [Array.getElem?_append_left (by simpa using eB)]
   simpa using hj
theorem Ua {row:List Ty} {n c:Nat} {l:List (Row row)}(h:Rd w A (.slice row) (.slice none n c) l)(hp:0<row.length):n=0:=by
 simp only [Rd] at h
 obtain⟨ad,cap,cs,h1,h2,h3,h4,h5⟩:=h
 simp only [Value.slice.injEq] at h1
 obtain⟨rfl,rfl,rfl⟩:=h1
 have hl:=eC l cs h4
 by_cases hc:cs= []
 · subst hc
   simp only [List.length_nil] at hl
   rcases Nat.mul_eq_zero.1 hl.symm with h|h
   · exact h
   · omega
 · obtain⟨b,o,h,_⟩:=h5 hc
   cases h
theorem MA(hB:aD C A β st a w) {x:AV} {v:Value}(hx:aa w A β v x)(hn:rF x=true) {u:List UInt8}(h:jX st.h [.int .u8] x=some u):
  (∃ad n c,v= .slice ad n c)∧∀n c,v= .slice none n c→n=0:=by
 have mZ:∀ {row:List Ty} {l:List (Row row)},row= [.int .u8]→Rd w A (.slice row) v l→(∃ad n c,v= .slice ad n c)∧∀n c,v= .slice none n c→n=0:=by
  intro row l hr h
  obtain⟨ad,cap,rfl,_⟩:=rN h
  refine⟨⟨_,_,_,rfl⟩,fun n c he=> ?_⟩
  simp only [Value.slice.injEq] at he
  obtain⟨rfl,rfl,rfl⟩:=he
  exact Ua h (by subst hr;simp)
 unfold jX at h
 split at h
 · simp [rF] at hn
 · simp only [aa] at hx;subst hx
   exact⟨⟨_,_,_,rfl⟩,fun n c h=>by simp only [Value.slice.injEq] at h;omega⟩
 · rename_i h1 h2
   cases x with
   |sl r l=>
    simp only [fj] at h
    obtain⟨e,_⟩:=gU h
    exact mZ e hx
   |full r l=>
    simp only [fj] at h
    obtain⟨e,_⟩:=gU h
    simp only [aa] at hx
    exact mZ e hx.1
   |own k=>
    simp only [fj] at h
    simp only [aa] at hx
    cases hk:st.h k with
    |none=>simp [hk] at h
    |some ab=>
     cases ab with
     |cells cs=>simp [hk] at h
     |arr _ _=>simp [hk] at h
     |views e j n m sz=>simp [hk] at h
     |gj _ _ _ _ _=>simp [hk] at h
     |row e row l fr=>
      rcases kM hB hk with⟨g1,g2⟩|⟨b,cap,cs,g1,_⟩
      · rw [hx.1,g1];exact⟨⟨_,_,_,rfl⟩,fun n c h=>by simp only [Value.slice.injEq] at h;omega⟩
      · rw [hx.1,g1];exact⟨⟨_,_,_,rfl⟩,fun n c h=>by simp only [Value.slice.injEq] at h;cases h.1⟩
   |pre k n=>
    simp only [aa] at hx
    rcases hx with⟨_,h,_⟩|⟨b,m,cap,_,h,_⟩
    · rw [h];exact⟨⟨_,_,_,rfl⟩,fun n c h=>by simp only [Value.slice.injEq] at h;omega⟩
    · rw [h];exact⟨⟨_,_,_,rfl⟩,fun n c h=>by simp only [Value.slice.injEq] at h;cases h.1⟩
   |view k sz off n=>
    simp only [aa] at hx
    rcases hx with⟨_,ad,c,h,_⟩|⟨b,m,cap,gT,_,h,_⟩
    · rw [h];exact⟨⟨_,_,_,rfl⟩,fun n c h=>by simp only [Value.slice.injEq] at h;omega⟩
    · rw [h];exact⟨⟨_,_,_,rfl⟩,fun n c h=>by simp only [Value.slice.injEq] at h;cases h.1⟩
   |_=>simp [fj] at h
def Ub(P:Program)(C:Ctx)(st:St)(a:Act)(w:World)(d:Option Nat)(out:Out)(s:Sem Value):Prop :=∃v w',s.run P w= .ok v w'∧Rel C (st.put d out) (a.put d v) w'
theorem Reads.oK(hB:aD C A β st a w) {dst:Option Nat}(hd:∀t,dst=some t→t<st.n) {s:Sem Value} {out:Out}(h:Reads P A β w s out):Ub P C st a w dst out s:=
 let⟨hq,v,h1,h2⟩:=h
 ⟨v,w,h1,Rel.jY (hB.quiet hd hq h2)⟩
theorem MB(hT:bw T P)(hB:aD C A β st a w) {dst:Option Nat}(hd:∀t,dst=some t→t<st.n) {s d:TypeId} {k:Nat} {v:Value}(hx:aa w A β v (.own k)) {out:Out}
  (h:uW T st.h s d k=some out) (hc:∀p∈out.cond,p):Ub P C st a w dst out (convert s d v):=by
 unfold uW at h
 cases Ă:Nat.beq s d with
 |false=>simp [Ă] at h
 |true=>
  have Ă:=Nat.eq_of_beq_eq_true Ă
  subst Ă
  simp only [Nat.beq_refl,cond_true] at h
  split at h
  · rename_i ts wP
    have nD:=jg hT wP
    split at h
    · rename_i e Bz
      rw [Bz] at nD
      split at h
      · rename_i te e0 row l jZ hk
        have J6:=jg hT jZ
        split at h
        · rename_i l' Uc gn
          rw [Uc] at J6
          obtain⟨he,hl⟩:=gU gn
          subst he
          simp only at hl
          subst hl
          simp only [Option.some.injEq] at h
          subst h
          have im:0<l.length:=dI hc
          obtain⟨xs,ho,qv,jb⟩:=hB.blocks k _ hk
          simp only [aa] at hx
          rcases ho.2 with⟨_,h0⟩|⟨g,cap,cur,hv,_,hg,hn,Gi,cR,Bw⟩
          · omega
          · have wI:aw (β k)=some g:=by rw [hv];rfl
            have aki:¬A g:=by have :=jb g wI;simpa using this
            have aoS:g<w.heap.size:=(Array.getElem?_eq_some_iff.1 hg).1
            rw [hx.1,hv]
            let w':World:=w.freeze ⟨g,cur.size,none⟩ 1
            have FI:w.shape? g=some (e0,cur.size):=by simp [World.shape?,hg]
            have fQ:(convert s s (.slice (some ⟨g,0,none⟩) l.length cap)).run P w= .ok (.slice (some ⟨g,0,none⟩) l.length cap) w':=by
             simp only [convert,Sem.run_bind,run_underlying nD,run_underlying J6,Result.andThen_ok,beq_self_eq_true,markStringish,run_shape,FI,run_freeze,Sem.run_pure]
             rfl
            have mD:∀b,b≠g→w'.heap[b]? =w.heap[b]? :=by
             intro b hb
             simp only [w',World.freeze,Nat.one_ne_zero,if_false,Array.getElem?_modify]
             rw [if_neg (Ne.symm hb)]
            have de:∃fz,w'.heap[g]? =some (.cells cur e0 fz):=by
             simp only [w',World.freeze,Nat.one_ne_zero,if_false,Array.getElem?_modify,if_true,hg,Option.map_some]
             exact⟨_,rfl⟩
            obtain⟨fz,de⟩:=de
            have nB:w'.heap.size=w.heap.size:=by simp only [w',World.freeze,Nat.one_ne_zero,if_false,Array.size_modify]
            have hK:cM w w' A (fun b=>A b∨b=g):=fun b hb=>⟨.inl hb,mD b (fun h=>aki (h▸hb))⟩
            have acG:j8 st {cond:= [0<l.length],res:= .sl [.int .u8] l,del:= [k]} k:=⟨by simp [hk], .inr (by simp [aE])⟩
            refine⟨_,w',fQ,fun b=>A b∨b=g,β,?_⟩
            refine hB.step (out:= {cond:= [0<l.length],res:= .sl [.int .u8] l,del:= [k]}) hd (by simp [ao]) (by simp [ao]) (fun _ _=>rfl) hK rfl rfl rfl (by omega) (fun b hb û=>mD b (fun h=>û k acG (by rw [h];exact wI))) ?_ ?_ (by simp [ao]) (by simp [ao]) (by simp [ao]) (by simp [ao]) ?_
            · intro b hb
              rcases hb with hb|rfl
              · have :=hB.bound b hb;omega
              · omega
            · intro b hb
              rcases hb with hb|rfl
              · exact .inl hb
              · exact .inr (.inr ⟨k,acG,wI⟩)
            · simp only [aa,Rd]
              refine⟨_,cap,xs,rfl,hn,Gi,bC (fun c x hx=>bD hK _ c x hx) _ _ qv,fun _=>⟨g,0,rfl, .inr rfl,fun j u hj=> ?_⟩⟩
              rw [←Bw,List.getElem?_take] at hj
              split at hj
              · simp only [World.cell?,de,Nat.zero_add,Option.isSome_none,Bool.false_eq_true,if_false]
                simpa using hj
              · cases hj
        · cases h
      · cases h
    · cases h
  · cases h
theorem CI(hT:bw T P)(hB:aD C A β st a w) {dst:Option Nat}(hd:∀t,dst=some t→t<st.n) {s d:TypeId} {x:AV} {v:Value}(hx:aa w A β v x) {out:Out}
  (h:kV T st.h s d x=some out) (hc:∀p∈out.cond,p):Ub P C st a w dst out (convert s d v):=by
 unfold kV at h
 split at h
 · rename_i ts td wP htd
   have nD:=jg hT wP
   have J7:=jg hT htd
   split at h
   · rename_i k0 k k' n Bz qt
     rw [Bz] at nD;rw [qt] at J7
     simp only [aa] at hx
     obtain⟨rfl,hn⟩:=hx
     have fQ:(convert s d (.int k' n)).run P w= .ok (.int k (k.wrap n)) w:=by
      simp [convert,run_underlying nD,run_underlying J7,Conv.intToInt]
     split at h
     · rename_i hr
       simp only [Option.some.injEq] at h;subst h
       have Ud:lo k≤n∧n≤hi k:=by omega
       rw [tc Ud] at fQ
       exact Reads.oK hB hd ⟨⟨rfl,rfl,rfl⟩,_,fQ,by simp only [aa];exact⟨trivial,Ud⟩⟩
     · obtain⟨hq,hr,_⟩:=l4 (w:=w) (A:=A) (β:=β) h hc
       exact Reads.oK hB hd ⟨hq,_,fQ,hr⟩
   · rename_i u Bz qt
     rw [Bz] at nD;rw [qt] at J7
     simp only [Option.some.injEq] at h;subst h
     have jH:=hx
     simp only [aa] at hx
     obtain⟨rfl,hn⟩:=hx
     exact Reads.oK hB hd ⟨⟨rfl,rfl,rfl⟩,_,by simp [convert,run_underlying nD,run_underlying J7],jH⟩
   · rename_i e u Bz qt
     rw [Bz] at nD;rw [qt] at J7
     simp only [aa] at hx
     obtain⟨rfl,hn⟩:=hx
     split at h
     · rename_i te jZ
       have J6:=jg hT jZ
       split at h
       · rename_i Uc
         rw [Uc] at J6
         simp only [Option.some.injEq] at h;subst h
         obtain⟨v',w',h1,h2⟩:=tC (P:=P) hB hd (e:=e) hn (c:= [])
         exact⟨v',w',by simp [convert,run_underlying nD,run_underlying J7,run_underlying J6,h1],h2⟩
       · cases h
     · cases h
   · rename_i e Bz qt
     rw [Bz] at nD;rw [qt] at J7
     split at h
     · rename_i te jZ
       have J6:=jg hT jZ
       split at h
       · rename_i Uc
         rw [Uc] at J6
         split at h
         · rename_i u Si hu
           simp only [Option.some.injEq] at h;subst h
           have hvs:=MA hB hx Si hu
           obtain⟨h1,h2⟩:=tB (P:=P) hB hx hu hvs.2 hvs.1
           obtain⟨ad,n,c,rfl⟩:=hvs.1
           refine Reads.oK hB hd ⟨⟨rfl,rfl,rfl⟩, .string ⟨u.toArray⟩,?_,by simp only [aa];exact⟨trivial,h2⟩⟩
           simp [convert,run_underlying nD,run_underlying J7,run_underlying J6,h1]
         · cases h
       · cases h
     · cases h
   · exact MB hT hB hd hx h hc
   · cases h
 · cases h
end
end Go.Vg

end
section
namespace Go.Vg
open Go
structure jJ (w:World) (A:Nat→Prop) (w':World) (v:Value) (res:AV) (bs:List AB) (A':Nat→Prop) (aH:Nat→Value):Prop where
 os:w'.os=w.os
 tape:w'.tape=w.tape
 output:w'.output=w.output
 size:w.heap.size≤w'.heap.size
 same:∀b,b<w.heap.size→w'.heap[b]? =w.heap[b]?
 mono:∀b,A b→A' b
 j6:∀b,b<w.heap.size→A' b→A b
 bound:∀b,A' b→b<w'.heap.size
 res:aa w' A' aH v res
 rows:∀i ab,bs[i]? =some ab→BR w' A' aH i ab∧∀b,aw (aH i)=some b→w.heap.size≤b
 apart:∀i j b,i<bs.length→j<bs.length→aw (aH i)=some b→aw (aH j)=some b→i=j
def Valid(P:Program)(G:Nat→Option GD)(f:FuncId)(s:bP):Prop :=
 ∀(w:World) (A:Nat→Prop) (β:Nat→Value) (args:List Value) (cC:List AV) (pre:Prop) (res:AV) (bs:List AB),
  (∀b,A b→b<w.heap.size)→(∀i d,G i=some d→oA w A i d)→ae w A β args cC→s cC=some (pre,res,bs)→pre→
  Calls P f args.toArray w fun e w'=>∃v,e= .returned v∧∃A' aH,jJ w A w' v res bs A' aH
def HM(β:Nat→Value)(n:Nat)(b:Nat):Prop :=∃i,i<n∧aw (β (50000+i))=some b
def MC(r:fY)(k:Nat):Prop :=(∃i ab,k=50000+i∧i<10000∧r.heap[i]? =some (some ab))∨∃j,k=60000+j∧j<r.new.length
structure Ip (w:World) (A:Nat→Prop) (β:Nat→Value) (n:Nat) (w':World) (v:Value) (r:fY) (A':Nat→Prop) (aH:Nat→Value):Prop where
 os:w'.os=w.os
 tape:w'.tape=w.tape
 output:w'.output=w.output
 size:w.heap.size≤w'.heap.size
 same:∀b,b<w.heap.size→¬HM β n b→w'.heap[b]? =w.heap[b]?
 mono:∀b,A b→A' b∧w'.heap[b]? =w.heap[b]?
 j6:∀b,b<w.heap.size→A' b→A b∨HM β n b
 bound:∀b,A' b→b<w'.heap.size
 res:aa w' A' aH v r.res
 kept:∀i ab,r.heap[i]? =some (some ab)→BR w' A' aH (50000+i) ab∧aH (50000+i)=β (50000+i)
 rows:∀j ab,r.new[j]? =some ab→BR w' A' aH (60000+j) ab∧∀b,aw (aH (60000+j))=some b→w.heap.size≤b∨HM β n b
 apart:∀k k' b,MC r k→MC r k'→aw (aH k)=some b→aw (aH k')=some b→k=k'
def cS(P:Program)(G:Nat→Option GD)(f:FuncId)(s:gk):Prop :=
 ∀(w:World) (A:Nat→Prop) (β:Nat→Value) (args:List Value) (cC:List AV) (hs:List AB) (r:fY),
  (∀b,A b→b<w.heap.size)→(∀i d,G i=some d→oA w A i d)→ae w A β args cC→
  (∀i ab,hs[i]? =some ab→BR w A β (50000+i) ab)→(∀i j b,i<hs.length→j<hs.length→aw (β (50000+i))=some b→aw (β (50000+j))=some b→i=j)→
  s cC hs=some r→r.pre→r.heap.length=hs.length→hs.length≤100→
  Calls P f args.toArray w fun e w'=>∃v,e= .returned v∧∃A' aH,Ip w A β hs.length w' v r A' aH
section
variable {P:Program} {C:Ctx} {A A':Nat→Prop} {β aH:Nat→Value} {st:St} {a:Act} {w:World} {T:bW}
theorem CJ {β aH:Nat→Value}:∀(cs:List AV) (vs:List Value),cs.all Cl=true→ae w A β vs cs→ae w A aH vs cs
 | [],vs,_,h=>by simpa only [ae] using h
 |c::cs,vs,ho,h=>by
  simp only [List.all_cons,Bool.and_eq_true] at ho
  simp only [ae] at h ⊢
  obtain⟨v,bI,rfl,h1,h2⟩:=h
  refine⟨v,bI,rfl,?_,CJ cs bI ho.2 h2⟩
  have ho1:=ho.1
  unfold Cl at ho1
  split at ho1
  · simpa only [aa,ae] using h1
  · cases ho1
mutual
theorem rS(base n:Nat)(bX:∀i,i<n→aH (base+i)=β i):∀(x:AV) (v:Value),iy n x=true→aa w A β v x→aa w A aH v (dc base x)
 | .own k,v,ho,h=>by
   simp only [iy] at ho
   have :=Nat.le_of_ble_eq_true ho
   simp only [dc,aa] at h ⊢
   rw [bX k (by omega)];exact h
 | .agg cs,v,ho,h=>by
   simp only [iy] at ho
   simp only [dc,aa] at h ⊢
   obtain⟨arr,h1,h2⟩:=h
   exact⟨arr,h1,tD base n bX cs _ ho h2⟩
 | .cK cs,v,ho,h=>by
   simp only [iy] at ho
   simp only [dc,aa] at h ⊢
   obtain⟨arr,h1,h2⟩:=h
   exact⟨arr,h1,tD base n bX cs _ ho h2⟩
 | .cW,v,ho,h=>by simp [iy] at ho
 | .pre _ _,v,ho,h=>by simp [iy] at ho
 | .view _ _ _ _,v,ho,h=>by simp [iy] at ho
 | .ref _ _,v,ho,h=>by simp [iy] at ho
 | .elem _ _ _ _,v,ho,h=>by simp [iy] at ho
 | .fn _ _ _,v,ho,h=>by simp [iy] at ho
 | .fO _ _ _,v,ho,h=>by simp [iy] at ho
 | .undef,v,_,h=>by simpa only [dc,aa] using h
 | .int _ _,v,_,h=>by simpa only [dc,aa] using h
 | .bool _,v,_,h=>by simpa only [dc,aa] using h
 | .tt,v,_,h=>by simpa only [dc,aa] using h
 | .ff,v,_,h=>by simpa only [dc,aa] using h
 | .str _,v,_,h=>by simpa only [dc,aa] using h
 | .nil,v,_,h=>by simpa only [dc,aa] using h
 | .iR,v,_,h=>by simpa only [dc,aa] using h
 | .nI _ _,v,_,h=>by simpa only [dc,aa] using h
 | .jc,v,_,h=>by simpa only [dc,aa] using h
 | .fP ks cs,v,ho,h=>by
   simp only [iy] at ho
   simp only [dc,aa] at h ⊢
   obtain⟨b,es,ck,h1,h2,h3,h4,h5⟩:=h
   exact⟨b,es,ck,h1,h2,h3,h4,CJ cs _ ho h5⟩
 | .sl _ _,v,_,h=>by simpa only [dc,aa] using h
 | .full _ _,v,_,h=>by simpa only [dc,aa] using h
theorem tD(base n:Nat)(bX:∀i,i<n→aH (base+i)=β i):∀(xs:List AV) (vs:List Value),xF n xs=true→ae w A β vs xs→ae w A aH vs (og base xs)
 | [],vs,_,h=>by simpa only [og,ae] using h
 |x::xs,vs,ho,h=>by
  simp only [xF,Bool.and_eq_true] at ho
  simp only [ae] at h
  obtain⟨v,bI,rfl,h1,h2⟩:=h
  simp only [og,ae]
  exact⟨v,bI,rfl,rS base n bX x v ho.1 h1,tD base n bX xs bI ho.2 h2⟩
end
mutual
theorem CK:∀(x:AV) (v:Value),x.dX=true→aa w A β v x→aa w A' β v x
 | .own _,v,_,h=>by simpa only [aa] using h
 | .agg cs,v,ho,h=>by
   simp only [AV.dX] at ho
   simp only [aa] at h ⊢
   obtain⟨arr,h1,h2⟩:=h
   exact⟨arr,h1,tE cs _ ho h2⟩
 | .cK cs,v,ho,h=>by
   simp only [AV.dX] at ho
   simp only [aa] at h ⊢
   obtain⟨arr,h1,h2⟩:=h
   exact⟨arr,h1,tE cs _ ho h2⟩
 | .cW,v,ho,h=>by simp [AV.dX] at ho
 | .pre _ _,v,ho,h=>by simp [AV.dX] at ho
 | .view _ _ _ _,v,ho,h=>by simp [AV.dX] at ho
 | .ref _ _,v,ho,h=>by simp [AV.dX] at ho
 | .elem _ _ _ _,v,ho,h=>by simp [AV.dX] at ho
 | .fn _ _ _,v,ho,h=>by simp [AV.dX] at ho
 | .fO _ _ _,v,ho,h=>by simp [AV.dX] at ho
 | .iR,v,ho,h=>by simp [AV.dX] at ho
 | .nI _ _,v,ho,h=>by simp [AV.dX] at ho
 | .jc,v,ho,h=>by simp [AV.dX] at ho
 | .fP _ _,v,ho,h=>by simp [AV.dX] at ho
 | .sl _ _,v,ho,h=>by simp [AV.dX] at ho
 | .full _ _,v,ho,h=>by simp [AV.dX] at ho
 | .undef,v,_,h=>by simpa only [aa] using h
 | .int _ _,v,_,h=>by simpa only [aa] using h
 | .bool _,v,_,h=>by simpa only [aa] using h
 | .tt,v,_,h=>by simpa only [aa] using h
 | .ff,v,_,h=>by simpa only [aa] using h
 | .str _,v,_,h=>by simpa only [aa] using h
 | .nil,v,_,h=>by simpa only [aa] using h
theorem tE:∀(xs:List AV) (vs:List Value),xE xs=true→ae w A β vs xs→ae w A' β vs xs
 | [],vs,_,h=>by simpa only [ae] using h
 |x::xs,vs,ho,h=>by
  simp only [xE,Bool.and_eq_true] at ho
  simp only [ae] at h ⊢
  obtain⟨v,bI,rfl,h1,h2⟩:=h
  exact⟨v,bI,rfl,CK x v ho.1 h1,tE xs bI ho.2 h2⟩
end
theorem J8:∀(row:List Ty) (vs:List Value) (x:Row row),row.all BS=true→bh w A row vs x→bh w A' row vs x
 | [],vs,_,_,h=>by simpa only [bh] using h
 |t::ts,vs,x,hf,h=>by
  simp only [List.all_cons,Bool.and_eq_true] at hf
  simp only [bh] at h ⊢
  obtain⟨v,bI,rfl,h1,h2⟩:=h
  refine⟨v,bI,rfl,?_,J8 ts bI _ hf.2 h2⟩
  cases t with
  |slice r=>simp [BS] at hf
  |int k=>simpa only [Rd] using h1
  |bool=>simpa only [Rd] using h1
  |str=>simpa only [Rd] using h1
theorem pQ(base:Nat):∀(bs:List AB) (n k:Nat),ao (eM (base+n) bs) k=(if base+n≤k then bs[k-(base+n)]? else none)
 | [],n,k=>by simp [eM,ao]
 |b::bs,n,k=>by
  simp only [eM,ao]
  by_cases hk:k=base+n
  · subst hk;simp
  · simp only [aN hk,cond_false]
    have :=pQ base bs (n+1) k
    rw [show base+(n+1)=base+n+1 by omega] at this
    rw [this]
    by_cases h1:base+n≤k
    · rw [if_pos h1,if_pos (by omega)]
      have :k-(base+n)=(k-(base+n+1))+1:=by omega
      rw [this,List.getElem?_cons_succ]
    · rw [if_neg h1,if_neg (by omega)]
theorem v7:∀(bs:List AB) (i:Nat) (ab:AB),gS bs=true→bs[i]? =some ab→∃e row l,ab= .row e row l false
 | [],i,ab,_,h=>by simp at h
 | .cells _::bs,_,_,h,_=>by simp [gS] at h
 | .arr _ _::bs,_,_,h,_=>by simp [gS] at h
 | .gj _ _ _ _ _::bs,_,_,h,_=>by simp [gS] at h
 | .views _ _ _ _ _::bs,_,_,h,_=>by simp [gS] at h
 | .row e row l true ::bs,_,_,h,_=>by simp [gS] at h
 | .row e row l false ::bs,0,ab,_,h=>by simp at h;exact⟨e,row,l,h.symm⟩
 | .row e row l false ::bs,i+1,ab,ho,h=>v7 bs i ab (by simpa [gS] using ho) (by simpa using h)
theorem v8:∀(bs:List AB) (i:Nat) (e:Nat) (row:List Ty) (l:List (Row row)) (fr:Bool),c5 bs=true→bs[i]? =some (.row e row l fr)→row.all BS=true
 | [],i,_,_,_,_,_,h=>by simp at h
 | .cells _::bs,_,_,_,_,_,h,_=>by simp [c5] at h
 | .arr _ _::bs,_,_,_,_,_,h,_=>by simp [c5] at h
 | .gj _ _ _ _ _::bs,_,_,_,_,_,h,_=>by simp [c5] at h
 | .views _ _ _ _ _::bs,_,_,_,_,_,h,_=>by simp [c5] at h
 | .row e row l fr::bs,0,e',ik,l',zg,ho,h=>by
   simp only [c5,Bool.and_eq_true] at ho
   simp only [List.getElem?_cons_zero,Option.some.injEq,AB.row.injEq] at h
   obtain⟨_,rfl,_⟩:=h
   exact ho.1
 | .row e row l fr::bs,i+1,e',ik,l',zg,ho,h=>by
   simp only [c5,Bool.and_eq_true] at ho
   exact v8 bs i e' ik l' zg ho.2 (by simpa using h)
theorem iq {h:aO}:∀(new:List (Nat×AB)) (k:Nat) (b:AB),iA h new=true→ao new k=some b→h k=none∧nO k=false
 | [],k,b,_,hf=>by simp [ao] at hf
 |(j,x)::r,k,b,ho,hf=>by
  simp only [iA,Bool.and_eq_true] at ho
  simp only [ao] at hf
  by_cases hk:k=j
  · subst hk
    cases hh:h k with
    |none=>rw [hh] at ho;exact⟨rfl,by simpa using ho.1⟩
    |some y=>simp [hh] at ho
  · simp only [aN hk,cond_false] at hf
    exact iq r k b ho.2 hf
theorem aD.call(hB:aD C A β st a w) {dst:Option Nat}(hd:∀t,dst=some t→t<st.n) {base:Nat} {res:AV} {bs:List AB} {fz:List Nat} {cond:List Prop} {v:Value} {w':World} {A1:Nat→Prop} {kO:Nat→Value}
  (wO:∀j∈fz,∃e row l fr,st.h j=some (.row e row l fr)) (de:iA st.h (eM base bs)=true) (ă:iy bs.length res=true) (hor:gS bs=true)
  (hp:jJ w (bL A β fz) w' v res bs A1 kO):
  Rel C (st.put dst {cond:=cond,res:=dc base res,ga:=bif res.dX&&c5 bs then [] else cd st.h fz,new:=eM base bs}) (a.put dst v) w':=by
 let aH:Nat→Value:=fun k=>if base≤k∧k<base+bs.length then kO (k-base) else β k
 have CL:∀i,i<bs.length→aH (base+i)=kO i:=by
  intro i hi
  simp only [aH]
  rw [if_pos (by omega)]
  congr 1;omega
 have pR:∀k,ao (eM base bs) k=(if base≤k then bs[k-base]? else none):=fun k=>by simpa using pQ base bs 0 k
 have bX:∀k,ao (eM base bs) k=none→aH k=β k:=by
  intro k h
  rw [pR k] at h
  simp only [aH]
  rw [if_neg]
  rintro⟨h1,h2⟩
  rw [if_pos h1,List.getElem?_eq_none_iff] at h
  omega
 have lU:∀k ab,ao (eM base bs) k=some ab→base≤k∧bs[k-base]? =some ab∧k-base<bs.length:=by
  intro k ab h
  rw [pR k] at h
  split at h
  · rename_i hb
    exact⟨hb,h,(List.getElem?_eq_some_iff.1 h).1⟩
  · cases h
 have wa:∀k ab,ao (eM base bs) k=some ab→aH k=kO (k-base):=by
  intro k ab h
  obtain⟨h1,h2,h3⟩:=lU k ab h
  have :=CL (k-base) h3
  rwa [show base+(k-base)=k by omega] at this
 let A2:Nat→Prop :=bif res.dX&&c5 bs then A else A1
 have akj:∀b,A b→A2 b:=by
  intro b hb
  simp only [A2]
  cases res.dX&&c5 bs with
  |true=>exact hb
  |false=>exact hp.mono b (.inl hb)
 have hK:cM w w' A A2:=fun b hb=>⟨akj b hb,hp.same b (hB.bound b hb)⟩
 have xP:∀k ab,ao (bif res.dX&&c5 bs then [] else cd st.h fz) k=some ab→(res.dX&&c5 bs)=false∧k∈fz∧∃e row l fr,st.h k=some (.row e row l fr)∧ab= .row e row l true :=by
  intro k ab h
  cases hl:res.dX&&c5 bs with
  |true=>simp [hl,ao] at h
  |false=>
   rw [hl] at h
   obtain⟨h1,h2⟩:=gA fz k ab h
   exact⟨rfl,h1,h2⟩
 refine⟨A2,aH,?_⟩
 refine hB.step (out:= {cond:=cond,res:=dc base res,ga:=bif res.dX&&c5 bs then [] else cd st.h fz,new:=eM base bs}) hd (fun k b h=>iq _ k b de h) ?_ bX hK hp.os hp.tape hp.output hp.size (fun b hb _=>hp.same b hb) ?_ ?_ ?_ ?_ ?_ ?_ ?_
 · intro k b h
   obtain⟨_,_,e,row,l,fr,h,_⟩:=xP k b h
   simp [h]
 · intro b hb
   simp only [A2] at hb
   cases hl:res.dX&&c5 bs with
   |true=>rw [hl] at hb;exact Nat.lt_of_lt_of_le (hB.bound b hb) hp.size
   |false=>rw [hl] at hb;exact hp.bound b hb
 · intro b hb
   simp only [A2] at hb
   cases hl:res.dX&&c5 bs with
   |true=>rw [hl] at hb;exact .inl hb
   |false=>
    rw [hl] at hb
    rcases Nat.lt_or_ge b w.heap.size with eB|Bx
    · rcases hp.j6 b eB hb with h|⟨j,hj,Mw⟩
      · exact .inl h
      · have hr:=wO j hj
        refine .inr (.inr ⟨j,⟨by obtain⟨_,_,_,_,hr⟩:=hr;simp [hr], .inl ?_⟩,Mw⟩)
        simp only [cond_false]
        exact mE fz j hj hr
    · exact .inr (.inl Bx)
 · intro k ab h _
   obtain⟨hl,hk,e,row,l,fr,hr,rfl⟩:=xP k ab h
   rw [jF]
   have hkn:ao (eM base bs) k=none:=by
    cases hh:ao (eM base bs) k with
    |none=>rfl
    |some y=>have :=(iq _ k y de hh).1;rw [hr] at this;cases this
   obtain⟨xs,h1,h2,h3⟩:=hB.blocks k _ hr
   simp only [BR,bX k hkn]
   refine⟨xs,fD h1 (fun b hb=>hp.same b (ke hB (by simp [hr]) hb)),bC (fun c x hx=>bD hK row c x hx) l xs h2,fun b hb=> ?_⟩
   simp only [if_true,A2,hl,cond_false]
   exact hp.mono b (.inr ⟨k,hk,hb⟩)
 · intro k ab h
   obtain⟨h1,h2,h3⟩:=lU k ab h
   obtain⟨e,row,l,rfl⟩:=v7 bs _ ab hor h2
   obtain⟨⟨xs,g1,g2,g3⟩,g4⟩:=hp.rows _ _ h2
   simp only [BR,wa k _ h]
   have qv:bZ (bh w' A2 row) xs l:=by
    simp only [A2]
    cases hl:res.dX&&c5 bs with
    |true=>
     simp only [Bool.and_eq_true] at hl
     exact bC (fun c x hx=>J8 row c x (v8 bs _ e row l false hl.2 h2) hx) l xs g2
    |false=>exact g2
   refine⟨xs,g1,qv,fun b hb=> ?_⟩
   have Ą:=g3 b hb
   simp only [Bool.false_eq_true,if_false] at Ą ⊢
   simp only [A2]
   cases hl:res.dX&&c5 bs with
   |true=>intro hA;exact absurd (hB.bound b hA) (by have :=g4 b hb;omega)
   |false=>exact Ą
 · intro k b ab h hb
   obtain⟨h1,h2,h3⟩:=lU k ab h
   rw [wa k _ h] at hb
   exact .inl ((hp.rows _ _ h2).2 b hb)
 · intro k k' b h h' hb bz
   obtain⟨x,hx⟩:=Option.isSome_iff_exists.1 h
   obtain⟨y,hy⟩:=Option.isSome_iff_exists.1 h'
   obtain⟨h1,h2,h3⟩:=lU k x hx
   obtain⟨g1,g2,g3⟩:=lU k' y hy
   rw [wa k _ hx] at hb
   rw [wa k' _ hy] at bz
   have :=hp.apart _ _ b h3 g3 hb bz
   omega
 · have qR:=rS (aH:=aH) base bs.length CL res v ă hp.res
   simp only [A2]
   cases hl:res.dX&&c5 bs with
   |false=>exact qR
   |true=>
    simp only [Bool.and_eq_true] at hl
    exact rS (aH:=aH) base bs.length CL res v ă (CK res v hl.1 hp.res)
end
end Go.Vg

end
section
namespace Go.Vg
open Go
def aP(P:Program)(f:FuncId):Prop :=∀(args:Array Value) (w:World),(callFunc f args).run P w= .ok (.enter f args) w
structure ak (P:Program) (E:Env):Prop where
 fu:bw E.T P
 sig:∀f s,E.sig f=some s→Valid P E.lj f s∧aP P f
 nJ:∀f m s,E.nJ f=some (m,s)→cS P E.lj f s∧aP P f
structure fe (P:Program) (C:Ctx) (E:Env):Prop where
 ok:ak P E
 g:C.G=E.lj
theorem fe.fu {P:Program} {C:Ctx} {E:Env}(h:fe P C E):bw E.T P:=h.ok.fu
theorem fe.nJ {P:Program} {C:Ctx} {E:Env}(h:fe P C E):∀f m s,E.nJ f=some (m,s)→cS P E.lj f s∧aP P f:=h.ok.nJ
theorem fe.sig {P:Program} {C:Ctx} {E:Env}(h:fe P C E):∀f s,E.sig f=some s→Valid P E.lj f s∧aP P f:=h.ok.sig
def gW(st:St)(o:Oper):Bool:=match o.dst with
 |some d=>Nat.blt d st.n
 |none=>true
section
variable {P:Program} {C:Ctx} {A A':Nat→Prop} {β aH:Nat→Value} {st:St} {a:Act} {w:World} {E:Env}
theorem na(hB:aD C A β st a w):∀(xs:List Operand),ae w A β (xs.map a.eval) (xs.map (ev st))
 | []=>by simp [ae]
 |x::xs=>by
  simp only [List.map_cons,ae]
  exact⟨_,_,rfl,aQ hB x,na hB xs⟩
theorem ct {dst:Option Tmp} {op:Op} {type:TypeId} {pos:String} {after:Array Edge} {guard:Option (Nat×Bool)} {s:Sem Value} {out:Out}
  (hs:∀w,(execOp a.eval ⟨dst,op,type,pos,after,guard⟩).run P w=(s.run P w).andThen fun v w'=> .ok (.value v) w') (h:∃v w',s.run P w= .ok v w'∧Rel C (st.put dst out) (a.put dst v) w')
  {K:Act→World→Prop} {Q:Exit→Act→World→Prop} (hK:∀a' w',Rel C (st.put dst out) a' w'→K a' w'):Oper.wp P ⟨dst,op,type,pos,after,guard⟩ a w K Q:=by
 obtain⟨v,w',h1,h2⟩:=h
 refine cP (v:=v) (w':=w') ?_ (hK _ _ h2)
 rw [hs,h1];rfl
theorem CM(hB:aD C A β st a w):∀(x:Option Operand),mC w A β (x.map (ev st)) (x.map a.eval)
 |none=>by simp [mC]
 |some x=>by simp only [Option.map_some,mC];exact aQ hB x
theorem CN {d:Nat} {b:AB}(h:iA st.h [(d,b)]=true):st.h d=none∧nO d=false :=iq _ d b h (by simp [ao])
theorem zz {h:aO} {k:Nat}(hf:fresh h k=true):h k=none∧nO k=false :=by
 unfold fresh at hf
 cases hk:h k with
 |none=>rw [hk] at hf;exact⟨rfl,by simpa using hf⟩
 |some b=>simp [hk] at hf
theorem J9(hE:fe P C E)(hB:aD C A β st a w) {o:Oper} {out:Out}(h:cN E st o=some out)(iS:gW st o=true)(de:iA st.h out.new=true)(hc:∀p∈out.cond,p)
  {K:Act→World→Prop} {Q:Exit→Act→World→Prop} (hK:∀a' w',Rel C (st.put o.dst out) a' w'→K a' w'):o.wp P a w K Q:=by
 have hd:∀t,o.dst=some t→t<st.n:=by
  intro t ht
  unfold gW at iS
  rw [ht] at iS
  exact Nat.le_of_ble_eq_true iS
 obtain⟨dst,op,type,pos,after,guard⟩:=o
 simp only at hd hK
 cases op with
 |move x=>
  simp only [cN,Option.some.injEq] at h;subst h
  exact cP (by simp [execOp]) (hK _ _ (Rel.jY (hB.quiet hd ⟨rfl,rfl,rfl⟩ (aQ hB x))))
 |assign x=>
  simp only [cN,Option.some.injEq] at h;subst h
  exact cP (by simp [execOp]) (hK _ _ (Rel.jY (hB.quiet hd ⟨rfl,rfl,rfl⟩ (aQ hB x))))
 |pick c x y=>
  simp only [cN] at h
  have yb:=aQ hB c
  have hx:=aQ hB x
  have hy:=aQ hB y
  split at h
  · rename_i FJ
    simp only [Option.some.injEq] at h;subst h
    rw [FJ] at yb;simp only [aa] at yb
    exact cP (v:=a.eval x) (by simp [execOp,yb,asBool]) (hK _ _ (Rel.jY (hB.quiet hd ⟨rfl,rfl,rfl⟩ hx)))
  · rename_i FJ
    simp only [Option.some.injEq] at h;subst h
    rw [FJ] at yb;simp only [aa] at yb
    exact cP (v:=a.eval y) (by simp [execOp,yb,asBool]) (hK _ _ (Rel.jY (hB.quiet hd ⟨rfl,rfl,rfl⟩ hy)))
  · rename_i p FJ
    simp only [Option.some.injEq] at h;subst h
    rw [FJ] at yb;simp only [aa] at yb
    refine cP (v:=if p then a.eval x else a.eval y) (by simp [execOp,yb,asBool]) (hK _ _ (Rel.jY (hB.quiet hd ⟨rfl,rfl,rfl⟩ ?_)))
    refine vX p _ _ ?_
    cases p
    · simpa using hy
    · simpa using hx
  · cases h
 |alloc t=>
  simp only [cN] at h
  split at h
  · rename_i te d ht
    cases MD:Nat.ble te.size 40 with
    |false=>rw [MD] at h;cases h
    |true=>
    rw [MD] at h
    simp only [cond_true] at h
    cases gG:(ofConst te.zero).cells.all AV.one with
    |false=>simp [gG] at h
    |true=>
     simp only [gG,cond_true,Option.some.injEq] at h;subst h
     exact ct (fun w=>by simp [execOp]) (Il hE.fu hB hd (CN de) ht gG) hK
  · cases h
 |box t x=>
  simp only [cN] at h
  split at h
  · rename_i d
    cases gG:(ev st x).cells.all AV.one with
    |false=>simp [gG] at h
    |true=>
     simp only [gG,cond_true,Option.some.injEq] at h;subst h
     exact ct (fun w=>by simp [execOp]) (My (t:=t) hB hd (CN de) (aQ hB x) gG) hK
  · cases h
 |build t parts=>
  simp only [cN] at h
  refine ct (s:=Instr.build t (parts.map fun(i,x)=>(i,a.eval x))) (fun w=>by simp [execOp]) (Reads.oK hB hd (Im hE.fu ?_ ?_ h)) hK
  · simp [Function.comp_def]
  · have :=na hB (parts.toList.map (·.2))
    simpa [Function.comp_def] using this
 |buildSlice t len parts=>
  simp only [cN] at h
  split at h
  · rename_i d
    cases hf:fresh st.h (st.kb+d) with
    |false=>simp [hf] at h
    |true=>
    simp only [hf,cond_true] at h
    have hn:=zz hf
    refine ct (s:=Instr.buildSlice t len (parts.map fun(i,x)=>(i,a.eval x))) (fun w=>by simp [execOp]) (yc hE.fu hB hd hn ?_ ?_ h) hK
    · simp [Function.comp_def]
    · have :=na hB (parts.toList.map (·.2))
      simpa [Function.comp_def] using this
  · cases h
 |load t x=>
  simp only [cN] at h
  exact ct (fun w=>by simp [execOp]) (Reads.oK hB hd (Aw hE.fu hB (aQ hB x) h hc)) hK
 |store t x y=>
  simp only [cN] at h
  have hx:=aQ hB x
  have hy:=aQ hB y
  have key:∃w',(Instr.storeAt t (a.eval x) (a.eval y)).run P w= .ok () w'∧Rel C (st.put dst out) (a.put dst undef) w':=by
   cases wQ:ev st x with
   |ref k off=>rw [wQ] at h hx;exact zu hE.fu hB hd hx hy h
   |elem k sz i j=>rw [wQ] at h hx;exact x4 hE.fu hB hd hx hy h hc
   |_=>rw [wQ] at h;simp [gQ] at h
  obtain⟨w',h1,h2⟩:=key
  exact qS (w':=w') (by simp [execOp,h1]) (hK _ _ h2)
 |nilCheck x=>
  simp only [cN] at h
  have hx:=aQ hB x
  have fin:∀r,ev st x=r→out= {cond:= [],res:=r}→(execOp a.eval {dst,op:= .nilCheck x,type,pos,after,guard}).run P w= .ok (.value (a.eval x)) w→Oper.wp P {dst,op:= .nilCheck x,type,pos,after,guard} a w K Q:=by
   intro r hr ho fQ
   subst ho
   exact cP fQ (hK _ _ (Rel.jY (hB.quiet hd ⟨rfl,rfl,rfl⟩ (by rw [←hr];exact hx))))
  split at h
  · rename_i k off hv
    simp only [Option.some.injEq] at h
    refine fin _ hv h.symm ?_
    rw [hv] at hx;simp only [aa] at hx
    obtain⟨b,_,hx⟩:=hx
    simp [execOp,hx]
  · rename_i r y j hv
    simp only [Option.some.injEq] at h
    refine fin _ hv h.symm ?_
    rw [hv] at hx;simp only [aa] at hx
    obtain⟨b,o,cs,hx,_⟩:=hx
    simp [execOp,hx]
  · rename_i k sz i j hv
    simp only [Option.some.injEq] at h
    refine fin _ hv h.symm ?_
    rw [hv] at hx;simp only [aa] at hx
    obtain⟨b,m,cap,_,hx⟩:=hx
    simp [execOp,hx]
  · rename_i f first bk hv
    simp only [Option.some.injEq] at h
    refine fin _ hv h.symm ?_
    rw [hv] at hx;simp only [aa] at hx
    obtain⟨a1,a2,hx,_⟩:=hx
    simp [execOp,hx]
  · cases h
 |binOp op t x y yt=>
  simp only [cN] at h
  exact ct (s:=do eqGuard op t x y (a.eval x) (a.eval y);binOp op t (a.eval x) (a.eval y)) (fun w=>by
   simp only [execOp,Sem.run_bind]
   cases (eqGuard op t x y (a.eval x) (a.eval y)).run P w<;>simp) (Reads.oK hB hd (Mn hE.fu (aQ hB x) (aQ hB y) h hc)) hK
 |unOp op t x=>
  simp only [cN] at h
  exact ct (fun w=>by simp [execOp]) (Reads.oK hB hd (Sd (aQ hB x) h hc)) hK
 |convert s d x=>
  simp only [cN] at h
  exact ct (fun w=>by simp [execOp]) (CI hE.fu hB hd (aQ hB x) h hc) hK
 |makeFunc f first bk=>
  simp only [cN,Option.some.injEq] at h;subst h
  refine cP (v:= .func f (first.map a.eval) (bk.map a.eval)) (by simp [execOp,Instr.makeFunc]) (hK _ _ (Rel.jY (hB.quiet hd ⟨rfl,rfl,rfl⟩ ?_)))
  simp only [aa]
  exact⟨_,_,rfl,by simpa using na hB first.toList,by simpa using na hB bk.toList⟩
 |makeSlice t l c=>
  simp only [cN] at h
  split at h
  · rename_i d
    cases hf:fresh st.h (st.kb+d) with
    |false=>simp [hf] at h
    |true=>
    simp only [hf,cond_true] at h
    exact ct (fun w=>by simp [execOp]) (zw hE.fu hB hd (zz hf) (aQ hB l) (aQ hB c) h hc) hK
  · cases h
 |slice t x l hi mx=>
  simp only [cN] at h
  exact ct (fun w=>by simp [execOp]) (Reads.oK hB hd (Ig hE.fu hB (aQ hB x) (CM hB l) (CM hB hi) (CM hB mx) h hc)) hK
 |fieldAddr s x f=>
  simp only [cN] at h
  exact ct (fun w=>by simp [execOp]) (Reads.oK hB hd (zk hE.fu (aQ hB x) h)) hK
 |field s x f=>
  simp only [cN] at h
  have hx:=aQ hB x
  split at h
  · rename_i ft off cs hf hv
    split at h
    · rename_i te ht
      split at h
      · rename_i r hp
        simp only [Option.some.injEq] at h;subst h
        rw [hv] at hx;simp only [aa] at hx
        obtain⟨arr,hx,hr⟩:=hx
        obtain⟨fs,fd,hu,TW,e1,e2⟩:=Ax hE.fu hf
        obtain⟨v,g1,g2⟩:=qT hE.fu ht hr hp
        refine cP (v:=v) (w':=w) ?_ (hK _ _ (Rel.jY (hB.quiet hd ⟨rfl,rfl,rfl⟩ g2)))
        rw [←e1,←e2] at g1
        simp [execOp,Instr.field,run_underlying hu,TW,hx,asAgg,g1]
      · cases h
    · cases h
  · cases h
 |indexAddr t x i=>
  simp only [cN,pM] at h
  exact ct (fun w=>by simp [execOp]) (Reads.oK hB hd (zj hE.fu hB (aQ hB x) (aQ hB i) h hc)) hK
 |lookup t x i ok=>
  simp only [cN] at h
  have hx:=aQ hB x
  have hi:=aQ hB i
  split at h
  · rename_i ks cs n wQ Ue
    rw [wQ] at hx
    rw [Ue] at hi
    simp only [aa] at hi
    refine ct (s:=Instr.lookup t (a.eval x) (a.eval i) ok) (fun w=>by simp [execOp]) (Reads.oK hB hd ?_) hK
    rw [hi.1]
    exact FD hE.fu hx h hc
  · cases h
 |extract x i=>
  simp only [cN] at h
  have hx:=aQ hB x
  split at h
  · rename_i vs hv
    split at h
    · rename_i r hr
      simp only [Option.some.injEq] at h;subst h
      rw [hv] at hx;simp only [aa] at hx
      obtain⟨arr,hx,hrel⟩:=hx
      obtain⟨v,g1,g2⟩:=pK vs _ i r hrel hr
      have g1':arr[i]? =some v:=by simpa using g1
      exact cP (v:=v) (w':=w) (by simp [execOp,Instr.extract,hx,g1']) (hK _ _ (Rel.jY (hB.quiet hd ⟨rfl,rfl,rfl⟩ g2)))
    · cases h
  · cases h
 |index t x i=>
  simp only [cN] at h
  have hx:=aQ hB x
  have hi:=aQ hB i
  split at h
  · rename_i s k n wQ Ue
    cases qt:dn E.T t nN with
    |false=>simp [qt] at h
    |true=>
    simp only [qt,cond_true,Option.some.injEq] at h;subst h
    obtain⟨h0,h1⟩:=dI hc
    obtain⟨dd,hu,aoT⟩:=oE hE.fu qt
    have hu:P.underlying t=some .string:=by rw [hu];cases dd<;>simp_all [nN]
    rw [wQ] at hx;rw [Ue] at hi;simp only [aa] at hx hi
    have eB:n.toNat<s.length:=by omega
    refine cP (v:= .int .u8 ((s.getD n.toNat 0).toNat:Int)) (w':=w) ?_ (hK _ _ (Rel.jY (hB.quiet hd ⟨rfl,rfl,rfl⟩ ?_)))
    · have hg:(⟨s.toArray⟩:ByteArray)[n.toNat]? =some (s.getD n.toNat 0):=by
       rw [getElem?_pos _ _ (by rw [qU];exact eB)]
       simp [List.getD,List.getElem?_eq_getElem eB]
       rfl
      simp [execOp,Instr.index,hx.1,hi.1,asIntOf,run_underlying hu,h0,hg]
    · simp only [aa,true_and]
      have :=(s.getD n.toNat 0).toNat_lt
      simp only [lo,Vg.hi];omega
  · rename_i cs k n wQ Ue
    rw [wQ] at hx;rw [Ue] at hi;simp only [aa] at hx hi
    obtain⟨arr,hxe,vJ⟩:=hx
    exact ct (s:=Instr.index t (.agg arr) (a.eval i)) (fun w=>by simp [execOp,hxe]) (Reads.oK hB hd (Bv hE.fu vJ hi.1 h hc)) hK
  · cases h
 |call c=>
  obtain⟨callee,args,argTypes⟩:=c
  simp only [cN] at h
  split at h
  · rename_i b
    split at h
    · rename_i x t bA wP
      have hx:=aQ hB x
      split at h
      · rename_i n hn
        cases hq:(bif rF (ev st x) then dn E.T t gh else dn E.T t nN) with
        |false=>simp [hq] at h
        |true=>
         simp only [hq,cond_true,Option.some.injEq] at h;subst h
         have ea:args= #[x]:=by apply Array.ext';simpa using bA
         have et:argTypes= #[t]:=by apply Array.ext';simpa using wP
         subst ea;subst et
         rcases Mk hB hx hn with⟨ad,l,c,hv,hl,hm⟩|⟨s,hs,hl⟩
         · have Si:rF (ev st x)=true :=by
            cases wQ:ev st x<;>first|rfl|skip
            rw [wQ] at hx;simp only [aa] at hx;rw [hv] at hx;cases hx.1
           rw [Si] at hq;simp only [cond_true] at hq
           obtain⟨d,hu,qt⟩:=oE hE.fu hq
           obtain⟨e,rfl⟩:∃e,d= .slice e:=by cases d<;>simp_all [gh]
           refine cP (v:= .int .i64 (l:Int)) (w':=w) ?_ (hK _ _ (Rel.jY (hB.quiet hd ⟨rfl,rfl,rfl⟩ (by rw [hl];exact tz l hm))))
           simp [execOp,resolve,invoke,builtin,hv,Builtin.len_,run_underlying hu,goInt]
         · rw [hs] at hx hq
           simp only [rF,cond_false] at hq
           obtain⟨d,hu,qt⟩:=oE hE.fu hq
           have hu:P.underlying t=some .string:=by rw [hu];cases d<;>simp_all [nN]
           simp only [aa] at hx
           refine cP (v:= .int .i64 (s.length:Int)) (w':=w) ?_ (hK _ _ (Rel.jY (hB.quiet hd ⟨rfl,rfl,rfl⟩ (by rw [hl];exact tz _ hx.2))))
           simp [execOp,resolve,invoke,builtin,hx.1,Builtin.len_,run_underlying hu,goInt,qU]
      · cases h
    · rename_i x y t t' bA wP
      split at h
      · rename_i d
        cases hf:fresh st.h (st.kb+d) with
        |false=>simp [hf] at h
        |true=>
         simp only [hf,cond_true] at h
         have ea:args= #[x,y]:=by apply Array.ext';simpa using bA
         have et:argTypes= #[t,t']:=by apply Array.ext';simpa using wP
         subst ea;subst et
         exact ct (s:=Builtin.append_ #[t,t'] type #[a.eval x,a.eval y]) (fun w=>by simp [execOp,resolve,invoke,builtin]) (FG hE.fu hB hd (zz hf) (aQ hB x) (aQ hB y) h hc) hK
      · cases h
    · rename_i x y t t' bA wP
      have ea:args= #[x,y]:=by apply Array.ext';simpa using bA
      have et:argTypes= #[t,t']:=by apply Array.ext';simpa using wP
      subst ea;subst et
      exact ct (s:=Builtin.copy_ #[t,t'] type #[a.eval x,a.eval y]) (fun w=>by simp [execOp,resolve,invoke,builtin]) (J3 hE.fu hB hd (aQ hB x) (aQ hB y) h hc) hK
    · rename_i x t bA wP
      have ea:args= #[x]:=by apply Array.ext';simpa using bA
      have et:argTypes= #[t]:=by apply Array.ext';simpa using wP
      subst ea;subst et
      exact ct (s:=Builtin.clear_ #[t] type #[a.eval x]) (fun w=>by simp [execOp,resolve,invoke,builtin]) (Io hE.fu hB hd (aQ hB x) h hc) hK
    · rename_i x y bA
      have ea:args= #[x,y]:=by apply Array.ext';simpa using bA
      subst ea
      have hx:=aQ hB x
      have hy:=aQ hB y
      split at h
      · rename_i k n k' m wQ hyv
        split at h
        · rename_i hk
          subst hk
          simp only [Option.some.injEq] at h;subst h
          rw [wQ] at hx;rw [hyv] at hy;simp only [aa] at hx hy
          refine cP (v:= .int k (min n m)) (w':=w) ?_ (hK _ _ (Rel.jY (hB.quiet hd ⟨rfl,rfl,rfl⟩ (by simp only [aa,true_and];omega))))
          have e:(if m<n then m else n)=min n m:=by split<;>omega
          simp [execOp,resolve,invoke,builtin,hx.1,hy.1,run_min_int2,e]
        · cases h
      · cases h
    · rename_i x y bA
      have ea:args= #[x,y]:=by apply Array.ext';simpa using bA
      subst ea
      have hx:=aQ hB x
      have hy:=aQ hB y
      split at h
      · rename_i k n k' m wQ hyv
        split at h
        · rename_i hk
          subst hk
          simp only [Option.some.injEq] at h;subst h
          rw [wQ] at hx;rw [hyv] at hy;simp only [aa] at hx hy
          refine cP (v:= .int k (max n m)) (w':=w) ?_ (hK _ _ (Rel.jY (hB.quiet hd ⟨rfl,rfl,rfl⟩ (by simp only [aa,true_and];omega))))
          have e:(if m>n then m else n)=max n m:=by split<;>omega
          simp [execOp,resolve,invoke,builtin,hx.1,hy.1,run_max_int2,e]
        · cases h
      · cases h
    · cases h
  · rename_i f
    have hf:=aQ hB f
    have key:∀(jh:FuncId) (first bk:List AV) (base:Nat),ev st f= .fn (.func jh) first bk→lk E st.h base jh (first++(args.toList.map (ev st))++bk)=some out→
      Oper.wp P {dst,op:= .call {callee:= .value f,args,argTypes},type,pos,after,guard} a w K Q:=by
     intro jh first bk base oL iJ
     rw [oL] at hf;simp only [aa] at hf
     obtain⟨a1,a2,Ik,r1,r2⟩:=hf
     unfold lk at iJ
     split at iJ
     · rename_i s hs
       split at iJ
       · rename_i pre res bs Sj
         cases hq:(Nat.ble bs.length 100&&iy bs.length res&&gS bs) with
         |false=>simp [hq] at iJ
         |true=>
          simp only [hq,cond_true,Option.some.injEq] at iJ
          subst iJ
          simp only [Bool.and_eq_true] at hq
          obtain⟨hv,ME⟩:=hE.sig jh s hs
          have bA:=dJ _ _ _ _ (dJ _ _ _ _ r1 (na hB args.toList)) r2
          obtain⟨p1,p2⟩:=zv (A':=bL A β (je st.h (first++(args.toList.map (ev st))++bk)).2) hB (fun b h=> .inl h) _ _ bA (fun k hk b hb=> .inr ⟨k,hk,hb⟩)
          have Mx:∀b,bL A β (je st.h (first++(args.toList.map (ev st))++bk)).2 b→b<w.heap.size:=by
           intro b h
           rcases h with h|⟨j,hj,hb⟩
           · exact hB.bound b h
           · obtain⟨e',r',l',f',hr⟩:=p2 j hj
             exact ke hB (by simp [hr]) hb
          have qx:=hv w _ β _ _ pre res bs Mx (fun i d hi=>(hB.laid i d (by rw [hE.g];exact hi)).mono (fun b h=>⟨.inl h,rfl⟩)) p1 Sj (dI hc)
          have fQ:(execOp a.eval {dst,op:= .call {callee:= .value f,args,argTypes},type,pos,after,guard}).run P w= .ok (.enter jh (a1.toList++args.toList.map a.eval++a2.toList).toArray) w:=by
           have e:(a1++args.map a.eval)++a2=(a1.toList++args.toList.map a.eval++a2.toList).toArray:=by
            apply Array.ext';simp
           have :=ME (a1++args.map a.eval++a2) w
           rw [e] at this
           simp only [execOp,resolve,Ik,Deferred.ofValue,Sem.run_bind,Sem.run_pure,Result.andThen_ok,invoke,e,this]
          unfold Oper.wp
          rw [fQ]
          simp only [Oper.upon_enter]
          refine qx.mono fun e w' ⟨v,he,A1,kO,oM⟩=> ?_
          subst he
          exact hK _ _ (hB.call hd p2 de hq.1.2 hq.2 oM)
       · cases iJ
     · cases iJ
    split at h
    · rename_i jh first bk d oL
      exact key jh first bk _ oL h
    · rename_i jh first bk oL
      exact key jh first bk _ oL h
    · cases h
  · cases h
 |_=>simp [cN] at h
end
end Go.Vg

end
