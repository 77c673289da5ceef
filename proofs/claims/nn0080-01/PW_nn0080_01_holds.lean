import PyProof.Rows.All
import Wide.All
import OpenK.AllK
import Wide.FinOn
import Lean
import PySem.Challenge.RW_nn0080_01
set_option Elab.async false
set_option maxRecDepth 1000000
set_option maxHeartbeats 0
set_option genSizeOfSpec false
set_option genInjectivity false
set_option genSizeOf false
set_option bootstrap.genMatcherCode false
set_option tactic.hygienic false
set_option linter.all false
open PySem PySem.W PySem.Calls PyProof.Rows
namespace Mine
noncomputable abbrev pw:=PySem.Challenge.pw_nn0080_01
noncomputable def mF:Pos:={line:=0,col:=0,endLine:=0,endCol:=0}
noncomputable def uS:Env:={scope:=pw.main.scope,locals:=mainNs,globals:=mainNs,cells:=[],code:=.ref 13,frame:=some 14}
noncomputable def bE:List Stmt:=behindTheImports pw
noncomputable def cE:Code:=.body bE uS
noncomputable def Lm:Obj:=⟨Value.type "tuple",none,Data.seq #[] 0,#[]⟩
noncomputable def SI:Obj:=⟨Value.none,none,Data.fields #[],#[]⟩
noncomputable def Ly:Obj:=⟨Value.type "code",none,
    Data.fields
      #[Value.str (Str.ofString "<module>") 182,Value.str (Str.ofString "<module>") 183,
        Value.str (Str.ofString "/claim/cut.py") 184,Value.int 1 0,Value.int 0 0,Value.int 0 0,Value.int 0 0,
        Value.int 0 0,Value.ref 11,Value.bool false,Value.int 181 0,Value.ref 12,Value.none,Value.none,
        Value.none,Value.none,Value.int 185 0,Value.int 1 0,Value.str (Str.ofString "/claim/cut.py") 186],#[]⟩
noncomputable def LA:Obj:=⟨Value.type "frame",none,.plain,
   #[some (Value.ref 13),some (Value.ref 3),some (Value.ref 3),none,some (Value.str (Str.ofString "__main__") 164),
      none,some (Value.ref 0)]⟩
noncomputable def Ha(P:Params):Heap:=⟨⟨[boot_o_0 P,boot_o_1 P,boot_o_2 P,boot_o_3 P,boot_o_4 P,boot_o_5 P,boot_o_6 P,boot_o_7 P,boot_o_8 P,boot_o_9 P,boot_o_10 P,Lm,SI,Ly,LA]⟩,(boot_heap P).life⟩
theorem pre(w:World)(os:OsState):topGo treeTable pw w 11 (some (.ref 6)) 12 ⟨boot_heap w.params,#[],boot_drawn,boot_toks,os⟩ (topStub pw)=some (⟨Ha w.params,#[],boot_drawn,187,os⟩,⟨denote treeTable cE,cE,mF,[topFrame mF]⟩):=by kernel_rfl
noncomputable def Ta(P:Params):BT:=((((((((((((((BT.nil.ins 0 (boot_o_0 P)).ins 1 (boot_o_1 P)).ins 2 (boot_o_2 P)).ins 3 (boot_o_3 P)).ins 4 (boot_o_4 P)).ins 5 (boot_o_5 P)).ins 6 (boot_o_6 P)).ins 7 (boot_o_7 P)).ins 8 (boot_o_8 P)).ins 9 (boot_o_9 P)).ins 10 (boot_o_10 P)).ins 11 Lm).ins 12 SI).ins 13 Ly).ins 14 LA
noncomputable def Sb(w:World)(os:OsState):SharedT:=⟨Ta w.params,15,(boot_heap w.params).life,#[],boot_drawn,187,os⟩
theorem Oi(w:World)(os:OsState):segRun treeTable pw w 11 (some (.ref 6)) 1 1 ⟨Ha w.params,#[],boot_drawn,187,os⟩ (blockOf bE uS cE mF [topFrame mF])=some (.next,(Sb w os).abs,cE,mF):=by kernel_rfl
section
set_option backward.match.sparseCases false
structure xh where
 code:Addr
 P:Addr
 key:Str
 line:Nat
 col:Nat
 fn:Str
noncomputable def xh.qual(l:xh):Str:=l.fn++(".<locals>.":Str)++("<lambda>":Str)
noncomputable def iF:List xh:=[⟨1189,1185,"ahead",779,47,"_law_read_right"⟩,⟨1231,1227,"iset",833,22,"_law_refused"⟩]
inductive Bi where
 |len|append|extend|pop|split|lstrip|any|get
noncomputable def Bi.name:Bi→String
 |.len=>"len"
 |.append=>"list.append"
 |.extend=>"list.extend"
 |.pop=>"list.pop"
 |.split=>"str.split"
 |.lstrip=>"str.lstrip"
 |.any=>"any"
 |.get=>"dict.get"
inductive Ti where
 |int|str|bytes|list|tuple|range|zip|enumerate
noncomputable def Ti.name:Ti→String
 |.int=>"int"
 |.str=>"str"
 |.bytes=>"bytes"
 |.list=>"list"
 |.tuple=>"tuple"
 |.range=>"range"
 |.zip=>"zip"
 |.enumerate=>"enumerate"
inductive V where
 |none
 |bool (k b:Bool)
 |int (k:Bool) (x:Int)
 |str (k:Bool) (s:Str)
 |bytes (k:Bool) (xs:List Int)
 |irow (k:Bool) (xs:List Int)
 |tup (vs:List V)
 |inst (C:Addr) (fs:List (Str×V))
 |list (vs:List V)
 |dict (es:List (V×V))
 |ref (i:Nat)
 |glob (a:Addr)
 |blt (s:Bi)
 |typ (s:Ti)
 |named (k:Nat)
 |rng (k:Bool) (n:Int)
inductive O where
 |list (vs:List V)
 |dict (es:List (V×V))
 |inst (C:Addr) (d:Nat)
 |ns (fs:List (Str×V))
 |frz (v:V)
inductive Tr where
 |nil
 |node (v:Option O) (l r:Tr)
namespace Tr
noncomputable def get:Tr→Nat→Option O
  |.nil,_=>none
  | .node v l r,i=>match Nat.beq i 0 with
    |true=>v
    | false=>match Nat.beq (i % 2) 1 with
      |true=>l.get (i / 2)
      |false=>r.get (i / 2 - 1)
noncomputable def set:Tr→Nat→Option O→Tr
  |.nil,_,_=>.nil
  | .node v l r,i,o=>match Nat.beq i 0 with
    |true=>.node o l r
    | false=>match Nat.beq (i % 2) 1 with
      |true=>.node v (l.set (i / 2) o) r
      |false=>.node v l (r.set (i / 2 - 1) o)
noncomputable def ins:Tr→Nat→O→Tr
  |.nil,_,o=>.node (some o) .nil .nil
  | .node v l r,i,o=>match Nat.beq i 0 with
    |true=>.node (some o) l r
    | false=>match Nat.beq (i % 2) 1 with
      |true=>.node v (l.ins (i / 2) o) r
      |false=>.node v l (r.ins (i / 2 - 1) o)
end Tr
noncomputable def oP{α:Type}(o:Option α)(K:α→Prop):Prop:=match o with
 |some x=>K x
 |none=>False
noncomputable def oE{α:Type}(o:Option α)(K:α→Prop)(L:Prop):Prop:=match o with
 |some x=>K x
 |none=>L
noncomputable def bP(b:Bool)(P:Prop):Prop:=match b with
 |true=>P
 |false=>False
noncomputable def iE(b:Bool)(P Q:Prop):Prop:=match b with
 |true=>P
 |false=>Q
noncomputable def oX{α β:Type}(o:Option α)(f:α→β)(g:β):β:=match o with
 |some x=>f x
 |none=>g
noncomputable def oO{α β:Type}(o:Option α)(f:α→Option β):Option β:=oX o f none
noncomputable def oB{α:Type}(o:Option α)(f:α→Bool):Bool:=oX o f false
noncomputable def bX{β:Type}(b:Bool)(x y:β):β:=match b with
 |true=>x
 |false=>y
noncomputable def bO{β:Type}(b:Bool)(x:Option β):Option β:=bX b x none
noncomputable def vB(v:V):Option (Bool×Bool):=match v with
 |.bool k x=>some (k,x)
 |_=>none
noncomputable def vI(v:V):Option (Bool×Int):=match v with
 |.int k x=>some (k,x)
 |_=>none
noncomputable def vS(v:V):Option (Bool×Str):=match v with
 |.str k x=>some (k,x)
 |_=>none
noncomputable def vY(v:V):Option (Bool×List Int):=match v with
 |.bytes k x=>some (k,x)
 |_=>none
noncomputable def vW(v:V):Option (Bool×List Int):=match v with
 |.irow k x=>some (k,x)
 |_=>none
noncomputable def vT(v:V):Option (List V):=match v with
 |.tup x=>some x
 |_=>none
noncomputable def vL(v:V):Option (List V):=match v with
 |.list x=>some x
 |_=>none
noncomputable def vD(v:V):Option (List (V×V)):=match v with
 |.dict x=>some x
 |_=>none
noncomputable def vN(v:V):Option (Addr×List (Str×V)):=match v with
 |.inst C x=>some (C,x)
 |_=>none
noncomputable def vR(v:V):Option Nat:=match v with
 |.ref x=>some x
 |_=>none
noncomputable def vG(v:V):Option Addr:=match v with
 |.glob x=>some x
 |_=>none
noncomputable def vM(v:V):Option Nat:=match v with
 |.named x=>some x
 |_=>none
noncomputable def vQ(v:V):Option (Bool×Int):=match v with
 |.rng k x=>some (k,x)
 |_=>none
noncomputable def OY(v:V):Option Ti:=match v with
 |.typ x=>some x
 |_=>none
noncomputable def yb(v:V):Bool:=match v with
 |.none=>true
 |_=>false
noncomputable def oL(o:Option O):Option (List V):=oO o fun x=>match x with
 |.list x=>some x
 |_=>none
noncomputable def oD(o:Option O):Option (List (V×V)):=oO o fun x=>match x with
 |.dict x=>some x
 |_=>none
noncomputable def oI(o:Option O):Option (Addr×Nat):=oO o fun x=>match x with
 |.inst C d=>some (C,d)
 |_=>none
noncomputable def oN(o:Option O):Option (List (Str×V)):=oO o fun x=>match x with
 |.ns x=>some x
 |_=>none
noncomputable def oF(o:Option O):Option V:=oO o fun x=>match x with
 |.frz x=>some x
 |_=>none
noncomputable def wm:List V→Option V
  |[]=>none
  | a::r=>match r with
    |[]=>some a
    |_::_=>none
noncomputable def ET:List V→Option (V×V)
 |[]=>none
 |a::r=>oO (wm r) fun b=>some (a,b)
noncomputable def Ll:List V→Option (V×V×V)
 |[]=>none
 |a::r=>oO (ET r) fun b=>some (a,b)
noncomputable def Si:List V→Option (V×V×V×V)
 |[]=>none
 |a::r=>oO (Ll r) fun b=>some (a,b)
noncomputable def nS(x:Int):Option Nat:=match x with
 |.ofNat n=>some n
 |.negSucc _=>none
noncomputable def iJ{α:Type}(l:List α):Bool:=match l with
 |[]=>true
 |_::_=>false
noncomputable def fX:List Nat→List Nat→Bool
  |[],l=>iJ l
  | a::x,l=>match l with
    |[]=>false
    |b::y=>bX (Nat.beq a b) (fX x y) false
noncomputable def aE(a b:Str):Bool:=fX a.cps.toList b.cps.toList
noncomputable def lk{α:Type}(x:Str):List (Str×α)→Option α
 |[]=>none
 |p::r=>bX (aE x p.1) (some p.2) (lk x r)
noncomputable def put{α:Type}(x:Str)(v:α):List (Str×α)→List (Str×α)
 |[]=>[(x,v)]
 |(y,u)::r=>bX (aE x y) ((y,v)::r) ((y,u)::put x v r)
structure aR where
 tr:Tr
 nx:Nat
structure St where
 fm:List (Str×V)
 ob:aR
noncomputable def aZ(k b:Bool)(p q:Prop):Prop:=match k with
  | true=>match b with
    |true=>p
    |false=>q
  |false=>(b=true→p)∧(b=false→q)
noncomputable def ay(a b:Bool):Bool:=match a with
 |true=>b
 |false=>false
noncomputable def small(n:Nat):Bool:=Nat.blt n 18446744073709551616
noncomputable def few(n:Nat):Bool:=Nat.ble n 1000
noncomputable def eM(k b:Bool)(p:Prop):Prop:=match k with
  | true=>match b with
    |true=>p
    |false=>False
  |false=>b=true∧p
noncomputable def bW(b:Bool):Bool:=match b with
 |true=>false
 |false=>true
noncomputable def qR(op:Operator)(k:Bool)(x y:Int):Option V:=match op with
 |.Add=>some (.int k (x+y))
 |.Sub=>some (.int k (x - y))
 |.BitAnd=>some (.int k (Builtin.bitAnd x y))
 |.BitOr=>some (.int k (Builtin.bitOr x y))
 |_=>none
noncomputable def tN(op:Operator)(k:Bool)(x:Int)(n:Nat)(K:V→Prop):Prop:=match op with
 |.FloorDiv=>bP (bW (Nat.beq n 0)) (bP (small n) (K (.int k (x.fdiv (Int.ofNat n)))))
 |.Mod=>bP (bW (Nat.beq n 0)) (K (.int k (x.fmod (Int.ofNat n))))
 |.Mult=>bP (small n) (K (.int k (x*Int.ofNat n)))
 |.RShift=>K (.int k (x.fdiv (2 ^ n)))
 |.LShift=>bP (few n) (eM k (small x.natAbs) (K (.int k (x*2 ^ n))))
 |op=>oP (qR op k x (Int.ofNat n)) K
noncomputable def KQ(x:Int):Bool:=decide (0 < x)
noncomputable def bc{α:Type}:List α→List α→List α
 |[],l=>l
 |x::r,l=>x::bc r l
noncomputable def Hq(p:Bool×Int):Option Nat:=bO p.1 (nS p.2)
noncomputable def Ir(op:Operator)(p q:Bool×Int)(K:V→Prop):Prop:=match op with
 |.Mult=>oP (Hq p) fun n=>bP (small n) (K (.int q.1 (Int.ofNat n*q.2)))
 |.Mod=>eM false (KQ q.2) (K (.int (ay p.1 q.1) (p.2.fmod q.2)))
 |op=>oP (qR op (ay p.1 q.1) p.2 q.2) K
noncomputable def N4(op:Operator):Bool:=match op with
 |.Add=>true
 |_=>false
noncomputable def Sa(a b:V):Option ((Bool×Int)×(Bool×Int)):=oO (vI a) fun p=>oO (vI b) fun q=>some (p,q)
noncomputable def SA(a b:V):Option ((Bool×Str)×(Bool×Str)):=oO (vS a) fun p=>oO (vS b) fun q=>some (p,q)
noncomputable def S8(a b:V):Option ((Bool×List Int)×(Bool×List Int)):=oO (vY a) fun p=>oO (vY b) fun q=>some (p,q)
noncomputable def AJ(op:Operator)(a b:V)(K:V→Prop):Prop:=oE (Sa a b) (fun p=>oE (Hq p.2) (fun n=>tN op p.1.1 p.1.2 n K) (Ir op p.1 p.2 K))
 (oP (SA a b) fun p=>bP (N4 op) (eM (ay p.1.1 p.2.1) (few (p.1.2.length+p.2.2.length)) (K (.str (ay p.1.1 p.2.1) (p.1.2++p.2.2)))))
noncomputable def bb{α:Type}(f:α→Bool):List α→Bool
 |[]=>true
 |x::r=>bX (f x) (bb f r) false
noncomputable def Sv(c:Nat):Bool:=Nat.blt c 1114112
noncomputable def Iz(s:Str):Bool:=bb Sv s.cps.toList
noncomputable def j5{α β:Type}(f:α→Option β):List α→Option (List β)
 |[]=>some []
 |x::r=>oO (f x) fun y=>oO (j5 f r) fun l=>some (y::l)
noncomputable def dG:List Int→List PyData
 |[]=>[]
 |x::r=>.int x::dG r
noncomputable def Rw(ob:Tr)(n:Nat):V→Option PyData:=@Nat.rec (fun _=>V→Option PyData) (fun _=>none) (fun _ f v=>match v with
 |.none=>some .none
 |.bool _ b=>some (.bool b)
 |.int _ x=>some (.int x)
 |.str _ x=>some (.str x)
 |.irow _ xs=>some (.list (dG xs))
 |.tup vs=>oO (j5 f vs) fun l=>some (.tuple l)
 |.list vs=>oO (j5 f vs) fun l=>some (.list l)
 |.ref i=>oX (oL (ob.get i)) (fun vs=>oO (j5 f vs) fun l=>some (.list l)) (oO (oF (ob.get i)) f)
 |_=>none) n
noncomputable def nr(ob:Tr)(n:Nat):V→Bool:=@Nat.rec (fun _=>V→Bool) (fun _=>false) (fun _ f v=>match v with
 |.none=>true
 |.bool k _=>k
 |.int k _=>k
 |.str k _=>k
 |.tup vs=>bb f vs
 |.list vs=>bb f vs
 |.ref i=>oX (oL (ob.get i)) (bb f) (oB (oF (ob.get i)) f)
 |_=>false) n
noncomputable def OQ(f:PyData→PyData→Bool):List PyData→List PyData→Bool
  |[],l=>iJ l
  | x::a,l=>match l with
    |[]=>false
    |y::b=>bX (f x y) (OQ f a b) false
noncomputable def fB(n:Nat):PyData→PyData→Bool:=@Nat.rec (fun _=>PyData→PyData→Bool) (fun d e=>PyData.eqv d e) (fun _ f d e=>match d with
  | .str x=>match e with
    |.str y=>aE x y
    |_=>false
  | .int x=>match e with
    |.int y=>x==y
    |e=>PyData.eqv (.int x) e
  | .tuple a=>match e with
    |.tuple b=>OQ f a b
    |_=>false
  | .list a=>match e with
    |.list b=>OQ f a b
    |_=>false
  |d=>PyData.eqv d e) n
noncomputable def DM(op:CmpOp)(x y:Int):Option Bool:=match op with
 |.Eq=>some (x==y)
 |.NotEq=>some (x != y)
 |.Lt=>some (decide (x < y))
 |.LtE=>some (decide (x≤y))
 |.Gt=>some (decide (y < x))
 |.GtE=>some (decide (y≤x))
 |_=>none
noncomputable def isNone:V→Option Bool
 |.none=>some true
 |.ref _=>some false
 |.tup _=>some false
 |.inst .. => some false
 |.list _=>some false
 |.dict _=>some false
 |.int .. => some false
 |.str .. => some false
 |.bytes .. => some false
 |.irow .. => some false
 |.bool .. => some false
 |.glob _=>some false
 |_=>none
noncomputable def dy{α:Type}(f:α→Bool):List α→Bool
  |[]=>false
  | x::r=>match f x with
    |true=>true
    |false=>dy f r
noncomputable def c7(g b:Bool):Bool:=match g with
  | true=>match b with
    |true=>false
    |false=>true
  |false=>b
noncomputable def t3(v:V):Option (Int×Int×Int):=oO (vT v) fun vs=>oO (Ll vs) fun p=>oO (vI p.1) fun x=>oO (vI p.2.1) fun y=>oO (vI p.2.2) fun z=>some (x.2,y.2,z.2)
noncomputable def bu(a b:V):Bool:=oX (vS a) (fun x=>oB (vS b) fun y=>aE x.2 y.2) (oX (vI a) (fun x=>oB (vI b) fun y=>x.2==y.2) (oB (t3 a) fun x=>oB (t3 b) fun y=>bX (x.1==y.1) (bX (x.2.1==y.2.1) (x.2.2==y.2.2) false) false))
noncomputable def gM(v:V):Bool:=oX (vS v) (fun _=>true) (oX (vI v) (fun _=>true) (oB (t3 v) fun _=>true))
noncomputable def ip(a b:V):Bool:=oX (vS a) (fun _=>oB (vS b) fun _=>true) (oX (vI a) (fun _=>oB (vI b) fun _=>true) (oB (t3 a) fun _=>oB (t3 b) fun _=>true))
noncomputable def n7(ob:Tr)(v:V):Option (List (V×V)):=oX (vD v) some (oO (vR v) fun i=>oX (oD (ob.get i)) some (oO (oF (ob.get i)) vD))
noncomputable def dQ(key:V):List (V×V)→Bool
 |[]=>true
 |p::r=>bX (ip key p.1) (dQ key r) false
noncomputable def oM(key:V):List (V×V)→Bool
 |[]=>false
 |p::r=>bX (bu key p.1) true (oM key r)
noncomputable def j9(ob:Tr):List (V×V)→Bool
 |[]=>true
 |p::r=>bX (nr ob 3 p.1) (j9 ob r) false
noncomputable def Ii(d:PyData):Option (List PyData):=match d with
 |.list l=>some l
 |.tuple l=>some l
 |_=>none
noncomputable def I5(op:CmpOp)(d e:PyData):Option Bool:=match op with
 |.Eq=>some (fB 8 d e)
 |.NotEq=>some (c7 true (fB 8 d e))
 |.In=>oO (Ii e) fun l=>some (dy (fun y=>fB 8 y d) l)
 |.NotIn=>oO (Ii e) fun l=>some (c7 true (dy (fun y=>fB 8 y d) l))
 |_=>none
noncomputable def IL(ob:Tr)(op:CmpOp)(a b:V):Option (Bool×Bool):=oO (Rw ob 8 a) fun d=>oO (Rw ob 8 b) fun e=>oO (I5 op d e) fun r=>some (ay (nr ob 8 a) (nr ob 8 b),r)
noncomputable def Oo(op:CmpOp)(k r:Bool):Option (Bool×Bool):=match op with
 |.In=>some (k,r)
 |.NotIn=>some (k,c7 true r)
 |_=>none
noncomputable def wV(ob:Tr)(op:CmpOp)(a b:V):Option (Bool×Bool):=oX (n7 ob b) (fun es=>bO (dQ a es) (bO (gM a) (Oo op (ay (nr ob 3 a) (j9 ob es)) (oM a es)))) (IL ob op a b)
noncomputable def cF:List Int→List Int→Bool
  |[],l=>iJ l
  | x::a,l=>match l with
    |[]=>false
    |y::b=>bX (x==y) (cF a b) false
noncomputable def Nt(op:CmpOp)(k:Bool)(x y:Str):Option (Bool×Bool):=match op with
 |.Eq=>some (k,aE x y)
 |.NotEq=>some (k,c7 true (aE x y))
 |.In=>some (k,c7 true (Builtin.Str.occurrences y x 0 y.length 1).isEmpty)
 |_=>none
noncomputable def ME(op:CmpOp)(x y:List Int):Option (Bool×Bool):=match op with
 |.Eq=>some (false,cF x y)
 |.NotEq=>some (false,c7 true (cF x y))
 |_=>none
noncomputable def NL(op:CmpOp)(a:V):Option (Bool×Bool):=match op with
 |.Is=>oO (isNone a) fun r=>some (true,r)
 |.IsNot=>oO (isNone a) fun r=>some (true,c7 true r)
 |_=>none
noncomputable def N8(ob:Tr)(op:CmpOp)(a b:V):Option (Bool×Bool):=oX (Sa a b) (fun p=>oO (DM op p.1.2 p.2.2) fun r=>some (ay p.1.1 p.2.1,r)) (oX (SA a b) (fun p=>Nt op (ay p.1.1 p.2.1) p.1.2 p.2.2) (oX (S8 a b) (fun p=>ME op p.1.2 p.2.2)
 (bX (yb b) (NL op a) (wV ob op a b))))
inductive Fl where
 |next|brk|cont
 |ret (v:V)
structure af where
 ps:List Str
 ds:List V
 body:List Stmt
 sc:Scope
inductive bY where
 |fn (f:Addr)
 |own
noncomputable abbrev bf:=List V→(V→Prop)→(Addr→Prop)→Prop
inductive JT where
 |int|bool|str|bit|itemI|itemS
structure ck where
 G:Str→Option V
 FI:Addr→Option af
 C:Addr→Option (Nat×bf)
 CI:Addr→Option Addr
 CM:Addr→Str→Option bY
 CS:Addr→Str→Option Addr
 X:Str→Option Addr
 NM:Nat→Option Addr
 J:Nat→Nat→Option JT
 R:Addr→Prop
structure bw(α:Type) where
 run:St→(α→St→Prop)→Prop
noncomputable def bw.bad{α:Type}:bw α:=⟨fun _ _=>False⟩
noncomputable def oA{α β:Type}(o:Option α)(f:α→bw β):bw β:=oX o f .bad
noncomputable def bA{β:Type}(b:Bool)(a:bw β):bw β:=bX b a .bad
structure Ev where
 ex:Expr→Scope→bw V
 tr:Expr→Scope→bw Bool
 es:List Expr→Scope→bw (List V)
 ss:List Stmt→Scope→bw Fl
 call:V→List V→aR→(V→aR→Prop)→Prop
 ex0:Expr→Scope→bw V
 heard:Addr→List V→aR→(V→aR→Prop)→Prop
noncomputable def bB(sc:Scope)(x:Str):Bool:=oB (lk x sc.names) fun k=>match k with
 |.local=>bW (aE x "__debug__")
 |.cell=>bW (aE x "__debug__")
 |_=>false
noncomputable def cq(sc:Scope)(x:Str):Bool:=oB (lk x sc.names) fun k=>match k with
 |.globalImplicit=>bW (aE x "__debug__")
 |_=>false
noncomputable def t9(e:Expr):Bool:=match e with
 |.Attribute .. => true
 |_=>false
noncomputable def pO(e:Expr):Bool:=match e with
 |.Name .. => true
 |.Attribute .. => true
 |.Subscript .. => true
 |.Dict .. => true
 |.Call f as _ _=>bX (iJ as) (t9 f) true
 |_=>false
noncomputable def qB(o:Expr)(as:List Expr)(apos pos:Pos):Bool:=ay (pO o) (ay (Nat.blt as.length 30) (apos.endLine==pos.line))
noncomputable def bZ(o:aR)(i:Nat)(x:O):aR:=⟨o.tr.set i (some x),o.nx⟩
noncomputable def lr(o:aR)(i:Nat):aR:=⟨o.tr.set i none,o.nx⟩
noncomputable def bo(ob:aR)(x:O)(K:V→aR→Prop):Prop:=oP ((ob.tr.ins ob.nx x).get ob.nx) fun _=>K (.ref ob.nx) ⟨ob.tr.ins ob.nx x,ob.nx+1⟩
noncomputable def jq(ob:Tr)(v:V):Option (Bool×List V):=oX (vT v) (fun vs=>some (true,vs)) (oX (vL v) (fun vs=>some (false,vs)) (oO (vR v) fun i=>oX (oL (ob.get i)) (fun vs=>some (false,vs)) (oO (oF (ob.get i)) fun u=>oO (vL u) fun vs=>some (false,vs))))
noncomputable def sI(ob:Tr)(v:V):Option (List V):=oO (jq ob v) fun p=>bO (bW p.1) (some p.2)
noncomputable def iR:List V→Option (List (Bool×Int))
 |[]=>some []
 |v::r=>oO (vI v) fun p=>oO (iR r) fun l=>some (p::l)
noncomputable def nY:List (Bool×Int)→List Int
 |[]=>[]
 |p::r=>p.2::nY r
noncomputable def Hn(ob:Tr)(v:V):Option (Bool×List Int):=oX (vW v) some (oO (sI ob v) fun vs=>oO (iR vs) fun l=>some (true,nY l))
noncomputable def w8(ob:Tr)(v:V):Option (Addr×List (Str×V)):=oX (vN v) some (oO (vR v) fun i=>oX (oI (ob.get i)) (fun p=>oO (oN (ob.get p.2)) fun fs=>some (p.1,fs)) (oO (oF (ob.get i)) vN))
noncomputable def uc(v:V):Option (Bool×Bool):=match v with
 |.none=>some (true,false)
 |.bool k b=>some (k,b)
 |.int k x=>some (k,x != 0)
 |_=>none
noncomputable def c8(v:V)(σ:St)(K:Bool→St→Prop):Prop:=oP (uc v) fun p=>aZ p.1 p.2 (K true σ) (K false σ)
noncomputable def rQ(v:V)(g:Bool):V:=oX (vB v) (fun _=>.bool true g) v
noncomputable def ji(op:CmpOp)(a b:V)(σ:St)(Q:V→St→Prop):Prop:=oP (N8 σ.ob.tr op a b) fun p=>Q (.bool p.1 p.2) σ
noncomputable def xP(name:Str):Option Bi:=bX (aE name "split") (some .split) (bO (aE name "lstrip") (some .lstrip))
noncomputable def tq(name:Str):Option Bi:=bX (aE name "append") (some .append) (bX (aE name "extend") (some .extend) (bO (aE name "pop") (some .pop)))
noncomputable def xT(ob:Tr)(ov:V)(name:Str):Option Bi:=oX (vS ov) (fun _=>xP name) (oX (n7 ob ov) (fun _=>bO (aE name "get") (some .get)) (oO (sI ob ov) fun _=>tq name))
noncomputable def qU{α:Type}:List α→Nat→Option α
  |[],_=>none
  | x::r,n=>match n with
    |0=>some x
    |n+1=>qU r n
noncomputable def bR{α:Type}:List α→Nat→List α
  |[],_=>[]
  | x::r,n=>match n with
    |0=>r
    |n+1=>x::bR r n
noncomputable def bV(x:Int):Bool:=ay (decide (0≤x)) (decide (x < 256))
noncomputable def qQ:List (Bool×Int)→Prop→Prop
 |[],p=>p
 |x::r,p=>eM x.1 (bV x.2) (qQ r p)
noncomputable def bM:List Int→List V
 |[]=>[]
 |x::r=>.int false x::bM r
noncomputable def jl:List Str→List V
 |[]=>[]
 |x::r=>.str true x::jl r
noncomputable def Lh:List V→Option (Bool×Bool)
 |[]=>some (true,false)
 |v::r=>oO (vB v) fun p=>oO (Lh r) fun q=>some (ay p.1 q.1,bX p.2 true q.2)
noncomputable def xd(ob:Tr)(key:V)(miss:Prop)(Q:V→Prop):List (V×V)→Prop
 |[]=>miss
 |p::r=>aZ (ay (nr ob 3 key) (nr ob 3 p.1)) (bu key p.1) (Q p.2) (xd ob key miss Q r)
noncomputable def K0(vs:List V)(x:Int)(i:Nat)(Q:V→List V→Prop):Prop:=@Nat.rec (fun _=>Nat→Prop) (fun _=>True) (fun _ f j=>oE (qU vs j) (fun v=>(x=Int.ofNat j→Q v (bR vs j))∧f (j+1)) True) i 0
noncomputable def Ob(as:List V)(ob:aR)(Q:V→aR→Prop):Prop:=oP (wm as) fun v=>oE (vY v) (fun p=>eM p.1 (few p.2.length) (Q (.int p.1 p.2.length) ob)) (oE (vW v) (fun p=>eM p.1 (few p.2.length) (Q (.int p.1 p.2.length) ob))
 (oE (jq ob.tr v) (fun p=>bP (few p.2.length) (Q (.int true p.2.length) ob)) (oP (n7 ob.tr v) fun es=>bP (few es.length) (Q (.int true es.length) ob))))
noncomputable def xN(as:List V)(ob:aR)(Q:V→aR→Prop):Prop:=oP (ET as) fun p=>oP (vR p.1) fun i=>oP (oL (ob.tr.get i)) fun vs=>bP (few vs.length) (Q .none (bZ ob i (.list (bc vs [p.2]))))
noncomputable def wY(as:List V)(ob:aR)(Q:V→aR→Prop):Prop:=oP (ET as) fun p=>oP (vR p.1) fun i=>oP (oL (ob.tr.get i)) fun vs=>oP (sI ob.tr p.2) fun ws=>bP (ay (few vs.length) (few ws.length)) (bP (oX (vR p.2) (fun j=>bW (Nat.beq i j)) true) (Q .none (bZ ob i (.list (bc vs ws)))))
noncomputable def H2(vs:List V)(i:Nat)(k:Bool)(x:Int)(ob:aR)(Q:V→aR→Prop):Prop:=match k with
 |true=>oP (nS x) fun j=>oP (qU vs j) fun v=>Q v (bZ ob i (.list (bR vs j)))
 |false=>0≤x∧x < vs.length∧K0 vs x vs.length fun v l=>Q v (bZ ob i (.list l))
noncomputable def MS(as:List V)(ob:aR)(Q:V→aR→Prop):Prop:=oP (ET as) fun p=>oP (vR p.1) fun i=>oP (vI p.2) fun q=>oP (oL (ob.tr.get i)) fun vs=>bP (few vs.length) (H2 vs i q.1 q.2 ob Q)
noncomputable def kS(v:V):Option Str:=oO (vS v) fun p=>bO p.1 (some p.2)
noncomputable def split1(x:Str)(ob:aR)(Q:V→aR→Prop):Prop:=bP (ay (Nat.ble x.length 640) (bb Iz (Txt.words x))) (bo ob (.list (jl (Txt.words x))) Q)
noncomputable def Kd(x y:Str)(ob:aR)(Q:V→aR→Prop):Prop:=bP (ay (ay (Nat.ble x.length 640) (bW (Nat.beq y.length 0))) (bb Iz (Txt.split x y))) (bo ob (.list (jl (Txt.split x y))) Q)
noncomputable def BP(as:List V)(ob:aR)(Q:V→aR→Prop):Prop:=oE (wm as) (fun v=>oP (kS v) fun x=>split1 x ob Q) (oP (ET as) fun p=>oP (kS p.1) fun x=>oP (kS p.2) fun y=>Kd x y ob Q)
noncomputable def wM(as:List V)(ob:aR)(Q:V→aR→Prop):Prop:=oP (ET as) fun p=>oP (kS p.1) fun x=>oP (kS p.2) fun y=>bP (ay (Nat.ble x.length 640) (Iz (Txt.lstripChars x y))) (Q (.str true (Txt.lstripChars x y)) ob)
noncomputable def NN(as:List V)(ob:aR)(Q:V→aR→Prop):Prop:=oP (wm as) fun v=>oP (sI ob.tr v) fun vs=>bP (few vs.length) (oP (Lh vs) fun p=>Q (.bool p.1 p.2) ob)
noncomputable def Ov(as:List V)(ob:aR)(Q:V→aR→Prop):Prop:=oP (Ll as) fun p=>oP (n7 ob.tr p.1) fun es=>bP (ay (dQ p.2.1 es) (gM p.2.1)) (xd ob.tr p.2.1 (Q p.2.2 ob) (fun v=>Q v ob) es)
noncomputable def H7(i:Bi)(as:List V)(ob:aR)(Q:V→aR→Prop):Prop:=match i with
 |.len=>Ob as ob Q
 |.append=>xN as ob Q
 |.extend=>wY as ob Q
 |.pop=>MS as ob Q
 |.split=>BP as ob Q
 |.lstrip=>wM as ob Q
 |.any=>NN as ob Q
 |.get=>Ov as ob Q
noncomputable def xE(x:Int):Option Str:=oO (nS x) fun n=>bO (Nat.blt n 1000000) (some (PySem.Str.ofString (toString n)))
noncomputable def Nl(b:Bool):Int:=match b with
 |true=>1
 |false=>0
noncomputable def OK(as:List V)(ob:aR)(Q:V→aR→Prop):Prop:=oP (wm as) fun v=>oE (vI v) (fun p=>Q (.int p.1 p.2) ob) (oE (vB v) (fun p=>Q (.int p.1 (Nl p.2)) ob) (oP (vS v) fun p=>oP (PySem.intText? p.2) fun n=>bP (Nat.ble p.2.length 640) (Q (.int true n) ob)))
noncomputable def ND(as:List V)(ob:aR)(Q:V→aR→Prop):Prop:=oP (wm as) fun v=>oP (vI v) fun p=>bP p.1 (oP (xE p.2) fun t=>Q (.str true t) ob)
noncomputable def DJ(as:List V)(ob:aR)(Q:V→aR→Prop):Prop:=oP (wm as) fun v=>oP (vI v) fun p=>Q (.rng p.1 p.2) ob
noncomputable def AH(as:List V)(ob:aR)(Q:V→aR→Prop):Prop:=oP (wm as) fun v=>oP (jq ob.tr v) fun p=>bP (few p.2.length) (Q (.tup p.2) ob)
noncomputable def Iu(as:List V)(ob:aR)(Q:V→aR→Prop):Prop:=oP (wm as) fun v=>oE (vY v) (fun p=>eM p.1 (few p.2.length) (Q (.irow p.1 p.2) ob)) (oE (vW v) (fun p=>bP p.1 (bP (few p.2.length) (bo ob (.list (bM p.2)) Q)))
 (oP (jq ob.tr v) fun p=>bP (few p.2.length) (bo ob (.list p.2) Q)))
noncomputable def B0(as:List V)(ob:aR)(Q:V→aR→Prop):Prop:=oP (wm as) fun v=>oE (vW v) (fun p=>eM false (bb bV p.2) (eM p.1 (few p.2.length) (Q (.bytes p.1 p.2) ob))) (oP (sI ob.tr v) fun vs=>oP (iR vs) fun l=>bP (few vs.length) (qQ l (Q (.bytes true (nY l)) ob)))
noncomputable def H4(i:Ti)(as:List V)(ob:aR)(Q:V→aR→Prop):Prop:=match i with
 |.int=>OK as ob Q
 |.str=>ND as ob Q
 |.range=>DJ as ob Q
 |.tuple=>AH as ob Q
 |.list=>Iu as ob Q
 |.bytes=>B0 as ob Q
 |_=>False
noncomputable def Pg(o:Option bY):Option Addr:=oO o fun a=>match a with
 |.fn f=>some f
 |.own=>none
noncomputable def Lj(o:Option bY):Bool:=oB o fun a=>match a with
 |.fn _=>false
 |.own=>true
noncomputable def k9{α:Type}(o:Option α):Bool:=oX o (fun _=>false) true
noncomputable def IC(c:ck)(ob:Tr)(ov:V)(name:Str):Option (V×List V):=oX (vG ov) (fun C=>oO (c.CS C name) fun f=>some (.glob f,[])) (oX (vM ov) (fun k=>oO (c.NM k) fun C=>oO (Pg (c.CM C name)) fun f=>some (.glob f,[.named k]))
 (oX (w8 ob ov) (fun p=>oO (Pg (c.CM p.1 name)) fun f=>bO (k9 (lk name p.2)) (some (.glob f,[ov]))) (oO (xT ob ov name) fun i=>some (.blt i,[ov]))))
noncomputable def tM(c:ck)(g:V):Bool:=match g with
 |.glob a=>oX (c.FI a) (fun _=>true) (oX (c.C a) (fun _=>true) (oX (c.CI a) (fun _=>true) false))
 |.blt _=>true
 |.typ _=>true
 |_=>false
noncomputable def BX:V→Bool
 |.blt _=>false
 |.typ _=>false
 |.named _=>false
 |_=>true
noncomputable def OX(x:Int):Bool:=oB (nS x) fun n=>Nat.beq n 0
noncomputable def SG(x:Int):Bool:=oB (nS x) fun n=>Nat.beq n 1
noncomputable def HW(k:Bool)(x:Int)(p q:Prop):Prop:=match k with
 |true=>iE (OX x) p (bP (SG x) q)
 |false=>(x=0∨x=1)∧(x=0→p)∧(x=1→q)
noncomputable def fN(x:Int)(xs:List Int):List Int:=bX (x==1) xs []
noncomputable def lF(x:Int):Bool:=bX (x==0) true (x==1)
noncomputable def K5(ob:aR)(a b:V)(Q:V→aR→Prop):Prop:=oP (Hn ob.tr a) fun p=>oP (Hn ob.tr b) fun q=>eM (ay p.1 q.1) (ay (few p.2.length) (few q.2.length)) (Q (.irow (ay p.1 q.1) (bc p.2 q.2)) ob)
noncomputable def M5(ob:aR)(ta tb:Bool)(vs ws:List V)(Q:V→aR→Prop):Prop:=bP (ay (few vs.length) (few ws.length)) (iE ta (bP tb (Q (.tup (bc vs ws)) ob)) (bP (bW tb) (bo ob (.list (bc vs ws)) Q)))
noncomputable def Jo(v:V):Bool:=oX (vW v) (fun _=>true) false
noncomputable def Jf(a b:V)(σ:St)(Q:V→St→Prop):Prop:=oE (jq σ.ob.tr a) (fun p=>oE (jq σ.ob.tr b) (fun q=>M5 σ.ob p.1 q.1 p.2 q.2 fun v ob=>Q v ⟨σ.fm,ob⟩) (K5 σ.ob a b fun v ob=>Q v ⟨σ.fm,ob⟩))
 (iE (Jo a) (K5 σ.ob a b fun v ob=>Q v ⟨σ.fm,ob⟩) (AJ .Add a b fun v=>Q v σ))
noncomputable def M4(vs:List V)(b:V)(σ:St)(Q:V→St→Prop):Prop:=bP (Nat.ble vs.length 200) (oP (vI b) fun p=>iE p.1 (HW true p.2 (bo σ.ob (.list []) fun v ob=>Q v ⟨σ.fm,ob⟩) (bo σ.ob (.list vs) fun v ob=>Q v ⟨σ.fm,ob⟩))
 (oP (iR vs) fun l=>eM false (lF p.2) (Q (.irow false (fN p.2 (nY l))) σ)))
noncomputable def J4(a b:V)(σ:St)(Q:V→St→Prop):Prop:=oE (jq σ.ob.tr a) (fun p=>bP (bW p.1) (M4 p.2 b σ Q)) (AJ .Mult a b fun v=>Q v σ)
noncomputable def As(op:Operator)(a b:V)(σ:St)(Q:V→St→Prop):Prop:=match op with
 |.Add=>Jf a b σ Q
 |.Mult=>J4 a b σ Q
 |op=>AJ op a b fun v=>Q v σ
set_option backward.match.sparseCases true in
noncomputable def il:Expr→Bool
 |.Starred .. => true
 |_=>false
noncomputable def dj(e:Expr):Bool:=bW (il e)
noncomputable def hV(E:Ev)(as:List Expr)(sc:Scope):bw (List V):=match as with
 |[]=>⟨fun σ Q=>Q [] σ⟩
 |e::r=>E.es (e::r) sc
noncomputable def qu(c:ck)(E:Ev)(g:V)(first:List V)(as:bw (List V))(σ:St)(Q:V→St→Prop):Prop:=bP (tM c g) (as.run σ fun vs σ₂=>E.call g (bc first vs) σ₂.ob fun r ob=>Q r ⟨σ₂.fm,ob⟩)
noncomputable def gn(vs:List V)(x:Int)(i:Int)(Q:V→Prop):Prop:=match vs with
 |[]=>True
 |v::r=>(x=i→Q v)∧gn r x (i+1) Q
noncomputable def Jr:List Int→Nat→Option Int
  |[],_=>none
  | x::r,n=>match n with
    |0=>some x
    |n+1=>Jr r n
noncomputable def aG:List Int→Nat→Int
  |[],_=>0
  | x::r,n=>match n with
    |0=>x
    |n+1=>aG r n
noncomputable def z7(i n:Nat):Bool:=Nat.blt i n
noncomputable def itemI(k:Bool)(xs:List Int)(kx:Bool)(x:Int)(Q:V→Prop):Prop:=iE kx (oP (nS x) fun i=>iE k (oP (Jr xs i) fun y=>bP (few xs.length) (Q (.int false y))) (eM false (z7 i xs.length) (eM false (few xs.length) (Q (.int false (aG xs i))))))
 (eM false (decide (0≤x)) (eM false (z7 x.toNat xs.length) (eM false (few xs.length) (Q (.int false (aG xs x.toNat))))))
noncomputable def SO(v:V):Option (Bool×List Int):=oX (vY v) some (vW v)
noncomputable def AU(ob:Tr)(o i:V)(Q:V→Prop):Prop:=oE (SO o) (fun p=>oP (vI i) fun q=>itemI p.1 p.2 q.1 q.2 Q) (oE (jq ob o) (fun p=>oP (vI i) fun q=>iE q.1 (oP (nS q.2) fun k=>bP (few k) (oP (qU p.2 k) Q)) (bP (few p.2.length) (0≤q.2∧q.2 < p.2.length∧gn p.2 q.2 0 Q)))
 (oP (n7 ob o) fun es=>bP (dQ i es) (bP (gM i) (xd ob i False Q es))))
noncomputable def kG{α:Type}:List α→Nat→List α
  |[],_=>[]
  | x::r,n=>match n with
    |0=>x::r
    |n+1=>kG r n
noncomputable def kK{α:Type}:List α→Nat→List α
  |[],_=>[]
  | x::r,n=>match n with
    |0=>[]
    |n+1=>x::kK r n
noncomputable abbrev Bd:=Option (Bool×Nat)
noncomputable def xU(b:Bd):Option Nat:=oO b fun p=>some p.2
noncomputable def Lq(b:Bd):Bool:=oX b (fun p=>p.1) true
noncomputable def cut{α:Type}(l:List α)(lo hi:Option Nat):List α:=oX lo (fun a=>oX hi (fun b=>kK (kG l a) (b - a)) (kG l a)) (oX hi (kK l) l)
noncomputable def fP(o:Option Nat):Option Int:=oO o fun k=>some (Int.ofNat k)
noncomputable def D0(ob:aR)(o:V)(lo hi:Bd)(Q:V→aR→Prop):Prop:=oE (vY o) (fun p=>eM p.1 (few p.2.length) (Q (.bytes (ay p.1 (ay (Lq lo) (Lq hi))) (cut p.2 (xU lo) (xU hi))) ob)) (oE (vW o) (fun p=>eM p.1 (few p.2.length) (Q (.irow (ay p.1 (ay (Lq lo) (Lq hi))) (cut p.2 (xU lo) (xU hi))) ob))
 (oE (kS o) (fun x=>bP (few x.length) (Q (.str true ⟨(cut x.cps.toList (xU lo) (xU hi)).toArray⟩) ob)) (oP (sI ob.tr o) fun vs=>bP (few vs.length) (iE (ay (Lq lo) (Lq hi)) (bo ob (.list (cut vs (xU lo) (xU hi))) Q) (oP (iR vs) fun l=>Q (.irow false (cut (nY l) (xU lo) (xU hi))) ob)))))
noncomputable def HU(v:V)(K:Bd→Prop):Prop:=oP (vI v) fun p=>iE p.1 (oP (nS p.2) fun k=>bP (few k) (K (some (true,k)))) (eM false (decide (0≤p.2)) (K (some (false,p.2.toNat))))
noncomputable def B1(E:Ev)(x:Option Expr)(sc:Scope):bw Bd:=match x with
 |none=>⟨fun σ K=>K none σ⟩
 |some e=>⟨fun σ K=>(E.ex e sc).run σ fun v σ₁=>HU v fun b=>K b σ₁⟩
noncomputable def fK:Expr→Bool
 |.Slice .. => false
 |_=>true
noncomputable def Dd(c:ck)(E:Ev)(f:bw V)(as:bw (List V)):bw V:=⟨fun σ Q=>f.run σ fun g σ₁=>qu c E g [] as σ₁ Q⟩
noncomputable def AO(c:ck)(E:Ev)(o:bw V)(name:Str)(as:bw (List V)):bw V:=⟨fun σ Q=>o.run σ fun ov σ₁=>oP (IC c σ₁.ob.tr ov name) fun p=>qu c E p.1 p.2 as σ₁ Q⟩
noncomputable def dX(e:Expr):Option (Str×Pos):=match e with
 |.Name x p=>some (x,p)
 |_=>none
noncomputable def Ia(e:Expr):Option (Expr×List Expr×List Keyword×Pos):=match e with
 |.Call f as kw p=>some (f,as,kw,p)
 |_=>none
noncomputable def OB(e:Expr):Option (Arguments×Expr×Scope×Pos):=match e with
 |.Lambda a b sc p=>some (a,b,sc,p)
 |_=>none
noncomputable def EH(a:Arguments):Bool:=ay (ay (iJ a.posonlyargs) (iJ a.args)) (ay (ay (iJ a.kwonlyargs) (iJ a.defaults)) (ay (iJ a.kw_defaults) (ay (k9 a.vararg) (k9 a.kwarg))))
noncomputable def x1(as:List Expr):Option Expr:=match as with
 |[]=>none
 |e::r=>bO (iJ r) (some e)
noncomputable def qq(e:Expr):Option (Str×Pos×List Expr):=oO (Ia e) fun p=>oO (dX p.1) fun q=>bO (iJ p.2.2.1) (some (q.1,q.2,p.2.1))
noncomputable def Dg(as:List Expr):Option (Str×List Expr×Scope×Pos):=oO (x1 as) fun e=>oO (OB e) fun p=>bO (EH p.1) (oO (qq p.2.1) fun q=>some (q.1,q.2.2,p.2.2.1,p.2.2.2))
noncomputable def jO(k:Option NameKind):Bool:=oB k fun k=>match k with
 |.cell=>true
 |_=>false
noncomputable def jj(k:Option NameKind):Bool:=oB k fun k=>match k with
 |.free=>true
 |_=>false
noncomputable def l9(k:Option NameKind):Bool:=oB k fun k=>match k with
 |.local=>true
 |_=>false
noncomputable def EN(sc:Scope)(p:Pos):List xh→Option xh
 |[]=>none
 |l::r=>bX (ay (ay (Nat.beq p.line l.line) (Nat.beq p.col l.col)) (jO (lk l.key sc.names))) (some l) (EN sc p r)
noncomputable def It(sc lsc:Scope)(fm:List (Str×V))(y:Str):Option V:=bO (ay (jj (lk y lsc.names)) (ay (bW (aE y "__classdict__")) (jO (lk y sc.names)))) (lk y fm)
noncomputable def qk(sc lsc:Scope)(fm:List (Str×V)):List (Str×NameKind)→Option (List (Str×V))
  |[]=>some []
  | p::r=>match p.2 with
    |.free=>oO (It sc lsc fm p.1) fun v=>oO (qk sc lsc fm r) fun l=>some ((p.1,v)::l)
    |.globalImplicit=>qk sc lsc fm r
    |_=>none
noncomputable def wW(sc:Scope):Bool:=match sc.kind with
 |.function=>true
 |_=>false
noncomputable def HI(E:Ev)(sc:Scope):List Expr→St→(List V→St→Prop)→Prop
 |[],σ,Q=>Q [] σ
 |e::r,σ,Q=>(E.ex0 e sc).run σ fun v σ₁=>HI E sc r σ₁ fun vs σ₂=>Q (v::vs) σ₂
noncomputable def OT(c:ck)(x:Str):Option Addr:=oO (c.G x) vG
noncomputable def De(c:ck)(f g:Str)(sc lsc:Scope):Option Addr:=bO (ay (cq sc f) (ay (wW lsc) (ay (cq lsc g) (ay (bW lsc.isGenerator) (bW lsc.isCoroutine))))) (oO (OT c f) fun h=>bO (Nat.beq h 1183) (oO (OT c g) fun a=>oO (c.C a) fun _=>some a))
noncomputable def wR(c:ck)(E:Ev)(f g:Str)(gas:List Expr)(lsc:Scope)(lpos:Pos)(sc:Scope):bw V:=oA (De c f g sc lsc) fun a=>oA (EN sc lpos iF) fun _=>bA (bb dj gas) ⟨fun σ Q=>oP (qk sc lsc σ.fm lsc.names) fun fm=>HI E lsc gas ⟨fm,σ.ob⟩ fun vs σ₁=>bP (Nat.beq σ₁.ob.nx σ.ob.nx) (E.heard a vs σ₁.ob fun v ob=>Q v ⟨σ.fm,ob⟩)⟩
noncomputable def EJ(e:Expr):Option (Expr×Str×Pos):=match e with
 |.Attribute o n p=>some (o,n,p)
 |_=>none
noncomputable def IK(c:ck)(E:Ev)(f:Expr)(as:List Expr)(cpos:Pos)(sc:Scope):bw V:=bA (bb dj as) (oX (dX f) (fun p=>oX (Dg as) (fun q=>wR c E p.1 q.1 q.2.1 q.2.2.1 q.2.2.2 sc) (Dd c E (E.ex (.Name p.1 p.2) sc) (hV E as sc)))
 (oA (EJ f) fun p=>bA (qB p.1 as p.2.2 cpos) (AO c E (E.ex p.1 sc) p.2.1 (hV E as sc))))
noncomputable def L9(v:V):Option Int:=oO (vI v) fun p=>bO (bW p.1) (some p.2)
noncomputable def M6(Q:V→St→Prop)(v:V)(σ:St):Prop:=oE (L9 v) (fun x=>(x=0∨x=1)∧(x=0→Q (.int true 0) σ)∧(x=1→Q (.int true 1) σ)) (Q v σ)
noncomputable def Ko(t:JT)(run:(V→St→Prop)→Prop)(σ:St)(Q:V→St→Prop):Prop:=match t with
 |.int=>∃J:Int→Prop,run (fun v σ'=>σ'=σ∧∃k x,v=.int k x∧J x)∧∀x,J x→Q (.int false x) σ
 |.bool=>∃J:Bool→Prop,run (fun v σ'=>σ'=σ∧∃k x,v=.bool k x∧J x)∧∀x,J x→Q (.bool false x) σ
 |.str=>∃J:Str→Prop,run (fun v σ'=>σ'=σ∧∃k x,v=.str k x∧J x)∧∀x,J x→Q (.str false x) σ
 |.bit=>run (M6 Q)
 |.itemI=>run Q
 |.itemS=>run Q
noncomputable def ki(J:Int→Prop)(v:V):Prop:=oP (vI v) fun p=>J p.2
noncomputable def lY(J:Str→Prop)(v:V):Prop:=oP (vS v) fun p=>J p.2
noncomputable def IX(t:Option JT)(run:(V→Prop)→Prop)(Q:V→Prop):Prop:=match t with
 |some .itemI=>∃J:Int→Prop,run (ki J)∧∀x,J x→Q (.int false x)
 |some .itemS=>∃J:Str→Prop,run (lY J)∧∀x,J x→Q (.str false x)
 |_=>run Q
noncomputable def lI(c:ck)(p:Pos)(a:bw V):bw V:=oX (c.J p.line p.col) (fun t=>⟨fun σ Q=>Ko t (a.run σ) σ Q⟩) a
noncomputable def q9(E:Ev)(elt:Expr)(sc:Scope)(fm:List (Str×V))(x:Str):List V→aR→(List V→aR→Prop)→Prop
 |[],ob,Q=>Q [] ob
 |v::r,ob,Q=>(E.ex0 elt sc).run ⟨put x v fm,ob⟩ fun y σ=>q9 E elt sc fm x r σ.ob fun ys ob'=>Q (y::ys) ob'
noncomputable def ER:Nat→Int→List V
 |0,_=>[]
 |n+1,i=>.int true i::ER n (i+1)
noncomputable def PW(v:V):Option (List V):=match v with
 |.rng k x=>oO (Hq (k,x)) fun n=>bO (few n) (some (ER n 0))
 |.tup vs=>some vs
 |.list vs=>some vs
 |.irow _ xs=>some (bM xs)
 |.bytes _ xs=>some (bM xs)
 |_=>none
noncomputable def qi(ob:aR)(v:V):Option (List V×aR):=oX (vL v) (fun vs=>some (vs,ob)) (oO (vR v) fun i=>oX (oL (ob.tr.get i)) (fun vs=>some (vs,bZ ob i (.frz (.list vs)))) (oO (oF (ob.tr.get i)) fun u=>oO (vL u) fun vs=>some (vs,ob)))
noncomputable def pC(ob:aR)(v:V):Option (List V×aR):=oX (PW v) (fun vs=>some (vs,ob)) (qi ob v)
noncomputable def i5(e:Expr):Bool:=match e with
 |.Name .. => true
 |.Call .. => true
 |.Attribute .. => true
 |.Subscript .. => true
 |.Tuple .. => true
 |_=>false
noncomputable def lX(o:Int):List Int→List Int
 |[]=>[]
 |x::r=>bX (x==o) (lX o r) (x::lX o r)
noncomputable def jv:List (Option Expr)→Option (List Expr)
 |[]=>some []
 |e::r=>oO e fun e=>oO (jv r) fun l=>some (e::l)
noncomputable def fo(key v:V):List (V×V)→List (V×V)
 |[]=>[(key,v)]
 |(k,u)::r=>bX (bu key k) ((k,v)::r) ((k,u)::fo key v r)
noncomputable def lB(E:Ev)(sc:Scope):List Expr→List Expr→St→(List (V×V)→St→Prop)→Prop
  |[],vs,σ,Q=>bP (iJ vs) (Q [] σ)
  | k::ks,vs,σ,Q=>match vs with
    |[]=>False
    |v::vs=>(E.ex k sc).run σ fun kv σ₁=>(E.ex v sc).run σ₁ fun vv σ₂=>lB E sc ks vs σ₂ fun l σ₃=>Q ((kv,vv)::l) σ₃
noncomputable def qL(acc:List (V×V)):List (V×V)→Option (List (V×V))
 |[]=>some acc
 |p::r=>bO (ay (gM p.1) (dQ p.1 acc)) (qL (fo p.1 p.2 acc) r)
noncomputable def xD(k:Const):bw V:=match k with
 |.none=>⟨fun σ Q=>Q .none σ⟩
 |.bool b=>⟨fun σ Q=>Q (.bool true b) σ⟩
 |.int i=>⟨fun σ Q=>Q (.int true i) σ⟩
 |.str s=>bA (Iz s) ⟨fun σ Q=>Q (.str true s) σ⟩
 |_=>.bad
noncomputable def s8(c:ck)(x:Str)(sc:Scope):bw V:=bA (cq sc x) (oA (c.G x) fun v=>⟨fun σ Q=>Q v σ⟩)
noncomputable def BD(c:ck)(x:Str)(sc:Scope):bw V:=⟨fun σ Q=>oE (lk x σ.fm) (fun v=>Q v σ) ((s8 c x sc).run σ Q)⟩
noncomputable def Mt(E:Ev)(op:UnaryOp)(x:Expr)(sc:Scope):bw V:=match op with
 |.Not=>⟨fun σ Q=>(E.ex x sc).run σ fun a σ₁=>c8 a σ₁ fun b σ₂=>Q (.bool true (bW b)) σ₂⟩
 |.USub=>⟨fun σ Q=>(E.ex x sc).run σ fun a σ₁=>oP (vI a) fun p=>Q (.int p.1 (-p.2)) σ₁⟩
 |_=>.bad
noncomputable def Ma(c:ck)(E:Ev)(t b o:Expr)(p:Pos)(sc:Scope):bw V:=lI c p ⟨fun σ Q=>(E.tr t sc).run σ fun g σ₁=>iE g ((E.ex b sc).run σ₁ Q) ((E.ex o sc).run σ₁ Q)⟩
noncomputable def EA(E:Ev)(l:Expr)(op:CmpOp)(r:Expr)(sc:Scope):bw V:=bA (bW (behindInMarks op r)) ⟨fun σ Q=>(E.ex l sc).run σ fun a σ₁=>(E.ex r sc).run σ₁ fun b σ₂=>ji op a b σ₂ Q⟩
noncomputable def CX(E:Ev)(l:Expr)(op₁ op₂:CmpOp)(r₁ r₂:Expr)(sc:Scope):bw V:=bA (bW (lastMarks [op₁,op₂] [r₁,r₂])) ⟨fun σ Q=>(E.ex l sc).run σ fun a σ₁=>(E.ex r₁ sc).run σ₁ fun b σ₂=>ji op₁ a b σ₂ fun g σ₃=>c8 g σ₃ fun t σ₄=>
 iE t ((E.ex r₂ sc).run σ₄ fun d σ₅=>ji op₂ b d σ₅ Q) (Q (rQ g false) σ₄)⟩
noncomputable def Hc(ops:List CmpOp)(rs:List Expr):Option (CmpOp×Expr×Option (CmpOp×Expr)):=match ops with
  |[]=>none
  | op::ops=>match rs with
    |[]=>none
    | r :: rs=>match ops with
      |[]=>bO (iJ rs) (some (op,r,none))
      | op₂::ops=>match rs with
        |[]=>none
        |r₂::rs=>bO (ay (iJ ops) (iJ rs)) (some (op,r,some (op₂,r₂)))
noncomputable def MU(E:Ev)(l:Expr)(ops:List CmpOp)(rs:List Expr)(sc:Scope):bw V:=oA (Hc ops rs) fun p=>oX p.2.2 (fun q=>CX E l p.1 q.1 p.2.1 q.2 sc) (EA E l p.1 p.2.1 sc)
noncomputable def Ft(E:Ev)(op:BoolOp)(x:Expr)(l:List Expr)(p:Pos)(sc:Scope):bw V:=match op with
 |.And=>⟨fun σ Q=>(E.ex x sc).run σ fun a σ₁=>c8 a σ₁ fun g σ₂=>iE g ((E.ex (.BoolOp .And l p) sc).run σ₂ Q) (Q (rQ a false) σ₂)⟩
 |.Or=>⟨fun σ Q=>(E.ex x sc).run σ fun a σ₁=>c8 a σ₁ fun g σ₂=>iE g (Q (rQ a true) σ₂) ((E.ex (.BoolOp .Or l p) sc).run σ₂ Q)⟩
noncomputable def CG(c:ck)(E:Ev)(op:BoolOp)(l:List Expr)(p:Pos)(sc:Scope):bw V:=match l with
  |[]=>.bad
  | x::r=>match r with
    |[]=>E.ex x sc
    |y::r=>lI c p (Ft E op x (y::r) p sc)
noncomputable def Ij(E:Ev)(es:List Expr)(sc:Scope):bw V:=⟨fun σ Q=>(E.es es sc).run σ fun vs σ₁=>bP (few vs.length) (Q (.tup vs) σ₁)⟩
noncomputable def wz(σ:St)(x:O)(Q:V→St→Prop):Prop:=bo σ.ob x fun v ob'=>Q v ⟨σ.fm,ob'⟩
noncomputable def B6(E:Ev)(es:List Expr)(sc:Scope):bw V:=⟨fun σ Q=>(E.es es sc).run σ fun vs σ₁=>bP (few vs.length) (wz σ₁ (.list vs) Q)⟩
noncomputable def xk(l:List (V×V))(σ:St)(Q:V→St→Prop):Prop:=bP (Nat.ble l.length 15) (oP (qL [] l) fun es=>wz σ (.dict es) Q)
noncomputable def Gj(E:Ev)(ks vs:List Expr)(sc:Scope):bw V:=match ks with
 |[]=>bA (iJ vs) ⟨fun σ Q=>wz σ (.dict []) Q⟩
 |k::ks=>bA (ay (Nat.beq (k::ks).length vs.length) (Nat.ble (k::ks).length 15)) ⟨fun σ Q=>lB E sc (k::ks) vs σ fun l σ₁=>xk l σ₁ Q⟩
noncomputable def C0(E:Ev)(ks:List (Option Expr))(vs:List Expr)(sc:Scope):bw V:=oA (jv ks) fun ks=>Gj E ks vs sc
noncomputable def Oc(c:ck)(ov:V)(name:Str)(σ:St)(Q:V→St→Prop):Prop:=oP (w8 σ.ob.tr ov) fun p=>bP (Lj (c.CM p.1 name)) (oP (lk name p.2) fun u=>bP (BX u) (Q u σ))
noncomputable def Dv(c:ck)(E:Ev)(o:Expr)(name:Str)(sc:Scope):bw V:=bA (pO o) ⟨fun σ Q=>(E.ex o sc).run σ fun ov σ₁=>Oc c ov name σ₁ Q⟩
noncomputable def KO(c:ck)(E:Ev)(f:Expr)(as:List Expr)(kw:List Keyword)(p:Pos)(sc:Scope):bw V:=bA (iJ kw) (lI c p (IK c E f as p sc))
noncomputable def EY(E:Ev)(value:Expr)(lo hi step:Option Expr)(sc:Scope):bw V:=bA (k9 step) ⟨fun σ Q=>(E.ex value sc).run σ fun o σ₁=>(B1 E lo sc).run σ₁ fun l σ₂=>(B1 E hi sc).run σ₂ fun u σ₃=>D0 σ₃.ob o l u fun v ob=>Q v ⟨σ₃.fm,ob⟩⟩
noncomputable def Ja(c:ck)(E:Ev)(value slice:Expr)(p:Pos)(sc:Scope):bw V:=⟨fun σ Q=>(E.ex value sc).run σ fun o σ₁=>(E.ex slice sc).run σ₁ fun i σ₂=>IX (c.J p.line p.col) (AU σ₂.ob.tr o i) fun v=>Q v σ₂⟩
noncomputable def pI(e:Expr):Option (Option Expr×Option Expr×Option Expr×Pos):=match e with
 |.Slice lo hi st p=>some (lo,hi,st,p)
 |_=>none
noncomputable def H0(c:ck)(E:Ev)(value slice:Expr)(p:Pos)(sc:Scope):bw V:=oX (pI slice) (fun q=>EY E value q.1 q.2.1 q.2.2.1 sc) (Ja c E value slice p sc)
noncomputable def jK(all:List (Str×NameKind)):List (Str×NameKind)→Bool
  |[]=>true
  | p::r=>match p.2 with
    |.local=>ay (l9 (lk p.1 all)) (jK all r)
    |.free=>false
    |.cell=>false
    |_=>jK all r
noncomputable def isFn(sc:Scope):Bool:=match sc.kind with
 |.function=>true
 |_=>false
noncomputable def AZ(E:Ev)(elt iter:Expr)(x:Str)(csc:Scope)(sc:Scope):bw V:=bA (ay (isFn csc) (jK csc.names csc.names)) ⟨fun σ Q=>(E.ex iter sc).run σ fun v σ₁=>oP (pC σ₁.ob v) fun p=>bP (few p.1.length) (q9 E elt csc [] x p.1 p.2 fun ys ob'=>bo ob' (.list ys) fun v ob''=>Q v ⟨σ₁.fm,ob''⟩)⟩
noncomputable def eE(y:Str)(all:List (Str×NameKind)):List (Str×NameKind)→Bool
  |[]=>true
  | p::r=>match p.2 with
    |.local=>ay (l9 (lk p.1 all)) (eE y all r)
    |.free=>ay (aE p.1 y) (eE y all r)
    |.cell=>false
    |_=>eE y all r
noncomputable def rG(E:Ev)(elt iter:Expr)(x x₁ y:Str)(csc:Scope)(sc:Scope):bw V:=oA (dX elt) fun e=>bA (ay (ay (isFn csc) (eE y csc.names csc.names)) (ay (aE x x₁) (ay (aE x e.1) (bW (aE x y))))) (bA (ay (jj (lk y csc.names)) (jO (lk y sc.names)))
 ⟨fun σ Q=>(E.ex iter sc).run σ fun v σ₁=>oP (Hn σ₁.ob.tr v) fun p=>oP (lk y σ₁.fm) fun u=>oP (vI u) fun o=>eM p.1 (few p.2.length) (Q (.irow false (lX o.2 p.2)) σ₁)⟩)
noncomputable def LV(op:CmpOp):Bool:=match op with
 |.NotEq=>true
 |_=>false
noncomputable def Mz(e:Expr):Option (Expr×List CmpOp×List Expr×Pos):=match e with
 |.Compare l ops rs p=>some (l,ops,rs,p)
 |_=>none
noncomputable def Ss(e:Expr):Option (Str×Str):=oO (Mz e) fun p=>oO (dX p.1) fun a=>oO (Hc p.2.1 p.2.2.1) fun q=>bO (ay (k9 q.2.2) (LV q.1)) (oO (dX q.2.1) fun b=>some (a.1,b.1))
noncomputable def MO(E:Ev)(elt:Expr)(x:Str)(iter:Expr)(ifs:List Expr)(csc:Scope)(sc:Scope):bw V:=bA (ay (i5 iter) (bB csc x)) (bX (iJ ifs) (AZ E elt iter x csc sc) (oA (x1 ifs) fun e=>oA (Ss e) fun p=>rG E elt iter x p.1 p.2 csc sc))
noncomputable def H3(gens:List Comprehension):Option (Str×Expr×List Expr):=match gens with
 |[]=>none
 |g::r=>bO (ay (iJ r) (OX g.is_async)) (oO (dX g.target) fun p=>some (p.1,g.iter,g.ifs))
noncomputable def LC(E:Ev)(elt:Expr)(gens:List Comprehension)(csc:Scope)(sc:Scope):bw V:=oA (H3 gens) fun p=>MO E elt p.1 p.2.1 p.2.2 csc sc
noncomputable def IT(E:Ev)(l:Expr)(op:Operator)(r:Expr)(sc:Scope):bw V:=⟨fun σ Q=>(E.ex l sc).run σ fun a σ₁=>(E.ex r sc).run σ₁ fun b σ₂=>As op a b σ₂ Q⟩
noncomputable def A0(c:ck)(E:Ev)(e:Expr)(sc:Scope):bw V:=match e with
 |.Constant k _ _=>xD k
 |.Name x _=>BD c x sc
 |.BinOp l op r _=>IT E l op r sc
 |.UnaryOp op x _=>Mt E op x sc
 |.IfExp t b o p=>Ma c E t b o p sc
 |.Compare l ops rs _=>MU E l ops rs sc
 |.BoolOp op l p=>CG c E op l p sc
 |.Tuple es _ _=>Ij E es sc
 |.List es _=>B6 E es sc
 |.Dict ks vs _=>C0 E ks vs sc
 |.Attribute o name _=>Dv c E o name sc
 |.Call f as kw cpos=>KO c E f as kw cpos sc
 |.Subscript value slice p=>H0 c E value slice p sc
 |.ListComp elt gens csc _=>LC E elt gens csc sc
 |_=>.bad
noncomputable def IQ(op:BoolOp):Bool:=match op with
 |.And=>true
 |.Or=>false
noncomputable def DE(E:Ev)(op:BoolOp)(l:List Expr)(p:Pos)(sc:Scope):bw Bool:=match l with
 |[]=>⟨fun σ K=>K (IQ op) σ⟩
 |x::r=>⟨fun σ K=>(E.tr x sc).run σ fun g σ₁=>iE (bX (IQ op) g (bW g)) ((E.tr (.BoolOp op r p) sc).run σ₁ K) (K g σ₁)⟩
noncomputable def Be(E:Ev)(e:Expr)(sc:Scope):bw Bool:=⟨fun σ K=>(E.ex e sc).run σ fun v σ₁=>c8 v σ₁ K⟩
noncomputable def AY(E:Ev)(l:Expr)(op:CmpOp)(r:Expr)(sc:Scope):bw Bool:=bA (bW (behindInMarks op r)) ⟨fun σ K=>(E.ex l sc).run σ fun a σ₁=>(E.ex r sc).run σ₁ fun b σ₂=>ji op a b σ₂ fun v σ₃=>c8 v σ₃ K⟩
noncomputable def DD(E:Ev)(l:Expr)(op₁ op₂:CmpOp)(r₁ r₂:Expr)(sc:Scope):bw Bool:=bA (bW (lastMarks [op₁,op₂] [r₁,r₂])) ⟨fun σ K=>(E.ex l sc).run σ fun a σ₁=>(E.ex r₁ sc).run σ₁ fun b σ₂=>ji op₁ a b σ₂ fun g σ₃=>c8 g σ₃ fun t σ₄=>
 iE t ((E.ex r₂ sc).run σ₄ fun d σ₅=>ji op₂ b d σ₅ fun v σ₆=>c8 v σ₆ K) (K false σ₄)⟩
noncomputable def Na(E:Ev)(l:Expr)(ops:List CmpOp)(rs:List Expr)(sc:Scope):bw Bool:=oA (Hc ops rs) fun p=>oX p.2.2 (fun q=>DD E l p.1 q.1 p.2.1 q.2 sc) (AY E l p.1 p.2.1 sc)
noncomputable def Ny(E:Ev)(op:UnaryOp)(x:Expr)(sc:Scope):bw Bool:=match op with
 |.Not=>⟨fun σ K=>(E.tr x sc).run σ fun g σ₁=>K (bW g) σ₁⟩
 |_=>.bad
noncomputable def vX(E:Ev)(e:Expr)(sc:Scope):bw Bool:=match e with
 |.BoolOp op l p=>DE E op l p sc
 |.UnaryOp op x _=>Ny E op x sc
 |.Compare l ops rs _=>Na E l ops rs sc
 |.Name x p=>Be E (.Name x p) sc
 |.Call f as kw p=>Be E (.Call f as kw p) sc
 |.Attribute o n p=>Be E (.Attribute o n p) sc
 |_=>.bad
noncomputable def Cv(E:Ev)(l:List Expr)(sc:Scope):bw (List V):=match l with
 |[]=>⟨fun σ Q=>Q [] σ⟩
 |e::r=>bA (bW (il e)) ⟨fun σ Q=>(E.ex e sc).run σ fun v σ₁=>(E.es r sc).run σ₁ fun vs σ₂=>Q (v::vs) σ₂⟩
noncomputable def Ke:V→Bool
 |.none=>false
 |.bool .. => false
 |.int .. => false
 |.str .. => false
 |.bytes .. => false
 |_=>true
noncomputable def bT:Expr→Bool
 |.Constant .. => true
 |.Name .. => true
 |.BinOp .. => true
 |.BoolOp .. => true
 |.UnaryOp .. => true
 |.Compare .. => true
 |.IfExp .. => true
 |.Call .. => true
 |.Attribute .. => true
 |.Subscript .. => true
 |.Tuple .. => true
 |.List .. => true
 |.Dict .. => true
 |_=>false
noncomputable def uf:Expr→Bool
 |.Call .. => true
 |_=>false
noncomputable def uj(c:ck)(ov:V)(name:Str)(v:V)(σ:St)(K:St→Prop):Prop:=oP (vR ov) fun i=>oP (oI (σ.ob.tr.get i)) fun p=>bP (Lj (c.CM p.1 name)) (oP (oN (σ.ob.tr.get p.2)) fun fs=>bP (few (fs.length+1)) (K ⟨σ.fm,bZ σ.ob p.2 (.ns (put name v fs))⟩))
noncomputable def El(o key v:V)(σ:St)(K:St→Prop):Prop:=oP (vR o) fun i=>oP (oD (σ.ob.tr.get i)) fun es=>bP (ay (ay (gM key) (dQ key es)) (ay (ay (nr σ.ob.tr 3 key) (j9 σ.ob.tr es)) (few es.length))) (K ⟨σ.fm,bZ σ.ob i (.dict (fo key v es))⟩)
noncomputable def jB(l:Nat):List Expr→Bool
 |[]=>true
 |e::r=>bX (Nat.beq e.pos.line l) (jB l r) false
noncomputable def jG:List Expr→Option (List Str)
 |[]=>some []
 |e::r=>oO (dX e) fun p=>oO (jG r) fun l=>some (p.1::l)
noncomputable def iU(sc:Scope)(x:Str):Bool:=ay (l9 (lk x sc.names)) (bW (aE x "__debug__"))
noncomputable def eJ(sc:Scope)(e:Expr):Bool:=oX (dX e) (fun p=>iU sc p.1) (t9 e)
noncomputable def jy(c:ck)(E:Ev)(sc:Scope):List Expr→List V→St→(St→Prop)→Prop
  |[],vs,σ,K=>bP (iJ vs) (K σ)
  | t::ts,vs,σ,K=>match vs with
    |[]=>False
    |v::vs=>oE (dX t) (fun p=>bP (iU sc p.1) (jy c E sc ts vs ⟨put p.1 v σ.fm,σ.ob⟩ K)) (oP (EJ t) fun p=>(E.ex p.1 sc).run σ fun ov σ₁=>uj c ov p.2.1 v σ₁ fun σ₂=>jy c E sc ts vs σ₂ K)
noncomputable def lD(sc:Scope):List Str→List V→St→(St→Prop)→Prop
  |[],vs,σ,K=>bP (iJ vs) (K σ)
  | x::ts,vs,σ,K=>match vs with
    |[]=>False
    |v::vs=>bP (iU sc x) (lD sc ts vs ⟨put x v σ.fm,σ.ob⟩ K)
noncomputable def gA(e:Expr):Bool:=k9 (dX e)
noncomputable def pW(e:Expr):Option (List Expr):=match e with
 |.Tuple vs _ _=>some vs
 |_=>none
noncomputable def DG(ts vs:List Expr)(sc:Scope)(names:List Str):Option (Option (List Str)):=bO (ay (ay (bb (eJ sc) ts) (jB ((ts.head?.map (·.pos.line)).getD 0) ts)) (ay (bb dj vs) (ay (Nat.beq vs.length ts.length) (Nat.beq names.eraseDups.length names.length))))
 (bX (bX (Nat.beq ts.length 2) true (Nat.beq ts.length 3)) (some (some names)) (some none))
noncomputable def oQ(ts:List Expr)(e:Expr)(sc:Scope):Option (Option (List Str)):=oX (pW e) (fun vs=>bX (dy gA ts) (some none) (bX (vs.all (foldedForSure 8)) (some none) (bX (vs.all (constantsAlone 8)) none (oO (jG ts) (DG ts vs sc))))) (some none)
noncomputable def yx(f:Fl)(p q:Prop)(K:V→Prop):Prop:=match f with
 |.next=>p
 |.cont=>p
 |.brk=>q
 |.ret v=>K v
noncomputable def qN(E:Ev)(x:Str)(body:List Stmt)(sc:Scope):List V→St→(Fl→St→Prop)→Prop
 |[],σ,Q=>Q .next σ
 |v::r,σ,Q=>(E.ss body sc).run ⟨put x v σ.fm,σ.ob⟩ fun f σ₁=>yx f (qN E x body sc r σ₁ Q) (Q .next σ₁) (fun v=>Q (.ret v) σ₁)
noncomputable def ml(E:Ev)(x y:Str)(body:List Stmt)(sc:Scope):List (V×V)→St→(Fl→St→Prop)→Prop
 |[],σ,Q=>Q .next σ
 |p::r,σ,Q=>(E.ss body sc).run ⟨put y p.2 (put x p.1 σ.fm),σ.ob⟩ fun f σ₁=>yx f (ml E x y body sc r σ₁ Q) (Q .next σ₁) (fun v=>Q (.ret v) σ₁)
noncomputable def wF:List V→Int→List (V×V)
 |[],_=>[]
 |v::r,i=>(.int true i,v)::wF r (i+1)
noncomputable def F5:List V→List V→List (V×V)
  |[],_=>[]
  | a::x,l=>match l with
    |[]=>[]
    |b::y=>(a,b)::F5 x y
noncomputable def Ea(n:Nat)(x:Int)(K:Nat→Prop):Prop:=@Nat.rec (fun _=>Prop) True (fun i p=>(x=Int.ofNat i→K i)∧p) n
noncomputable def F3(E:Ev)(v:Option Expr)(sc:Scope):bw Fl:=oX v (fun e=>⟨fun σ Q=>(E.ex e sc).run σ fun v σ₁=>Q (.ret v) σ₁⟩) ⟨fun σ Q=>Q (.ret .none) σ⟩
noncomputable def Tf(E:Ev)(t:Expr)(b o:List Stmt)(sc:Scope):bw Fl:=⟨fun σ Q=>(E.tr t sc).run σ fun g σ₁=>iE g ((E.ss b sc).run σ₁ Q) ((E.ss o sc).run σ₁ Q)⟩
noncomputable def Ca(E:Ev)(x:Str)(e:Expr)(sc:Scope):bw Fl:=bA (ay (bB sc x) (bT e)) ⟨fun σ Q=>(E.ex e sc).run σ fun v σ₁=>Q .next ⟨put x v σ₁.fm,σ₁.ob⟩⟩
noncomputable def Eh(c:ck)(E:Ev)(o:Expr)(name:Str)(e:Expr)(sc:Scope):bw Fl:=bA (bT e) ⟨fun σ Q=>(E.ex e sc).run σ fun v σ₁=>(E.ex o sc).run σ₁ fun ov σ₂=>uj c ov name v σ₂ fun σ₃=>Q .next σ₃⟩
noncomputable def rn(E:Ev)(o i:Expr)(e:Expr)(sc:Scope):bw Fl:=bA (ay (bT e) (fK i)) ⟨fun σ Q=>(E.ex e sc).run σ fun v σ₁=>(E.ex o sc).run σ₁ fun ov σ₂=>(E.ex i sc).run σ₂ fun iv σ₃=>El ov iv v σ₃ fun σ₄=>Q .next σ₄⟩
noncomputable def Dj(c:ck)(E:Ev)(ts:List Expr)(e:Expr)(sc:Scope)(vs:List V)(σ:St)(Q:Fl→St→Prop):Prop:=bP (Nat.beq vs.length ts.length) (oP (oQ ts e sc) fun o=>oE o (fun names=>lD sc names.reverse vs.reverse σ fun σ₂=>Q .next σ₂) (jy c E sc ts vs σ fun σ₂=>Q .next σ₂))
noncomputable def Ge(c:ck)(E:Ev)(ts:List Expr)(e:Expr)(sc:Scope):bw Fl:=bA (ay (bb (eJ sc) ts) (bT e)) ⟨fun σ Q=>(E.ex e sc).run σ fun v σ₁=>oP (vT v) fun vs=>Dj c E ts e sc vs σ₁ Q⟩
noncomputable def IS(c:ck)(E:Ev)(t:Expr)(e:Expr)(sc:Scope):bw Fl:=match t with
 |.Name x _=>Ca E x e sc
 |.Attribute o name _=>Eh c E o name e sc
 |.Subscript o i _=>rn E o i e sc
 |.Tuple ts _ _=>Ge c E ts e sc
 |_=>.bad
noncomputable def Pw(c:ck)(E:Ev)(ts:List Expr)(e:Expr)(sc:Scope):bw Fl:=oA (x1 ts) fun t=>IS c E t e sc
noncomputable def B2(E:Ev)(x:Str)(body:List Stmt)(v:V)(sc:Scope)(σ:St)(Q:Fl→St→Prop):Prop:=oP (pC σ.ob v) fun p=>qN E x body sc p.1 ⟨σ.fm,p.2⟩ Q
noncomputable def IA(v:V):Option Int:=oO (vQ v) fun p=>bO (bW p.1) (some p.2)
noncomputable def LZ(E:Ev)(x:Str)(iter:Expr)(body:List Stmt)(sc:Scope):bw Fl:=bA (ay (bB sc x) (i5 iter)) ⟨fun σ Q=>(E.ex iter sc).run σ fun v σ₁=>oE (IA v) (fun n=>0≤n∧n < 8∧Ea 8 n fun k=>qN E x body sc (ER k 0) σ₁ Q) (B2 E x body v sc σ₁ Q)⟩
noncomputable def xo(E:Ev)(x y:Str)(as:List Expr)(body:List Stmt)(sc:Scope)(σ:St)(Q:Fl→St→Prop):Prop:=(hV E as sc).run σ fun l σ₁=>oP (wm l) fun v=>oP (qi σ₁.ob v) fun p=>bP (few p.1.length) (ml E x y body sc (wF p.1 0) ⟨σ₁.fm,p.2⟩ Q)
noncomputable def DF(E:Ev)(x y:Str)(as:List Expr)(body:List Stmt)(sc:Scope)(σ:St)(Q:Fl→St→Prop):Prop:=(hV E as sc).run σ fun l σ₁=>oP (ET l) fun q=>oP (vT q.1) fun vs=>oP (qi σ₁.ob q.2) fun p=>bP (ay (Nat.beq vs.length p.1.length) (few vs.length)) (ml E x y body sc (F5 vs p.1) ⟨σ₁.fm,p.2⟩ Q)
noncomputable def Dz(t:Ti):Bool:=match t with
 |.enumerate=>true
 |_=>false
noncomputable def Il(t:Ti):Bool:=match t with
 |.zip=>true
 |_=>false
noncomputable def HV(E:Ev)(x y:Str)(iter:Expr)(body:List Stmt)(sc:Scope):bw Fl:=bA (ay (iU sc x) (ay (iU sc y) (bW (aE x y)))) (oA (qq iter) fun q=>bA (bb dj q.2.2) ⟨fun σ Q=>(E.ex (.Name q.1 q.2.1) sc).run σ fun g σ₀=>oP (OY g) fun t=>iE (Dz t) (xo E x y q.2.2 body sc σ₀ Q) (bP (Il t) (DF E x y q.2.2 body sc σ₀ Q))⟩)
noncomputable def x2(as:List Expr):Option (Expr×Expr):=match as with
 |[]=>none
 |e::r=>oO (x1 r) fun d=>some (e,d)
noncomputable def I4(e:Expr):Option (Str×Str):=oO (pW e) fun l=>oO (x2 l) fun p=>oO (dX p.1) fun a=>oO (dX p.2) fun b=>some (a.1,b.1)
noncomputable def P7(E:Ev)(target iter:Expr)(body orelse:List Stmt)(sc:Scope):bw Fl:=bA (iJ orelse) (oX (dX target) (fun p=>LZ E p.1 iter body sc) (oA (I4 target) fun p=>HV E p.1 p.2 iter body sc))
noncomputable def me(E:Ev)(t:Expr)(body:List Stmt)(sc:Scope)(n:Nat):bw Fl:=@Nat.rec (fun _=>bw Fl) .bad (fun _ f=>⟨fun σ Q=>(E.tr t sc).run σ fun g σ₁=>iE g ((E.ss body sc).run σ₁ fun r σ₂=>yx r (f.run σ₂ Q) (Q .next σ₂) (fun v=>Q (.ret v) σ₂)) (Q .next σ₁)⟩) n
noncomputable def Jg(E:Ev)(t:Expr)(body orelse:List Stmt)(sc:Scope):bw Fl:=bA (iJ orelse) (me E t body sc 100)
noncomputable def IW(E:Ev)(e:Expr)(sc:Scope):bw Fl:=bA (uf e) ⟨fun σ Q=>(E.ex e sc).run σ fun v σ₁=>bP (bW (Ke v)) (Q .next σ₁)⟩
noncomputable def Al(c:ck)(x s:Str)(sc:Scope):bw Fl:=bA (ay (cq sc x) (Iz s)) (oA (c.X x) fun C=>oA (OT c x) fun D=>bA (Nat.beq C D) ⟨fun _ _=>c.R C⟩)
noncomputable def J1(e:Expr):Option Str:=match e with
  | .Constant k _ _=>match k with
    |.str s=>some s
    |_=>none
  |_=>none
noncomputable def BN(e:Expr):Option (Str×Str):=oO (qq e) fun p=>oO (x1 p.2.2) fun a=>oO (J1 a) fun s=>some (p.1,s)
noncomputable def Ez(c:ck)(e cause:Option Expr)(sc:Scope):bw Fl:=oA e fun e=>oA (BN e) fun p=>bA (k9 cause) (Al c p.1 p.2 sc)
noncomputable def DQ(c:ck)(E:Ev)(st:Stmt)(sc:Scope):bw Fl:=match st with
 |.Return v _=>F3 E v sc
 |.If t b o _=>Tf E t b o sc
 |.Assign ts e _=>Pw c E ts e sc
 |.For target iter body orelse _=>P7 E target iter body orelse sc
 |.While t body orelse _=>Jg E t body orelse sc
 |.Pass _=>⟨fun σ Q=>Q .next σ⟩
 |.Continue _=>⟨fun σ Q=>Q .cont σ⟩
 |.Break _=>⟨fun σ Q=>Q .brk σ⟩
 |.Expr e _=>IW E e sc
 |.Raise e cause _=>Ez c e cause sc
 |_=>.bad
noncomputable def Jq(f:Fl):Bool:=match f with
 |.next=>true
 |_=>false
noncomputable def Av(c:ck)(E:Ev)(l:List Stmt)(sc:Scope):bw Fl:=match l with
 |[]=>⟨fun σ Q=>Q .next σ⟩
 |st::r=>⟨fun σ Q=>(DQ c E st sc).run σ fun f σ₁=>iE (Jq f) ((E.ss r sc).run σ₁ Q) (Q f σ₁)⟩
noncomputable def O8(l:List V):Option V:=match l with
 |[]=>none
 |d::_=>some d
noncomputable def iQ:List Str→List V→List V→Option (List (Str×V))
  |[],vs,_=>bO (iJ vs) (some [])
  | x::xs,vs,ds=>match vs with
    |[]=>oO (O8 (ds.drop (ds.length - (xs.length+1)))) fun d=>bO (Nat.ble (xs.length+1) ds.length) (oO (iQ xs [] ds) fun r=>some ((x,d)::r))
    |v::vs=>oO (iQ xs vs ds) fun r=>some ((x,v)::r)
noncomputable def tw:Fl→V
 |.ret v=>v
 |_=>.none
noncomputable def d7(f:aR→V→Option (V×aR)):aR→List V→Option (List V×aR)
 |ob,[]=>some ([],ob)
 |ob,v::r=>oO (f ob v) fun p=>oO (d7 f p.2 r) fun q=>some (p.1::q.1,q.2)
noncomputable def pQ(f:aR→V→Option (V×aR)):aR→List (Str×V)→Option (List (Str×V)×aR)
 |ob,[]=>some ([],ob)
 |ob,x::r=>oO (f ob x.2) fun p=>oO (pQ f p.2 r) fun q=>some ((x.1,p.1)::q.1,q.2)
noncomputable def jm(f:aR→V→Option (V×aR)):aR→List (V×V)→Option (List (V×V)×aR)
 |ob,[]=>some ([],ob)
 |ob,x::r=>oO (f ob x.2) fun p=>oO (jm f p.2 r) fun q=>some ((x.1,p.1)::q.1,q.2)
noncomputable def dJ{α:Type}(o:Option α):Bool:=oX o (fun _=>true) false
noncomputable def MN(f:aR→V→Option (V×aR))(ob:aR)(i:Nat)(o:O):Option (V×aR):=match o with
 |.frz v=>some (v,ob)
 |.list vs=>oO (d7 f ob vs) fun p=>bO (dJ (oL (p.2.tr.get i))) (some (.list p.1,bZ p.2 i (.frz (.list p.1))))
 |.dict es=>oO (jm f ob es) fun p=>bO (dJ (oD (p.2.tr.get i))) (some (.dict p.1,bZ p.2 i (.frz (.dict p.1))))
 |.inst _ d=>oO (oN (ob.tr.get d)) fun fs=>oO (pQ f ob fs) fun p=>oO (oI (p.2.tr.get i)) fun q=>bO (ay (dJ (oN (p.2.tr.get d))) (ay (Nat.beq q.2 d) (bW (Nat.beq i d)))) (some (.inst q.1 p.1,lr (bZ p.2 i (.frz (.inst q.1 p.1))) d))
 |.ns _=>none
noncomputable def freeze(n:Nat):aR→V→Option (V×aR):=@Nat.rec (fun _=>aR→V→Option (V×aR)) (fun _ _=>none) (fun _ f ob v=>oX (vR v) (fun i=>oO (ob.tr.get i) (MN f ob i)) (oX (vT v) (fun vs=>oO (d7 f ob vs) fun p=>some (.tup p.1,p.2)) (some (v,ob)))) n
noncomputable def ph(n:Nat):V→Bool:=@Nat.rec (fun _=>V→Bool) (fun _=>false) (fun _ f v=>match v with
 |.ref _=>false
 |.tup vs=>bb f vs
 |.list vs=>bb f vs
 |.inst _ fs=>bb (fun p=>f p.2) fs
 |.dict kvs=>bb (fun p=>ay (f p.1) (f p.2)) kvs
 |_=>true) n
noncomputable def ao(E:Ev)(i:af)(as:List V)(ob:aR)(Q:V→aR→Prop):Prop:=oP (iQ i.ps as i.ds) fun fm=>(E.ss i.body i.sc).run ⟨fm,ob⟩ fun f σ=>Q (tw f) σ.ob
noncomputable def xC(E:Ev)(a f:Addr)(as:List V)(ob:aR)(Q:V→aR→Prop):Prop:=bo ob (.ns []) fun vd ob₁=>oP (vR vd) fun d=>bo ob₁ (.inst a d) fun vi ob₂=>E.call (.glob f) (vi::as) ob₂ fun r ob₃=>bP (yb r) (Q vi ob₃)
noncomputable def Ek(as:List V)(ob:aR):Option (List V×aR):=oO (d7 (freeze 12) ob as) fun p=>bO (bb (ph 14) p.1) (some p)
noncomputable def An(c:ck)(n m:Nat)(S:bf)(as:List V)(ob:aR)(Q:V→aR→Prop):Prop:=bP (Nat.ble m n) (oP (Ek as ob) fun p=>S p.1 (fun v=>Q v p.2) c.R)
noncomputable def IP(c:ck)(n:Nat)(E:Ev)(a:Addr)(as:List V)(ob:aR)(Q:V→aR→Prop):Prop:=oE (c.C a) (fun p=>An c n p.1 p.2 as ob Q) (oE (c.FI a) (fun i=>ao E i as ob Q) (oP (c.CI a) fun f=>xC E a f as ob Q))
noncomputable def sZ(c:ck)(n:Nat)(E:Ev)(f:V)(as:List V)(ob:aR)(Q:V→aR→Prop):Prop:=match f with
 |.glob a=>IP c n E a as ob Q
 |.blt i=>H7 i as ob Q
 |.typ i=>H4 i as ob Q
 |_=>False
noncomputable def pg(c:ck)(n:Nat)(a:Addr)(as:List V)(ob:aR)(Q:V→aR→Prop):Prop:=oP (c.C a) fun p=>bP (Nat.ble p.1 n) (oP (Ek as ob) fun q=>p.2 q.1 (fun v=>Q v q.2) fun C=>bP (Nat.beq C 83) (Q .none q.2))
noncomputable def uu(c:ck)(n:Nat)(E:Ev):Ev:=⟨A0 c E,vX E,Cv E,Av c E,sZ c n E,E.ex0,pg c n⟩
noncomputable def uH:Ev:=⟨fun _ _=>.bad,fun _ _=>.bad,fun _ _=>.bad,fun _ _=>.bad,fun _ _ _ _=>False,fun _ _=>.bad,fun _ _ _ _=>False⟩
noncomputable def EO(c:ck):Nat→Ev:=fun n=>@Nat.rec (fun _=>Ev) uH (fun n E=>uu {c with R:=fun _=>False} n ⟨E.ex,E.tr,E.es,E.ss,E.call,E.ex,E.heard⟩) n
noncomputable def ev(c:ck):Nat→Ev:=fun n=>@Nat.rec (fun _=>Ev) uH (fun n E=>uu c n ⟨E.ex,E.tr,E.es,E.ss,E.call,(EO c n).ex,E.heard⟩) n
end
theorem a7{p0 p1:Prop}{G:Prop}(h:p0∧p1)(k:p0→p1→G):G:=k h.1 h.2
theorem bz{α0:Sort _}{p0:α0→Prop}{G:Prop}(h:∃x0,p0 x0)(k:∀x0,p0 x0→G):G:=h.elim fun x0 h=>k x0 h
theorem jD{p0 p1 p2:Prop}{G:Prop}(h:p0∧p1∧p2)(k:p0→p1→p2→G):G:=k h.1 h.2.1 h.2.2
theorem aq{α0:Sort _}{p0 p1:α0→Prop}{G:Prop}(h:∃x0,p0 x0∧p1 x0)(k:∀x0,p0 x0→p1 x0→G):G:=h.elim fun x0 h=>k x0 h.1 h.2
theorem iB{α0:Sort _}{α1:Sort _}{p0:α0→α1→Prop}{G:Prop}(h:∃x0,∃x1,p0 x0 x1)(k:∀x0 x1,p0 x0 x1→G):G:=h.elim fun x0 h=>h.elim fun x1 h=>k x0 x1 h
theorem ym{p0 p1 p2 p3:Prop}{G:Prop}(h:p0∧p1∧p2∧p3)(k:p0→p1→p2→p3→G):G:=k h.1 h.2.1 h.2.2.1 h.2.2.2
theorem cJ{α0:Sort _}{p0 p1 p2:α0→Prop}{G:Prop}(h:∃x0,p0 x0∧p1 x0∧p2 x0)(k:∀x0,p0 x0→p1 x0→p2 x0→G):G:=h.elim fun x0 h=>k x0 h.1 h.2.1 h.2.2
theorem aW{α0:Sort _}{α1:Sort _}{p0 p1:α0→α1→Prop}{G:Prop}(h:∃x0,∃x1,p0 x0 x1∧p1 x0 x1)(k:∀x0 x1,p0 x0 x1→p1 x0 x1→G):G:=h.elim fun x0 h=>h.elim fun x1 h=>k x0 x1 h.1 h.2
theorem Qj{α0:Sort _}{α1:Sort _}{α2:Sort _}{p0:α0→α1→α2→Prop}{G:Prop}(h:∃x0,∃x1,∃x2,p0 x0 x1 x2)(k:∀x0 x1 x2,p0 x0 x1 x2→G):G:=h.elim fun x0 h=>h.elim fun x1 h=>h.elim fun x2 h=>k x0 x1 x2 h
theorem t7{p0 p1 p2 p3 p4:Prop}{G:Prop}(h:p0∧p1∧p2∧p3∧p4)(k:p0→p1→p2→p3→p4→G):G:=k h.1 h.2.1 h.2.2.1 h.2.2.2.1 h.2.2.2.2
theorem Mj{α0:Sort _}{p0 p1 p2 p3:α0→Prop}{G:Prop}(h:∃x0,p0 x0∧p1 x0∧p2 x0∧p3 x0)(k:∀x0,p0 x0→p1 x0→p2 x0→p3 x0→G):G:=h.elim fun x0 h=>k x0 h.1 h.2.1 h.2.2.1 h.2.2.2
theorem c9{α0:Sort _}{α1:Sort _}{p0 p1 p2:α0→α1→Prop}{G:Prop}(h:∃x0,∃x1,p0 x0 x1∧p1 x0 x1∧p2 x0 x1)(k:∀x0 x1,p0 x0 x1→p1 x0 x1→p2 x0 x1→G):G:=h.elim fun x0 h=>h.elim fun x1 h=>k x0 x1 h.1 h.2.1 h.2.2
theorem N3{α0:Sort _}{α1:Sort _}{α2:Sort _}{α3:Sort _}{p0:α0→α1→α2→α3→Prop}{G:Prop}(h:∃x0,∃x1,∃x2,∃x3,p0 x0 x1 x2 x3)(k:∀x0 x1 x2 x3,p0 x0 x1 x2 x3→G):G:=h.elim fun x0 h=>h.elim fun x1 h=>h.elim fun x2 h=>h.elim fun x3 h=>k x0 x1 x2 x3 h
theorem KA{α0:Sort _}{α1:Sort _}{p0 p1 p2 p3:α0→α1→Prop}{G:Prop}(h:∃x0,∃x1,p0 x0 x1∧p1 x0 x1∧p2 x0 x1∧p3 x0 x1)(k:∀x0 x1,p0 x0 x1→p1 x0 x1→p2 x0 x1→p3 x0 x1→G):G:=h.elim fun x0 h=>h.elim fun x1 h=>k x0 x1 h.1 h.2.1 h.2.2.1 h.2.2.2
theorem HO{α0:Sort _}{α1:Sort _}{α2:Sort _}{p0 p1 p2:α0→α1→α2→Prop}{G:Prop}(h:∃x0,∃x1,∃x2,p0 x0 x1 x2∧p1 x0 x1 x2∧p2 x0 x1 x2)(k:∀x0 x1 x2,p0 x0 x1 x2→p1 x0 x1 x2→p2 x0 x1 x2→G):G:=h.elim fun x0 h=>h.elim fun x1 h=>h.elim fun x2 h=>k x0 x1 x2 h.1 h.2.1 h.2.2
theorem Qq{p0 p1 p2 p3 p4 p5 p6:Prop}{G:Prop}(h:p0∧p1∧p2∧p3∧p4∧p5∧p6)(k:p0→p1→p2→p3→p4→p5→p6→G):G:=k h.1 h.2.1 h.2.2.1 h.2.2.2.1 h.2.2.2.2.1 h.2.2.2.2.2.1 h.2.2.2.2.2.2
theorem NF{α0:Sort _}{α1:Sort _}{p0 p1 p2 p3 p4:α0→α1→Prop}{G:Prop}(h:∃x0,∃x1,p0 x0 x1∧p1 x0 x1∧p2 x0 x1∧p3 x0 x1∧p4 x0 x1)(k:∀x0 x1,p0 x0 x1→p1 x0 x1→p2 x0 x1→p3 x0 x1→p4 x0 x1→G):G:=h.elim fun x0 h=>h.elim fun x1 h=>k x0 x1 h.1 h.2.1 h.2.2.1 h.2.2.2.1 h.2.2.2.2
theorem nT{α0:Sort _}{α1:Sort _}{α2:Sort _}{p0 p1 p2 p3:α0→α1→α2→Prop}{G:Prop}(h:∃x0,∃x1,∃x2,p0 x0 x1 x2∧p1 x0 x1 x2∧p2 x0 x1 x2∧p3 x0 x1 x2)(k:∀x0 x1 x2,p0 x0 x1 x2→p1 x0 x1 x2→p2 x0 x1 x2→p3 x0 x1 x2→G):G:=h.elim fun x0 h=>h.elim fun x1 h=>h.elim fun x2 h=>k x0 x1 x2 h.1 h.2.1 h.2.2.1 h.2.2.2
theorem BQ{α0:Sort _}{α1:Sort _}{α2:Sort _}{α3:Sort _}{α4:Sort _}{α5:Sort _}{p0:α0→α1→α2→α3→α4→α5→Prop}{G:Prop}(h:∃x0,∃x1,∃x2,∃x3,∃x4,∃x5,p0 x0 x1 x2 x3 x4 x5)(k:∀x0 x1 x2 x3 x4 x5,p0 x0 x1 x2 x3 x4 x5→G):G:=h.elim fun x0 h=>h.elim fun x1 h=>h.elim fun x2 h=>h.elim fun x3 h=>h.elim fun x4 h=>h.elim fun x5 h=>k x0 x1 x2 x3 x4 x5 h
theorem Qc{p0 p1 p2 p3 p4 p5 p6 p7:Prop}{G:Prop}(h:p0∧p1∧p2∧p3∧p4∧p5∧p6∧p7)(k:p0→p1→p2→p3→p4→p5→p6→p7→G):G:=k h.1 h.2.1 h.2.2.1 h.2.2.2.1 h.2.2.2.2.1 h.2.2.2.2.2.1 h.2.2.2.2.2.2.1 h.2.2.2.2.2.2.2
theorem PN{α0:Sort _}{α1:Sort _}{p0 p1 p2 p3 p4 p5:α0→α1→Prop}{G:Prop}(h:∃x0,∃x1,p0 x0 x1∧p1 x0 x1∧p2 x0 x1∧p3 x0 x1∧p4 x0 x1∧p5 x0 x1)(k:∀x0 x1,p0 x0 x1→p1 x0 x1→p2 x0 x1→p3 x0 x1→p4 x0 x1→p5 x0 x1→G):G:=h.elim fun x0 h=>h.elim fun x1 h=>k x0 x1 h.1 h.2.1 h.2.2.1 h.2.2.2.1 h.2.2.2.2.1 h.2.2.2.2.2
theorem QC{α0:Sort _}{α1:Sort _}{α2:Sort _}{p0 p1 p2 p3 p4:α0→α1→α2→Prop}{G:Prop}(h:∃x0,∃x1,∃x2,p0 x0 x1 x2∧p1 x0 x1 x2∧p2 x0 x1 x2∧p3 x0 x1 x2∧p4 x0 x1 x2)(k:∀x0 x1 x2,p0 x0 x1 x2→p1 x0 x1 x2→p2 x0 x1 x2→p3 x0 x1 x2→p4 x0 x1 x2→G):G:=h.elim fun x0 h=>h.elim fun x1 h=>h.elim fun x2 h=>k x0 x1 x2 h.1 h.2.1 h.2.2.1 h.2.2.2.1 h.2.2.2.2
theorem mA{α0:Sort _}{α1:Sort _}{α2:Sort _}{α3:Sort _}{p0 p1 p2 p3:α0→α1→α2→α3→Prop}{G:Prop}(h:∃x0,∃x1,∃x2,∃x3,p0 x0 x1 x2 x3∧p1 x0 x1 x2 x3∧p2 x0 x1 x2 x3∧p3 x0 x1 x2 x3)(k:∀x0 x1 x2 x3,p0 x0 x1 x2 x3→p1 x0 x1 x2 x3→p2 x0 x1 x2 x3→p3 x0 x1 x2 x3→G):G:=h.elim fun x0 h=>h.elim fun x1 h=>h.elim fun x2 h=>h.elim fun x3 h=>k x0 x1 x2 x3 h.1 h.2.1 h.2.2.1 h.2.2.2
theorem Qh{α0:Sort _}{α1:Sort _}{p0 p1 p2 p3 p4 p5 p6 p7:α0→α1→Prop}{G:Prop}(h:∃x0,∃x1,p0 x0 x1∧p1 x0 x1∧p2 x0 x1∧p3 x0 x1∧p4 x0 x1∧p5 x0 x1∧p6 x0 x1∧p7 x0 x1)(k:∀x0 x1,p0 x0 x1→p1 x0 x1→p2 x0 x1→p3 x0 x1→p4 x0 x1→p5 x0 x1→p6 x0 x1→p7 x0 x1→G):G:=h.elim fun x0 h=>h.elim fun x1 h=>k x0 x1 h.1 h.2.1 h.2.2.1 h.2.2.2.1 h.2.2.2.2.1 h.2.2.2.2.2.1 h.2.2.2.2.2.2.1 h.2.2.2.2.2.2.2
theorem MC{α0:Sort _}{α1:Sort _}{α2:Sort _}{p0 p1 p2 p3 p4 p5 p6:α0→α1→α2→Prop}{G:Prop}(h:∃x0,∃x1,∃x2,p0 x0 x1 x2∧p1 x0 x1 x2∧p2 x0 x1 x2∧p3 x0 x1 x2∧p4 x0 x1 x2∧p5 x0 x1 x2∧p6 x0 x1 x2)(k:∀x0 x1 x2,p0 x0 x1 x2→p1 x0 x1 x2→p2 x0 x1 x2→p3 x0 x1 x2→p4 x0 x1 x2→p5 x0 x1 x2→p6 x0 x1 x2→G):G:=h.elim fun x0 h=>h.elim fun x1 h=>h.elim fun x2 h=>k x0 x1 x2 h.1 h.2.1 h.2.2.1 h.2.2.2.1 h.2.2.2.2.1 h.2.2.2.2.2.1 h.2.2.2.2.2.2
theorem Po{α0:Sort _}{α1:Sort _}{α2:Sort _}{α3:Sort _}{α4:Sort _}{α5:Sort _}{α6:Sort _}{α7:Sort _}{α8:Sort _}{p0:α0→α1→α2→α3→α4→α5→α6→α7→α8→Prop}{G:Prop}(h:∃x0,∃x1,∃x2,∃x3,∃x4,∃x5,∃x6,∃x7,∃x8,p0 x0 x1 x2 x3 x4 x5 x6 x7 x8)(k:∀x0 x1 x2 x3 x4 x5 x6 x7 x8,p0 x0 x1 x2 x3 x4 x5 x6 x7 x8→G):G:=h.elim fun x0 h=>h.elim fun x1 h=>h.elim fun x2 h=>h.elim fun x3 h=>h.elim fun x4 h=>h.elim fun x5 h=>h.elim fun x6 h=>h.elim fun x7 h=>h.elim fun x8 h=>k x0 x1 x2 x3 x4 x5 x6 x7 x8 h
theorem PQ{α0:Sort _}{α1:Sort _}{α2:Sort _}{α3:Sort _}{p0 p1 p2 p3 p4 p5 p6:α0→α1→α2→α3→Prop}{G:Prop}(h:∃x0,∃x1,∃x2,∃x3,p0 x0 x1 x2 x3∧p1 x0 x1 x2 x3∧p2 x0 x1 x2 x3∧p3 x0 x1 x2 x3∧p4 x0 x1 x2 x3∧p5 x0 x1 x2 x3∧p6 x0 x1 x2 x3)(k:∀x0 x1 x2 x3,p0 x0 x1 x2 x3→p1 x0 x1 x2 x3→p2 x0 x1 x2 x3→p3 x0 x1 x2 x3→p4 x0 x1 x2 x3→p5 x0 x1 x2 x3→p6 x0 x1 x2 x3→G):G:=h.elim fun x0 h=>h.elim fun x1 h=>h.elim fun x2 h=>h.elim fun x3 h=>k x0 x1 x2 x3 h.1 h.2.1 h.2.2.1 h.2.2.2.1 h.2.2.2.2.1 h.2.2.2.2.2.1 h.2.2.2.2.2.2
theorem QM{α0:Sort _}{α1:Sort _}{α2:Sort _}{α3:Sort _}{α4:Sort _}{p0 p1 p2 p3 p4 p5:α0→α1→α2→α3→α4→Prop}{G:Prop}(h:∃x0,∃x1,∃x2,∃x3,∃x4,p0 x0 x1 x2 x3 x4∧p1 x0 x1 x2 x3 x4∧p2 x0 x1 x2 x3 x4∧p3 x0 x1 x2 x3 x4∧p4 x0 x1 x2 x3 x4∧p5 x0 x1 x2 x3 x4)(k:∀x0 x1 x2 x3 x4,p0 x0 x1 x2 x3 x4→p1 x0 x1 x2 x3 x4→p2 x0 x1 x2 x3 x4→p3 x0 x1 x2 x3 x4→p4 x0 x1 x2 x3 x4→p5 x0 x1 x2 x3 x4→G):G:=h.elim fun x0 h=>h.elim fun x1 h=>h.elim fun x2 h=>h.elim fun x3 h=>h.elim fun x4 h=>k x0 x1 x2 x3 x4 h.1 h.2.1 h.2.2.1 h.2.2.2.1 h.2.2.2.2.1 h.2.2.2.2.2
theorem NI{α0:Sort _}{α1:Sort _}{α2:Sort _}{α3:Sort _}{α4:Sort _}{α5:Sort _}{p0 p1 p2 p3 p4:α0→α1→α2→α3→α4→α5→Prop}{G:Prop}(h:∃x0,∃x1,∃x2,∃x3,∃x4,∃x5,p0 x0 x1 x2 x3 x4 x5∧p1 x0 x1 x2 x3 x4 x5∧p2 x0 x1 x2 x3 x4 x5∧p3 x0 x1 x2 x3 x4 x5∧p4 x0 x1 x2 x3 x4 x5)(k:∀x0 x1 x2 x3 x4 x5,p0 x0 x1 x2 x3 x4 x5→p1 x0 x1 x2 x3 x4 x5→p2 x0 x1 x2 x3 x4 x5→p3 x0 x1 x2 x3 x4 x5→p4 x0 x1 x2 x3 x4 x5→G):G:=h.elim fun x0 h=>h.elim fun x1 h=>h.elim fun x2 h=>h.elim fun x3 h=>h.elim fun x4 h=>h.elim fun x5 h=>k x0 x1 x2 x3 x4 x5 h.1 h.2.1 h.2.2.1 h.2.2.2.1 h.2.2.2.2
theorem Qf{α0:Sort _}{α1:Sort _}{α2:Sort _}{α3:Sort _}{α4:Sort _}{α5:Sort _}{α6:Sort _}{α7:Sort _}{α8:Sort _}{p0 p1:α0→α1→α2→α3→α4→α5→α6→α7→α8→Prop}{G:Prop}(h:∃x0,∃x1,∃x2,∃x3,∃x4,∃x5,∃x6,∃x7,∃x8,p0 x0 x1 x2 x3 x4 x5 x6 x7 x8∧p1 x0 x1 x2 x3 x4 x5 x6 x7 x8)(k:∀x0 x1 x2 x3 x4 x5 x6 x7 x8,p0 x0 x1 x2 x3 x4 x5 x6 x7 x8→p1 x0 x1 x2 x3 x4 x5 x6 x7 x8→G):G:=h.elim fun x0 h=>h.elim fun x1 h=>h.elim fun x2 h=>h.elim fun x3 h=>h.elim fun x4 h=>h.elim fun x5 h=>h.elim fun x6 h=>h.elim fun x7 h=>h.elim fun x8 h=>k x0 x1 x2 x3 x4 x5 x6 x7 x8 h.1 h.2
theorem Q2{α0:Sort _}{α1:Sort _}{α2:Sort _}{α3:Sort _}{α4:Sort _}{p0 p1 p2 p3 p4 p5 p6:α0→α1→α2→α3→α4→Prop}{G:Prop}(h:∃x0,∃x1,∃x2,∃x3,∃x4,p0 x0 x1 x2 x3 x4∧p1 x0 x1 x2 x3 x4∧p2 x0 x1 x2 x3 x4∧p3 x0 x1 x2 x3 x4∧p4 x0 x1 x2 x3 x4∧p5 x0 x1 x2 x3 x4∧p6 x0 x1 x2 x3 x4)(k:∀x0 x1 x2 x3 x4,p0 x0 x1 x2 x3 x4→p1 x0 x1 x2 x3 x4→p2 x0 x1 x2 x3 x4→p3 x0 x1 x2 x3 x4→p4 x0 x1 x2 x3 x4→p5 x0 x1 x2 x3 x4→p6 x0 x1 x2 x3 x4→G):G:=h.elim fun x0 h=>h.elim fun x1 h=>h.elim fun x2 h=>h.elim fun x3 h=>h.elim fun x4 h=>k x0 x1 x2 x3 x4 h.1 h.2.1 h.2.2.1 h.2.2.2.1 h.2.2.2.2.1 h.2.2.2.2.2.1 h.2.2.2.2.2.2
section
noncomputable def O.live:O→Bool
 |.frz _=>false
 |_=>true
structure Pm where
 p:Params
 T:Nat→V
namespace Tr
theorem Ci{α:Type}(i:Nat)(a b c:α):(match Nat.beq i 0 with|true=>a|false=>match Nat.beq (i % 2) 1 with|true=>b|false=>c)=if i=0 then a else if i % 2=1 then b else c:=by
 rw[BT.beq_eq,BT.beq_eq]
 by_cases h:i=0
 ·simp[h]
 ·by_cases q:i % 2=1 <;> simp[h,q]
theorem sV(v:Option O)(l r:Tr)(i:Nat):(node v l r).get i=if i=0 then v else if i % 2=1 then l.get (i / 2)else r.get (i / 2 - 1):=Ci ..
theorem sh(v:Option O)(l r:Tr)(i:Nat)(o:Option O):(node v l r).set i o=if i=0 then node o l r else if i % 2=1 then node v (l.set (i / 2) o) r else node v l (r.set (i / 2 - 1) o):=Ci ..
theorem sF(v:Option O)(l r:Tr)(i:Nat)(o:O):(node v l r).ins i o=if i=0 then node (some o) l r else if i % 2=1 then node v (l.ins (i / 2) o) r else node v l (r.ins (i / 2 - 1) o):=Ci ..
theorem KL(i:Nat){G:Prop}(h0:i=0→G)(h1:∀b,i=2*b+1→G)(h2:∀b,i=2*b+2→G):G:=by
 rcases Nat.eq_zero_or_pos i with h|h
 ·exact h0 h
 rcases Nat.mod_two_eq_zero_or_one i with p|p
 ·exact h2 (i / 2 - 1) (by omega)
 ·exact h1 (i / 2) (by omega)
theorem QX{α:Type}(b:Nat)(x:α)(f g:Nat→α):(if 2*b+1=0 then x else if(2*b+1) % 2=1 then f ((2*b+1) / 2)else g ((2*b+1) / 2 - 1))=f b:=by
 rw[if_neg (Nat.succ_ne_zero _),if_pos (by omega),show(2*b+1) / 2=b by omega]
theorem Ry{α:Type}(b:Nat)(x:α)(f g:Nat→α):(if 2*b+2=0 then x else if(2*b+2) % 2=1 then f ((2*b+2) / 2)else g ((2*b+2) / 2 - 1))=g b:=by
 rw[if_neg (Nat.succ_ne_zero _),if_neg (by omega),show(2*b+2) / 2 - 1=b by omega]
section
variable (v:Option O)(l r:Tr)(b:Nat)
theorem iO:(node v l r).get (2*b+1)=l.get b:=(sV ..).trans (QX b v l.get r.get)
theorem iK:(node v l r).get (2*b+2)=r.get b:=(sV ..).trans (Ry b v l.get r.get)
theorem Nb(o:Option O):(node v l r).set (2*b+1) o=node v (l.set b o) r:=(sh ..).trans (QX b _ (fun b=>node v (l.set b o) r) fun b=>node v l (r.set b o))
theorem NB(o:Option O):(node v l r).set (2*b+2) o=node v l (r.set b o):=(sh ..).trans (Ry b _ (fun b=>node v (l.set b o) r) fun b=>node v l (r.set b o))
theorem Io(o:O):(node v l r).ins (2*b+1) o=node v (l.ins b o) r:=(sF ..).trans (QX b _ (fun b=>node v (l.ins b o) r) fun b=>node v l (r.ins b o))
theorem IU(o:O):(node v l r).ins (2*b+2) o=node v l (r.ins b o):=(sF ..).trans (Ry b _ (fun b=>node v (l.ins b o) r) fun b=>node v l (r.ins b o))
end
theorem Pz(v o:Option O)(l r:Tr)(i:Nat):(node o l r).get i=if i=0 then o else(node v l r).get i:=by
 refine KL i (fun h=>?_) (fun b h=>?_) fun b h=>?_ <;> subst h
 ·rfl
 ·rw[iO,iO];exact(if_neg (Nat.succ_ne_zero _)).symm
 ·rw[iK,iK];exact(if_neg (Nat.succ_ne_zero _)).symm
theorem Sz{l l':Tr}{o:Option O}{a:Nat}(v:Option O)(r:Tr)(h:∀i,l'.get i=if i=a then o else l.get i)(i:Nat):(node v l' r).get i=if i=2*a+1 then o else(node v l r).get i:=by
 refine KL i (fun e=>?_) (fun b e=>?_) fun b e=>?_ <;> subst e
 ·exact(if_neg (Nat.succ_ne_zero _).symm).symm
 ·rw[iO,iO,h b]
  by_cases e:b=a
  ·rw[if_pos e,if_pos (by rw[e])]
  ·rw[if_neg e,if_neg (by omega)]
 ·rw[iK,iK,if_neg (by omega)]
theorem SD{r r':Tr}{o:Option O}{a:Nat}(v:Option O)(l:Tr)(h:∀i,r'.get i=if i=a then o else r.get i)(i:Nat):(node v l r').get i=if i=2*a+2 then o else(node v l r).get i:=by
 refine KL i (fun e=>?_) (fun b e=>?_) fun b e=>?_ <;> subst e
 ·exact(if_neg (Nat.succ_ne_zero _).symm).symm
 ·rw[iO,iO,if_neg (by omega)]
 ·rw[iK,iK,h b]
  by_cases e:b=a
  ·rw[if_pos e,if_pos (by rw[e])]
  ·rw[if_neg e,if_neg (by omega)]
theorem get_set(o:Option O)(t:Tr):∀(a i:Nat),(t.get a).isSome=true→(t.set a o).get i=if i=a then o else t.get i:=by
  induction t with
  |nil=>intro _ _ h;cases h
  | node v l r ih1 ih2=>
    intro a i h
    refine KL a (fun e=>?_) (fun b e=>?_) fun b e=>?_ <;> subst e
    · exact Pz v o l r i
    · rw[iO]at h;rw[Nb];exact Sz v r (fun i=>ih1 b i h) i
    · rw[iK]at h;rw[NB];exact SD v l (fun i=>ih2 b i h) i
theorem nn(i:Nat):(node none nil nil).get i=none:=by
 refine KL i (fun e=>?_) (fun b e=>?_) fun b e=>?_ <;> subst e
 ·rfl
 ·rw[iO];rfl
 ·rw[iK];rfl
theorem get_ins(o:O)(t:Tr):∀(a:Nat),((t.ins a o).get a).isSome=true→∀i,(t.ins a o).get i=if i=a then some o else t.get i:=by
  induction t with
  | nil=>
    intro a h i
    refine KL a (fun e=>?_) (fun b e=>?_) fun b e=>?_ <;> subst e
    · exact(Pz none (some o) nil nil i).trans (by rw[nn];rfl)
    · have h:((node (some o) nil nil).get (2*b+1)).isSome=true:=h
      rw[iO]at h;cases h
    · have h:((node (some o) nil nil).get (2*b+2)).isSome=true:=h
      rw[iK]at h;cases h
  | node v l r ih1 ih2=>
    intro a h i
    refine KL a (fun e=>?_) (fun b e=>?_) fun b e=>?_ <;> subst e
    · exact Pz v (some o) l r i
    · rw[Io,iO]at h;rw[Io];exact Sz v r (ih1 b h) i
    · rw[IU,iK]at h;rw[IU];exact SD v l (ih2 b h) i
end Tr
noncomputable abbrev HP:=Addr→Obj→Prop
noncomputable def aw(a:Array UInt8):List Int:=a.toList.map fun b=>(b.toNat:Int)
noncomputable abbrev eO(rs:List Value):Obj:=⟨.type "tuple",none,.seq rs.toArray 0,#[]⟩
noncomputable abbrev i0(n:Int)(t u v:Tok):Obj:={cls:=.type "range",dict:=none,data:=.fields #[.int 0 t,.int n u,.int 1 v],slots:=#[]}
noncomputable abbrev aA(rs:List Value)(n:Nat):Obj:=W.listOf rs.toArray n
inductive dw(P:Pm):V→Int→Prop
 |str {k x}:dw P (.str k x) (PyData.keyHash P.p x)
 |int {k x}:dw P (.int k x) (hashInt x)
 |tup {a b c x y z}:dw P (.tup [.int a x,.int b y,.int c z]) (reduceHash (Builtin.Tuple.tupleHashOf [hashInt x,hashInt y,hashInt z]))
noncomputable def ba(kvs:List (V×V)):Prop:=kvs.Pairwise fun a b=>bu a.1 b.1=false
mutual
inductive ag(P:Pm)(H:HP)(ρ:List Addr):V→Value→Prop
 |none:ag P H ρ .none .none
 |bool {k b}:ag P H ρ (.bool k b) (.bool b)
 |int {k x t}:ag P H ρ (.int k x) (.int x t)
 |str {k x t}:PyData.strOk x=true→ag P H ρ (.str k x) (.str x t)
 |bytes {k a t}:ag P H ρ (.bytes k (aw a)) (.bytes a t)
 |irow {k xs rs a n}:H a (aA rs n)→IntsAre rs xs→ag P H ρ (.irow k xs) (.ref a)
 |tup {vs rs a}:H a (eO rs)→ai P H ρ vs rs→ag P H ρ (.tup vs) (.ref a)
 |inst {C fs a d es n}:H a (instObj C d)→H d (dictOf es n)→bt P H ρ fs es→ag P H ρ (.inst C fs) (.ref a)
 |list {vs rs a n}:H a (aA rs n)→ai P H ρ vs rs→ag P H ρ (.list vs) (.ref a)
 |dict {kvs a es n}:H a (dictOf es n)→(a==sysModules)=false→ba kvs→bF P H ρ kvs es→ag P H ρ (.dict kvs) (.ref a)
 |ref {i a}:ρ[i]?=some a→ag P H ρ (.ref i) (.ref a)
 |glob {a}:ag P H ρ (.glob a) (.ref a)
 |blt {s}:ag P H ρ (.blt s) (.builtin s.name)
 |typ {s}:ag P H ρ (.typ s) (.type s.name)
 |named {k r}:ag P H ρ (P.T k) r→ag P H ρ (.named k) r
 |rng {k n a t u v}:H a (i0 n t u v)→ag P H ρ (.rng k n) (.ref a)
inductive ai(P:Pm)(H:HP)(ρ:List Addr):List V→List Value→Prop
 |nil:ai P H ρ [] []
 |cons {v r vs rs}:ag P H ρ v r→ai P H ρ vs rs→ai P H ρ (v::vs) (r::rs)
inductive bt(P:Pm)(H:HP)(ρ:List Addr):List (Str×V)→List DictEntry→Prop
 |nil:bt P H ρ [] []
 |cons {x v t r fs es}:ag P H ρ v r→bt P H ρ fs es→bt P H ρ ((x,v)::fs) (⟨PyData.keyHash P.p x,.str x t,r⟩::es)
inductive bF(P:Pm)(H:HP)(ρ:List Addr):List (V×V)→List DictEntry→Prop
 |nil:bF P H ρ [] []
 |cons {kv v hs kr r kvs es}:ag P H ρ kv kr→dw P kv hs→ag P H ρ v r→bF P H ρ kvs es→bF P H ρ ((kv,v)::kvs) (⟨hs,kr,r⟩::es)
end
noncomputable def bN(ρ ρ':List Addr):Prop:=∀(i:Nat) (a:Addr),ρ[i]?=some a→ρ'[i]?=some a
theorem bN.refl{ρ:List Addr}:bN ρ ρ:=fun _ _ e=>e
theorem bN.trans{ρ ρ' ρ'':List Addr}(x:bN ρ ρ')(y:bN ρ' ρ''):bN ρ ρ'':=fun i a e=>y i a (x i a e)
theorem bN.more{ρ:List Addr}{a:Addr}:bN ρ (ρ++[a]):=fun i b e=>by
 rw[List.getElem?_append_left (by
  rcases Nat.lt_or_ge i ρ.length with h|h
  ·exact h
  ·rw[List.getElem?_eq_none h]at e;cases e)]
 exact e
noncomputable def EP(H H':HP):Prop:=∀a o,H a o→(∀v,o.data≠.cell v)→H' a o
theorem Sl{rs:List Value}{n:Nat}(v:Option Value):(aA rs n).data≠.cell v:=by intro e;cases e
theorem Td{rs:List Value}(v:Option Value):(eO rs).data≠.cell v:=by intro e;cases e
theorem SW{C d:Addr}(v:Option Value):(instObj C d).data≠.cell v:=by intro e;cases e
theorem Sg{es:List DictEntry}{n:Nat}(v:Option Value):(dictOf es n).data≠.cell v:=by intro e;cases e
theorem Tp{n:Int}{t u x:Tok}(v:Option Value):(i0 n t u x).data≠.cell v:=by intro e;cases e
theorem ag.cut{P:Pm}{H H':HP}{ρ ρ':List Addr}(hH:EP H H')(hρ:bN ρ ρ'){v:V}{r:Value}(h:ag P H ρ v r):ag P H' ρ' v r:=
 have z {a o} (x:H a o) (q:∀v,o.data≠.cell v):H' a o:=hH _ _ x q
 ag.rec (motive_1:=fun v r _=>ag P H' ρ' v r) (motive_2:=fun v r _=>ai P H' ρ' v r) (motive_3:=fun v r _=>bt P H' ρ' v r) (motive_4:=fun v r _=>bF P H' ρ' v r)
  .none .bool .int .str .bytes (fun a b=>.irow (z a Sl) b) (fun a _ i=>.tup (z a Td) i) (fun a b _ i=>.inst (z a SW) (z b Sg) i) (fun a _ i=>.list (z a Sl) i) (fun a b c _ i=>.dict (z a Sg) b c i)
  (fun a=>.ref (hρ _ _ a)) .glob .blt .typ (fun _ i=>.named i) (fun a=>.rng (z a Tp)) .nil (fun _ _ i j=>.cons i j) .nil (fun _ _ i j=>.cons i j) .nil (fun _ b _ _ i j k=>.cons i b j k) h
theorem ai.imp{P P':Pm}{H H':HP}{ρ ρ':List Addr}(f:∀v r,ag P H ρ v r→ag P' H' ρ' v r){v:List V}:∀{r:List Value},ai P H ρ v r→ai P' H' ρ' v r:=by
 induction v with
 |nil=>intro r h;cases h;exact .nil
 |cons _ _ ih=>intro r h;cases h with|cons a b=>exact .cons (f _ _ a) (ih b)
theorem bt.imp{P:Pm}{H H':HP}{ρ ρ':List Addr}(f:∀v r,ag P H ρ v r→ag P H' ρ' v r){v:List (Str×V)}:∀{r:List DictEntry},bt P H ρ v r→bt P H' ρ' v r:=by
 induction v with
 |nil=>intro r h;cases h;exact .nil
 |cons _ _ ih=>intro r h;cases h with|cons a b=>exact .cons (f _ _ a) (ih b)
theorem bF.imp{P:Pm}{H H':HP}{ρ ρ':List Addr}(f:∀v r,ag P H ρ v r→ag P H' ρ' v r){v:List (V×V)}:∀{r:List DictEntry},bF P H ρ v r→bF P H' ρ' v r:=by
 induction v with
 |nil=>intro r h;cases h;exact .nil
 |cons _ _ ih=>intro r h;cases h with|cons a b c d=>exact .cons (f _ _ a) b (f _ _ c) (ih d)
theorem ai.cut{P:Pm}{H H':HP}{ρ ρ':List Addr}(hH:EP H H')(hρ:bN ρ ρ'){v:List V}{r:List Value}(h:ai P H ρ v r):ai P H' ρ' v r:=h.imp fun _ _=>.cut hH hρ
theorem bt.cut{P:Pm}{H H':HP}{ρ ρ':List Addr}(hH:EP H H')(hρ:bN ρ ρ'){v:List (Str×V)}{r:List DictEntry}(h:bt P H ρ v r):bt P H' ρ' v r:=h.imp fun _ _=>.cut hH hρ
theorem bF.cut{P:Pm}{H H':HP}{ρ ρ':List Addr}(hH:EP H H')(hρ:bN ρ ρ'){v:List (V×V)}{r:List DictEntry}(h:bF P H ρ v r):bF P H' ρ' v r:=h.imp fun _ _=>.cut hH hρ
theorem ag.mono{P:Pm}{H H':HP}{ρ ρ':List Addr}(hH:∀a o,H a o→H' a o)(hρ:bN ρ ρ'){v:V}{r:Value}(h:ag P H ρ v r):ag P H' ρ' v r:=h.cut (fun a o e _=>hH a o e) hρ
theorem ai.mono{P:Pm}{H H':HP}{ρ ρ':List Addr}(hH:∀a o,H a o→H' a o)(hρ:bN ρ ρ'){v:List V}{r:List Value}(h:ai P H ρ v r):ai P H' ρ' v r:=h.cut (fun a o e _=>hH a o e) hρ
theorem bt.mono{P:Pm}{H H':HP}{ρ ρ':List Addr}(hH:∀a o,H a o→H' a o)(hρ:bN ρ ρ'){v:List (Str×V)}{r:List DictEntry}(h:bt P H ρ v r):bt P H' ρ' v r:=h.cut (fun a o e _=>hH a o e) hρ
theorem bF.mono{P:Pm}{H H':HP}{ρ ρ':List Addr}(hH:∀a o,H a o→H' a o)(hρ:bN ρ ρ'){v:List (V×V)}{r:List DictEntry}(h:bF P H ρ v r):bF P H' ρ' v r:=h.cut (fun a o e _=>hH a o e) hρ
noncomputable abbrev bG:=Str→Option Value
inductive cX(P:Pm)(H:HP)(ρ:List Addr)(h:Heap)(a:Addr):O→Prop
 |list {vs rs n}:h.get? a=some (aA rs n)→ai P H ρ vs rs→cX P H ρ h a (.list vs)
 |dict {kvs es n}:h.get? a=some (dictOf es n)→(a==sysModules)=false→ba kvs→bF P H ρ kvs es→cX P H ρ h a (.dict kvs)
 |inst {C d dx}:h.get? a=some (instObj C dx)→ρ[d]?=some dx→cX P H ρ h a (.inst C d)
 |ns {fs es n}:h.get? a=some (dictOf es n)→bt P H ρ fs es→cX P H ρ h a (.ns fs)
 |frz {v}:ag P H ρ v (.ref a)→cX P H ρ h a (.frz v)
theorem cX.cut{P:Pm}{H H':HP}{ρ ρ':List Addr}{h h':Heap}{a:Addr}(hH:EP H H')(hρ:bN ρ ρ')(hk:∀o,h.get? a=some o→h'.get? a=some o):∀{o:O},cX P H ρ h a o→cX P H' ρ' h' a o
 |_,.list x y=>.list (hk _ x) (y.cut hH hρ)
 |_,.dict x u v y=>.dict (hk _ x) u v (y.cut hH hρ)
 |_,.inst x y=>.inst (hk _ x) (hρ _ _ y)
 |_,.ns x y=>.ns (hk _ x) (y.cut hH hρ)
 |_,.frz y=>.frz (y.cut hH hρ)
theorem cX.mono{P:Pm}{H H':HP}{ρ ρ':List Addr}{h h':Heap}{a:Addr}(hH:∀a o,H a o→H' a o)(hρ:bN ρ ρ')(hk:∀o,h.get? a=some o→h'.get? a=some o){o:O}(x:cX P H ρ h a o):cX P H' ρ' h' a o:=x.cut (fun a o e _=>hH a o e) hρ hk
structure Fp where
 φ:HP→Obj→Prop
 cut:∀{H H':HP} {o:Obj},EP H H'→φ H o→φ H' o
theorem Fp.mono(p:Fp){H H':HP}{o:Obj}(k:∀a o,H a o→H' a o)(h:p.φ H o):p.φ H' o:=p.cut (fun a o e _=>k a o e) h
noncomputable abbrev gi(φ:Obj→Prop):Fp:=⟨fun _=>φ,fun _ h=>h⟩
noncomputable abbrev aJ:=List (Addr×Fp)
noncomputable def vF(m:bG):Obj→Prop:=fun o=>∃es ep,o.data=.dict es ep∧StrKeys es∧∀name:Str,nsFind es name=m name
noncomputable abbrev aK(m:bG):Fp:=gi (vF m)
theorem cw{h:Heap}{a:Addr}{m:bG}:(∃o,h.get? a=some o∧vF m o)↔h.Ns a m:=
 ⟨fun⟨o,e,es,ep,r⟩=>⟨o,es,ep,e,r⟩,fun⟨o,es,ep,e,r⟩=>⟨o,e,es,ep,r⟩⟩
structure IF(base:Heap)(H:HP)(frs:aJ)(a:Addr):Prop where
 nb:base.get? a=none
 nH:∀o,¬H a o
 nf:a∉frs.map (·.1)
structure aM(P:Pm)(base:Heap)(H:HP)(ρ:List Addr)(frs:aJ)(ob:Tr)(h:Heap):Prop where
 keep:∀b o,base.get? b=some o→h.get? b=some o
 frz:∀a o,H a o→h.get? a=some o
 frNs:∀p∈frs,∃o,h.get? p.1=some o∧p.2.φ H o
 frNew:∀p∈frs,base.get? p.1=none∧∀o,¬H p.1 o
 frDup:(frs.map (·.1)).Nodup
 own:∀i o,ob.get i=some o→∃a,ρ[i]?=some a∧cX P H ρ h a o∧(o.live=true→IF base H frs a)
 dup:ρ.Nodup
 there:∀a∈ρ,∃o,h.get? a=some o
 rf:∀a∈ρ,a∉frs.map (·.1)
theorem jb{base h:Heap}{a:Addr}(k:∀b o,base.get? b=some o→h.get? b=some o)(ha:h.objs.size≤a):base.get? a=none:=by
 cases q:base.get? a with
 |none=>rfl
 |some o=>exact absurd (Heap.lt_size (k _ _ q)) (Nat.not_lt.mpr ha)
noncomputable def HP.and(H:HP)(a:Addr)(o:Obj):HP:=fun b x=>H b x∨(b=a∧x=o)
theorem HP.le{H:HP}{a:Addr}{o:Obj}:∀b x,H b x→(H.and a o) b x:=fun _ _ e=>.inl e
theorem HP.new{H:HP}{a:Addr}{o:Obj}:(H.and a o) a o:=.inr ⟨rfl,rfl⟩
theorem eV{base B:Heap}(k:∀b o,base.get? b=some o→B.get? b=some o){b:Addr}(e:B.get? b=none):base.get? b=none:=by
 cases q:base.get? b with
 |none=>rfl
 |some o=>rw[k b o q]at e;cases e
section
variable {P:Pm}{base h h':Heap}{H:HP}{ρ:List Addr}{frs:aJ}{ob:Tr}
theorem aM.perm{frs':aJ}(I:aM P base H ρ frs ob h)(p:frs.Perm frs'):aM P base H ρ frs' ob h:=
 ⟨I.keep,I.frz,fun q hq=>I.frNs q (p.mem_iff.mpr hq),fun q hq=>I.frNew q (p.mem_iff.mpr hq),(p.map (·.1)).nodup_iff.mp I.frDup,fun i o e=>let ⟨a,h1,h2,h3⟩:=I.own i o e;⟨a,h1,h2,fun l=>⟨(h3 l).nb,(h3 l).nH,fun z=>(h3 l).nf ((p.map (·.1)).mem_iff.mpr z)⟩⟩,I.dup,I.there,fun a ha z=>I.rf a ha ((p.map (·.1)).mem_iff.mpr z)⟩
theorem aM.lt(I:aM P base H ρ frs ob h){a:Addr}(ha:a∈ρ):a < h.objs.size:=let ⟨_,e⟩:=I.there a ha;Heap.lt_size e
theorem aM.topNew(I:aM P base H ρ frs ob h):base.get? h.objs.size=none:=jb I.keep (Nat.le_refl _)
theorem aM.topH(I:aM P base H ρ frs ob h)(o:Obj):¬H h.objs.size o:=fun z=>absurd (Heap.lt_size (I.frz _ _ z)) (Nat.lt_irrefl _)
theorem aM.topF(I:aM P base H ρ frs ob h):h.objs.size∉frs.map (·.1):=fun z=>by
 refine aq (List.mem_map.mp z) fun p hp e=>?_
 refine aq (I.frNs p hp) fun o ho _=>?_
 have:=Heap.lt_size ho
 rw[e]at this
 exact absurd this (Nat.lt_irrefl _)
theorem aM.topR(I:aM P base H ρ frs ob h):h.objs.size∉ρ:=fun z=>absurd (I.lt z) (Nat.lt_irrefl _)
theorem aM.keeps(I:aM P base H ρ frs ob h)(k:∀b o,h.get? b=some o→h'.get? b=some o):aM P base H ρ frs ob h' where
 keep b o e:=k _ _ (I.keep b o e)
 frz a o e:=k _ _ (I.frz a o e)
 frNs p hp:=let ⟨o,e,f⟩:=I.frNs p hp;⟨o,k _ _ e,f⟩
 frNew:=I.frNew
 frDup:=I.frDup
 own i o e:=let ⟨a,h1,h2,h3⟩:=I.own i o e;⟨a,h1,h2.mono (fun _ _ x=>x) .refl (fun _ x=>k _ _ x),h3⟩
 dup:=I.dup
 there a ha:=let ⟨o,e⟩:=I.there a ha;⟨o,k _ _ e⟩
 rf:=I.rf
theorem aM.push(I:aM P base H ρ frs ob h)(o:Obj)(hf:o.isFreed=false:=by rfl):aM P base (H.and h.objs.size o) ρ frs ob (h.push o):=by
 have k:∀b x,h.get? b=some x→(h.push o).get? b=some x:=fun b x e=>Heap.get?_push_of_some _ e
 have J:=I.keeps k
 refine{J with frz:=?_,frNs:=fun p hp=>let ⟨o,e,f⟩:=J.frNs p hp;⟨o,e,p.2.mono HP.le f⟩,frNew:=?_,own:=?_}
 ·rintro a x (e|⟨rfl,rfl⟩)
  ·exact J.frz a x e
  ·exact Heap.get?_push_size _ hf
 ·intro p hp
  refine⟨(I.frNew p hp).1,?_⟩
  rintro x (e|⟨e,rfl⟩)
  ·exact(I.frNew p hp).2 x e
  ·exact I.topF (List.mem_map.mpr ⟨p,hp,e⟩)
 ·intro i x e
  refine cJ (J.own i x e) fun a h1 h2 h3=>?_
  refine⟨a,h1,h2.mono (fun _ _ x=>.inl x) .refl (fun _ x=>x),fun q=>⟨(h3 q).nb,?_,(h3 q).nf⟩⟩
  rintro y (e'|⟨e',rfl⟩)
  ·exact(h3 q).nH y e'
  ·exact I.topR (e'▸List.mem_of_getElem? h1)
theorem aM.freeze (I:aM P base H ρ frs ob h) {i:Nat} {a:Addr} {x:O} {o:Obj} {v:V} {ob':Tr} (hi:ob.get i=some x) (hl:x.live=true) (ha:ρ[i]?=some a) (ho:h.get? a=some o)
    (hob:∀j,ob'.get j=if j=i then some (.frz v)else ob.get j) (hv:ag P (H.and a o) ρ v (.ref a)):aM P base (H.and a o) ρ frs ob' h:=by
  refine cJ (I.own i x hi) fun a' h1 h2 h3=>?_
  obtain rfl:a'=a:=Option.some.inj (h1.symm.trans ha)
  have h3:=h3 hl
  refine⟨I.keep,?_,fun p hp=>let ⟨o,e,f⟩:=I.frNs p hp;⟨o,e,p.2.mono HP.le f⟩,fun p hp=>⟨(I.frNew p hp).1,?_⟩,I.frDup,fun j y e=>?_,I.dup,I.there,I.rf⟩
  · rintro b y (e|⟨rfl,rfl⟩)
    · exact I.frz b y e
    · exact ho
  · rintro y (e|⟨e,rfl⟩)
    · exact(I.frNew p hp).2 y e
    · exact h3.nf (List.mem_map.mpr ⟨p,hp,e⟩)
  · rw [hob]at e
    by_cases q:j=i
    · subst q
      rw[if_pos rfl]at e
      cases e
      exact⟨a',h1,.frz hv,fun q=>by cases q⟩
    · rw[if_neg q]at e
      refine cJ (I.own j y e) fun b g1 g2 g3=>?_
      refine⟨b,g1,g2.mono (fun _ _ x=>.inl x) .refl (fun _ x=>x),fun l=>⟨(g3 l).nb,?_,(g3 l).nf⟩⟩
      rintro z (e'|⟨e',rfl⟩)
      · exact(g3 l).nH z e'
      · subst e'
        refine bz (List.getElem?_eq_some_iff.mp g1) fun hj ej=>?_
        refine bz (List.getElem?_eq_some_iff.mp h1) fun hi' ei=>?_
        exact q ((List.getElem_inj I.dup).mp (ej.trans ei.symm))
theorem AS (I:aM P base H ρ frs ob h) {i:Nat} {a:Addr} {x:O} {o:Obj} {ob':Tr} (hi:ob.get i=some x) (hl:x.live=true) (ha:ρ[i]?=some a) (ho:h.get? a=some o)
    (hob:∀j,ob'.get j=if j=i then none else ob.get j):aM P base (H.and a o) ρ frs ob' h:=by
  refine cJ (I.own i x hi) fun a' h1 h2 h3=>?_
  obtain rfl:a'=a:=Option.some.inj (h1.symm.trans ha)
  have h3:=h3 hl
  refine⟨I.keep,?_,fun p hp=>let ⟨o,e,f⟩:=I.frNs p hp;⟨o,e,p.2.mono HP.le f⟩,fun p hp=>⟨(I.frNew p hp).1,?_⟩,I.frDup,fun j y e=>?_,I.dup,I.there,I.rf⟩
  · rintro b y (e|⟨rfl,rfl⟩)
    · exact I.frz b y e
    · exact ho
  · rintro y (e|⟨e,rfl⟩)
    · exact(I.frNew p hp).2 y e
    · exact h3.nf (List.mem_map.mpr ⟨p,hp,e⟩)
  · rw [hob]at e
    by_cases q:j=i
    · rw[if_pos q]at e;cases e
    · rw[if_neg q]at e
      refine cJ (I.own j y e) fun b g1 g2 g3=>?_
      refine⟨b,g1,g2.mono (fun _ _ x=>.inl x) .refl (fun _ x=>x),fun l=>⟨(g3 l).nb,?_,(g3 l).nf⟩⟩
      rintro z (e'|⟨e',rfl⟩)
      · exact(g3 l).nH z e'
      · subst e'
        refine bz (List.getElem?_eq_some_iff.mp g1) fun hj ej=>?_
        refine bz (List.getElem?_eq_some_iff.mp h1) fun hi' ei=>?_
        exact q ((List.getElem_inj I.dup).mp (ej.trans ei.symm))
theorem EG{ob':Tr}(I:aM P base H ρ frs ob h)(hob:∀j,ob'.get j=ob.get j):aM P base H ρ frs ob' h:=
 ⟨I.keep,I.frz,I.frNs,I.frNew,I.frDup,fun j y e=>I.own j y ((hob j).symm.trans e),I.dup,I.there,I.rf⟩
theorem aM.allocAt(I:aM P base H ρ frs ob h){ob':Tr}{o:Obj}{x:O}{D:Addr}(hD:h.get? D=none)(k:∀b x,h.get? b=some x→h'.get? b=some x)(he:h'.get? D=some o)(hob:∀i,ob'.get i=if i=ρ.length then some x else ob.get i)
  (hx:cX P H (ρ++[D]) h' D x):aM P base H (ρ++[D]) frs ob' h':=by
 have J:=I.keeps k
 have nR:D∉ρ:=fun q=>by obtain⟨o,e⟩:=I.there D q;rw[hD]at e;cases e
 have nF:D∉frs.map (·.1):=fun q=>by
  refine aq (List.mem_map.mp q) fun p hp e=>?_
  refine aq (I.frNs p hp) fun o e' _=>?_
  rw[e,hD]at e';cases e'
 refine{J with own:=?_,dup:=?_,there:=?_,rf:=?_}
 ·intro i y e
  rw[hob]at e
  by_cases q:i=ρ.length
  ·subst q
   rw[if_pos rfl]at e
   cases e
   exact⟨D,by simp,hx,fun _=>⟨eV I.keep hD,fun o e=>(by rw[I.frz _ _ e]at hD;cases hD),nF⟩⟩
  ·rw[if_neg q]at e
   refine cJ (J.own i y e) fun a h1 h2 h3=>?_
   exact⟨a,bN.more _ _ h1,h2.mono (fun _ _ x=>x) .more (fun _ x=>x),h3⟩
 ·exact List.nodup_append.mpr ⟨I.dup,List.nodup_cons.mpr ⟨by simp,List.nodup_nil⟩,fun a ha b hb e=>by
   rw[List.mem_singleton.mp hb]at e
   exact nR (e▸ha)⟩
 ·intro a ha
  rcases List.mem_append.mp ha with q|q
  ·exact J.there a q
  ·rw[List.mem_singleton.mp q];exact⟨_,he⟩
 ·intro a ha
  rcases List.mem_append.mp ha with q|q
  ·exact J.rf a q
  ·rw[List.mem_singleton.mp q];exact nF
theorem fQ{h:Heap}:h.get? h.objs.size=none:=by
 cases q:h.get? h.objs.size with
 |none=>rfl
 |some o=>exact absurd (Heap.lt_size q) (Nat.lt_irrefl _)
theorem aM.alloc2(I:aM P base H ρ frs ob h){ob':Tr}{o:Obj}{x:O}(k:∀b x,h.get? b=some x→h'.get? b=some x)(he:h'.get? h.objs.size=some o)(hob:∀i,ob'.get i=if i=ρ.length then some x else ob.get i)
  (hx:cX P H (ρ++[h.objs.size]) h' h.objs.size x):aM P base H (ρ++[h.objs.size]) frs ob' h':=I.allocAt fQ k he hob hx
theorem aM.alloc(I:aM P base H ρ frs ob h){ob':Tr}{o:Obj}{x:O}(hob:∀i,ob'.get i=if i=ρ.length then some x else ob.get i)
  (hx:cX P H (ρ++[h.objs.size]) (h.push o) h.objs.size x) (hf:o.isFreed=false:=by rfl):aM P base H (ρ++[h.objs.size]) frs ob' (h.push o):=
 I.alloc2 (fun _ _ e=>Heap.get?_push_of_some _ e) (Heap.get?_push_size _ hf) hob hx
theorem aM.apart(I:aM P base H ρ frs ob h){i:Nat}{a:Addr}{x:O}(hi:ob.get i=some x)(hl:x.live=true)(ha:ρ[i]?=some a):IF base H frs a:=by
 refine cJ (I.own i x hi) fun a' h1 _ h3=>?_
 obtain rfl:a'=a:=Option.some.inj (h1.symm.trans ha)
 exact h3 hl
theorem aM.at(I:aM P base H ρ frs ob h){i:Nat}{a:Addr}{x:O}(hi:ob.get i=some x)(ha:ρ[i]?=some a):cX P H ρ h a x:=by
 refine cJ (I.own i x hi) fun a' h1 h2 _=>?_
 obtain rfl:a'=a:=Option.some.inj (h1.symm.trans ha)
 exact h2
theorem aM.turn {L:Addr} {m:Fp} (I:aM P base H ρ ((L,m)::frs) ob h) {i:Nat} {a:Addr} {x y:O} {ob':Tr} (hi:ob.get i=some x) (hl:x.live=true) (ha:ρ[i]?=some a)
    (hs:∀b o,b≠a→b≠L→h.get? b=some o→h'.get? b=some o) (hn:∃o,h'.get? L=some o∧m.φ H o)
    (hob:∀j,ob'.get j=if j=i then some y else ob.get j) (hy:cX P H ρ h' a y) (ht:∃o,h'.get? a=some o):aM P base H ρ ((L,m)::frs) ob' h':=by
  have A:=I.apart hi hl ha
  have nL:=I.frNew _ (.head _)
  have d:=I.frDup
  rw[List.map_cons,List.nodup_cons]at d
  refine⟨fun b o e=>hs b o (fun q=>by rw[q,A.nb]at e;cases e) (fun q=>by rw[q,nL.1]at e;cases e) (I.keep b o e),fun b o e=>hs b o (fun q=>A.nH o (q▸e)) (fun q=>nL.2 o (q▸e)) (I.frz b o e),fun p hp=>?_,I.frNew,I.frDup,fun j o e=>?_,I.dup,fun b hb=>?_,I.rf⟩
  · rcases List.mem_cons.mp hp with rfl|hp'
    · exact hn
    · refine aq (I.frNs p hp) fun o ho r=>?_
      exact⟨o,hs _ _ (fun q=>A.nf (List.mem_map.mpr ⟨p,hp,q⟩)) (fun q=>d.1 (List.mem_map.mpr ⟨p,hp',q⟩)) ho,r⟩
  · rw [hob]at e
    by_cases q:j=i
    · subst q
      rw[if_pos rfl]at e
      cases e
      exact⟨a,ha,hy,fun _=>A⟩
    · rw[if_neg q]at e
      refine cJ (I.own j o e) fun b g1 g2 g3=>?_
      refine⟨b,g1,?_,g3⟩
      by_cases l:o.live=true
      · refine g2.mono (fun _ _ x=>x) .refl (fun o e=>hs b o (fun z=>q ?_) (fun z=>(g3 l).nf (by rw[z];exact .head _)) e)
        subst z
        refine bz (List.getElem?_eq_some_iff.mp g1) fun hj ej=>?_
        refine bz (List.getElem?_eq_some_iff.mp ha) fun hi' ei=>?_
        exact(List.getElem_inj I.dup).mp (ej.trans ei.symm)
      · cases g2 with
        |frz z=>exact .frz z
        |_=>exact absurd rfl l
  · by_cases q:b=a
    · rw[q];exact ht
    · by_cases q':b=L
      · refine aq hn fun o ho _=>?_
        exact⟨o,q'▸ho⟩
      · refine bz (I.there b hb) fun o e=>?_
        exact⟨o,hs b o q q' e⟩
theorem aM.store{L:Addr}{m:Fp}(I:aM P base H ρ ((L,m)::frs) ob h){m':Fp}(hs:Heap.SameBut L h h')(hn:∃o,h'.get? L=some o∧m'.φ H o):aM P base H ρ ((L,m')::frs) ob h':=by
 refine a7 (I.frNew _ (.head _)) fun n1 n2=>?_
 have d:=I.frDup
 rw[List.map_cons,List.nodup_cons]at d
 refine⟨fun b o e=>(hs.2 b (fun q=>by rw[q,n1]at e;cases e)).trans (I.keep b o e),fun b o e=>(hs.2 b (fun q=>n2 o (q▸e))).trans (I.frz b o e),fun p hp=>?_,fun p hp=>?_,I.frDup,fun i o e=>?_,I.dup,fun b hb=>?_,fun a ha z=>I.rf a ha z⟩
 ·rcases List.mem_cons.mp hp with rfl|hp
  ·exact hn
  ·refine aq (I.frNs p (.tail _ hp)) fun o e f=>?_
   exact⟨o,(hs.2 _ (fun q=>d.1 (List.mem_map.mpr ⟨p,hp,q⟩))).trans e,f⟩
 ·rcases List.mem_cons.mp hp with rfl|hp
  ·exact⟨n1,n2⟩
  ·exact I.frNew p (.tail _ hp)
 ·refine cJ (I.own i o e) fun a h1 h2 h3=>?_
  refine⟨a,h1,?_,fun l=>⟨(h3 l).nb,(h3 l).nH,(h3 l).nf⟩⟩
  by_cases l:o.live=true
  ·exact h2.mono (fun _ _ x=>x) .refl (fun o e=>(hs.2 a (fun z=>(h3 l).nf (by rw[z];exact .head _))).trans e)
  ·cases h2 with
   |frz z=>exact .frz z
   |_=>exact absurd rfl l
 ·by_cases q:b=L
  ·refine aq hn fun o ho _=>?_
   exact⟨o,q▸ho⟩
  ·refine bz (I.there b hb) fun o e=>?_
   exact⟨o,(hs.2 b q).trans e⟩
theorem aM.enter(I:aM P base H ρ frs ob h){m:Fp}(hn:∃o,h'.get? h.objs.size=some o∧m.φ H o)(k:∀b o,h.get? b=some o→h'.get? b=some o):aM P base H ρ ((h.objs.size,m)::frs) ob h':=by
 have J:=I.keeps k
 refine⟨J.keep,J.frz,fun p hp=>?_,fun p hp=>?_,?_,fun i o e=>?_,J.dup,J.there,fun a ha z=>?_⟩
 ·rcases List.mem_cons.mp hp with rfl|hp
  ·exact hn
  ·exact J.frNs p hp
 ·rcases List.mem_cons.mp hp with rfl|hp
  ·exact⟨I.topNew,I.topH⟩
  ·exact J.frNew p hp
 ·rw[List.map_cons,List.nodup_cons]
  exact⟨I.topF,J.frDup⟩
 ·refine cJ (J.own i o e) fun a h1 h2 h3=>?_
  refine⟨a,h1,h2,fun l=>⟨(h3 l).nb,(h3 l).nH,fun z=>?_⟩⟩
  rw[List.map_cons]at z
  rcases List.mem_cons.mp z with e|z
  ·exact I.topR (by have e:a=h.objs.size:=e;rw[←e];exact List.mem_of_getElem? h1)
  ·exact(h3 l).nf z
 ·rw[List.map_cons]at z
  rcases List.mem_cons.mp z with e|z
  ·exact I.topR (by have e:a=h.objs.size:=e;rw[←e];exact ha)
  ·exact I.rf a ha z
theorem aM.enter2{f:Addr×Fp}(I:aM P base H ρ (f::frs) ob h){m:Fp}(hn:∃o,h'.get? h.objs.size=some o∧m.φ H o)(k:∀b o,h.get? b=some o→h'.get? b=some o):aM P base H ρ (f::(h.objs.size,m)::frs) ob h':=by
 have J:=I.enter hn k
 have sw:∀p,p∈f::(h.objs.size,m)::frs→p∈(h.objs.size,m)::f::frs:=fun p hp=>by
  rcases List.mem_cons.mp hp with rfl|hp
  ·exact .tail _ (.head _)
  ·rcases List.mem_cons.mp hp with rfl|hp
   ·exact .head _
   ·exact .tail _ (.tail _ hp)
 have d:=J.frDup
 simp only [List.map_cons,List.nodup_cons,List.mem_cons,not_or]at d
 refine⟨J.keep,J.frz,fun p hp=>J.frNs p (sw p hp),fun p hp=>J.frNew p (sw p hp),?_,fun i o e=>?_,J.dup,J.there,fun a ha z=>J.rf a ha (by
  simp only [List.map_cons,List.mem_cons]at z ⊢
  rcases z with z|z|z
  ·exact .inr (.inl z)
  ·exact .inl z
  ·exact .inr (.inr z))⟩
 ·simp only [List.map_cons,List.nodup_cons,List.mem_cons,not_or]
  exact⟨⟨fun q=>d.1.1 q.symm,d.2.1⟩,d.1.2,d.2.2⟩
 ·refine cJ (J.own i o e) fun a h1 h2 h3=>?_
  refine⟨a,h1,h2,fun l=>⟨(h3 l).nb,(h3 l).nH,fun z=>(h3 l).nf ?_⟩⟩
  simp only [List.map_cons,List.mem_cons]at z ⊢
  rcases z with z|z|z
  ·exact .inr (.inl z)
  ·exact .inl z
  ·exact .inr (.inr z)
theorem aM.leave2{f p:Addr×Fp}(I:aM P base H ρ (f::p::frs) ob h):aM P base H ρ (f::frs) ob h:=by
 have sw:∀q,q∈f::frs→q∈f::p::frs:=fun q hq=>by
  rcases List.mem_cons.mp hq with rfl|hq
  ·exact .head _
  ·exact .tail _ (.tail _ hq)
 have d:=I.frDup
 simp only [List.map_cons,List.nodup_cons,List.mem_cons,not_or]at d
 refine⟨I.keep,I.frz,fun q hq=>I.frNs q (sw q hq),fun q hq=>I.frNew q (sw q hq),?_,fun i o e=>?_,I.dup,I.there,fun a ha z=>I.rf a ha (by
  simp only [List.map_cons,List.mem_cons]at z ⊢
  rcases z with z|z
  ·exact .inl z
  ·exact .inr (.inr z))⟩
 ·simp only [List.map_cons,List.nodup_cons]
  exact⟨d.1.2,d.2.2⟩
 ·refine cJ (I.own i o e) fun a h1 h2 h3=>?_
  refine⟨a,h1,h2,fun l=>⟨(h3 l).nb,(h3 l).nH,fun z=>(h3 l).nf ?_⟩⟩
  simp only [List.map_cons,List.mem_cons]at z ⊢
  rcases z with z|z
  ·exact .inl z
  ·exact .inr (.inr z)
theorem aM.iter {f:Addr×Fp} {J:Addr} {φ φ':Fp} (I:aM P base H ρ (f::(J,φ)::frs) ob h) (k:∀b o,b≠J→h.get? b=some o→h'.get? b=some o) (hJ:∃o,h'.get? J=some o∧φ'.φ H o):aM P base H ρ (f::(J,φ')::frs) ob h':=by
  have nJ:=I.frNew (J,φ) (.tail _ (.head _))
  have d:=I.frDup
  simp only [List.map_cons,List.nodup_cons,List.mem_cons,not_or]at d
  have rJ:∀a∈ρ,a≠J:=fun a ha e=>I.rf a ha (by rw[e];exact .tail _ (.head _))
  refine⟨fun b o e=>k b o (fun q=>by rw[q,nJ.1]at e;cases e) (I.keep b o e),fun b o e=>k b o (fun q=>nJ.2 o (q▸e)) (I.frz b o e),fun p hp=>?_,fun p hp=>?_,?_,fun i o e=>?_,I.dup,fun a ha=>?_,I.rf⟩
  · rcases List.mem_cons.mp hp with rfl|hp
    · refine aq (I.frNs _ (.head _)) fun o e z=>?_
      exact⟨o,k _ _ d.1.1 e,z⟩
    · rcases List.mem_cons.mp hp with rfl|hp
      · exact hJ
      · refine aq (I.frNs p (.tail _ (.tail _ hp))) fun o e z=>?_
        exact⟨o,k _ _ (fun q=>d.2.1 (List.mem_map.mpr ⟨p,hp,q⟩)) e,z⟩
  · rcases List.mem_cons.mp hp with rfl|hp
    · exact I.frNew _ (.head _)
    · rcases List.mem_cons.mp hp with rfl|hp
      · exact nJ
      · exact I.frNew p (.tail _ (.tail _ hp))
  · simp only [List.map_cons,List.nodup_cons,List.mem_cons,not_or]
    exact d
  · refine cJ (I.own i o e) fun a h1 h2 h3=>?_
    exact⟨a,h1,h2.mono (fun _ _ x=>x) .refl (fun o e=>k a o (rJ a (List.mem_of_getElem? h1)) e),fun l=>⟨(h3 l).nb,(h3 l).nH,(h3 l).nf⟩⟩
  · refine bz (I.there a ha) fun o e=>?_
    exact⟨o,k a o (rJ a ha) e⟩
theorem aM.past{f:Addr×Fp}{J:Addr}{φ:Fp}(I:aM P base H ρ (f::(J,φ)::frs) ob h)(k:∀b o,b≠J→h.get? b=some o→h'.get? b=some o):aM P base H ρ (f::frs) ob h':=by
 have nJ:=I.frNew (J,φ) (.tail _ (.head _))
 have d:=I.frDup
 simp only [List.map_cons,List.nodup_cons,List.mem_cons,not_or]at d
 have rJ:∀a∈ρ,a≠J:=fun a ha e=>I.rf a ha (by rw[e];exact .tail _ (.head _))
 have I₂:=I.leave2
 refine⟨fun b o e=>k b o (fun q=>by rw[q,nJ.1]at e;cases e) (I.keep b o e),fun b o e=>k b o (fun q=>nJ.2 o (q▸e)) (I.frz b o e),fun p hp=>?_,I₂.frNew,I₂.frDup,fun i o e=>?_,I.dup,fun a ha=>?_,I₂.rf⟩
 ·refine aq (I₂.frNs p hp) fun o e z=>?_
  refine⟨o,k _ _ ?_ e,z⟩
  rcases List.mem_cons.mp hp with rfl|hp
  ·exact d.1.1
  ·exact fun q=>d.2.1 (List.mem_map.mpr ⟨p,hp,q⟩)
 ·refine cJ (I₂.own i o e) fun a h1 h2 h3=>?_
  exact⟨a,h1,h2.mono (fun _ _ x=>x) .refl (fun o e=>k a o (rJ a (List.mem_of_getElem? h1)) e),fun l=>⟨(h3 l).nb,(h3 l).nH,(h3 l).nf⟩⟩
 ·refine bz (I.there a ha) fun o e=>?_
  exact⟨o,k a o (rJ a ha) e⟩
theorem aM.leave{p:Addr×Fp}(I:aM P base H ρ (p::frs) ob h):aM P base H ρ frs ob h:=by
 have d:=I.frDup
 rw[List.map_cons,List.nodup_cons]at d
 exact⟨I.keep,I.frz,fun q hq=>I.frNs q (.tail _ hq),fun q hq=>I.frNew q (.tail _ hq),d.2,fun i o e=>let ⟨a,h1,h2,h3⟩:=I.own i o e;⟨a,h1,h2,fun l=>⟨(h3 l).nb,(h3 l).nH,fun z=>(h3 l).nf (.tail _ z)⟩⟩,I.dup,I.there,fun a ha z=>I.rf a ha (.tail _ z)⟩
end
end
section
section
variable {α β:Type}{G:Prop}{o:Option α}{b:Bool}{P Q:Prop}
theorem aB{K:α→Prop}(h:oP o K)(k:∀x,o=some x→K x→G):G:=by cases o;exact h.elim;exact k _ rfl h
theorem du{K:α→Prop}(h:oE o K P)(k:∀x,o=some x→K x→G)(l:o=none→P→G):G:=by cases o;exact l rfl h;exact k _ rfl h
theorem a8(h:bP b P)(k:b=true→P→G):G:=by cases b;exact h.elim;exact k rfl h
theorem nM(h:iE b P Q)(k:b=true→P→G)(l:b=false→Q→G):G:=by cases b;exact l rfl h;exact k rfl h
theorem cP{f:α→β}{g y:β}(h:oX o f g=y)(k:∀x,o=some x→f x=y→G)(l:o=none→g=y→G):G:=by cases o;exact l rfl h;exact k _ rfl h
theorem au{f:α→Option β}{y:β}(h:oO o f=some y)(k:∀x,o=some x→f x=some y→G):G:=by cases o;cases h;exact k _ rfl h
theorem jI{f:α→Bool}(h:oB o f=true)(k:∀x,o=some x→f x=true→G):G:=by cases o;cases h;exact k _ rfl h
theorem gK{x y z:β}(h:bX b x y=z)(k:b=true→x=z→G)(l:b=false→y=z→G):G:=by cases b;exact l rfl h;exact k rfl h
theorem bQ{x:Option β}{y:β}(h:bO b x=some y)(k:b=true→x=some y→G):G:=by cases b;cases h;exact k rfl h
theorem gy{x:Bool}(h:bX b x false=true)(k:b=true→x=true→G):G:=by cases b;cases h;exact k rfl h
theorem i9{f:α→bw β}{σ:St}{K:β→St→Prop}(h:(oA o f).run σ K)(k:∀x,o=some x→(f x).run σ K→G):G:=by cases o;exact h.elim;exact k _ rfl h
theorem g9{a:bw β}{σ:St}{K:β→St→Prop}(h:(bA b a).run σ K)(k:b=true→a.run σ K→G):G:=by cases b;exact h.elim;exact k rfl h
theorem Ig{f:α→bw β}{a:bw β}{σ:St}{K:β→St→Prop}(h:(oX o f a).run σ K)(k:∀x,o=some x→(f x).run σ K→G)(l:o=none→a.run σ K→G):G:=by cases o;exact l rfl h;exact k _ rfl h
theorem Nr{a c:bw β}{σ:St}{K:β→St→Prop}(h:(bX b a c).run σ K)(k:b=true→a.run σ K→G)(l:b=false→c.run σ K→G):G:=by cases b;exact l rfl h;exact k rfl h
theorem cps{P:Prop}(h:∀G:Prop,(P→G)→G):P:=h P id
theorem mV{P:Prop}(h:bX b P True)(e:b=true):P:=by cases e;exact h
theorem Q1{P:Prop}(h:bX b True P)(e:b=false):P:=by cases e;exact h
theorem bU{l:List α}(h:iJ l=true):l=[]:=by cases l;rfl;cases h
theorem ja(h:k9 o=true):o=none:=by cases o;rfl;cases h
theorem pY(h:dJ o=true)(k:∀x,o=some x→G):G:=by cases o;cases h;exact k _ rfl
theorem ae{x y:α}(h:some x=some y):x=y:=Option.some.inj h
end
section
variable {v:V}
theorem NC(v:V):oX (vB v) (fun p=>v=.bool p.1 p.2) True:=by cases v <;> first|rfl|trivial
theorem LK(v:V):oX (vI v) (fun p=>v=.int p.1 p.2) True:=by cases v <;> first|rfl|trivial
theorem Oj(v:V):oX (vS v) (fun p=>v=.str p.1 p.2) True:=by cases v <;> first|rfl|trivial
theorem Mn(v:V):oX (vY v) (fun p=>v=.bytes p.1 p.2) True:=by cases v <;> first|rfl|trivial
theorem NX(v:V):oX (vW v) (fun p=>v=.irow p.1 p.2) True:=by cases v <;> first|rfl|trivial
theorem Mf(v:V):oX (vT v) (fun p=>v=.tup p) True:=by cases v <;> first|rfl|trivial
theorem Nn(v:V):oX (vL v) (fun p=>v=.list p) True:=by cases v <;> first|rfl|trivial
theorem NH(v:V):oX (vD v) (fun p=>v=.dict p) True:=by cases v <;> first|rfl|trivial
theorem LD(v:V):oX (vN v) (fun p=>v=.inst p.1 p.2) True:=by cases v <;> first|rfl|trivial
theorem OM(v:V):oX (vR v) (fun p=>v=.ref p) True:=by cases v <;> first|rfl|trivial
theorem Oy(v:V):oX (vG v) (fun p=>v=.glob p) True:=by cases v <;> first|rfl|trivial
theorem NO(v:V):oX (vM v) (fun p=>v=.named p) True:=by cases v <;> first|rfl|trivial
theorem MX(v:V):oX (vQ v) (fun p=>v=.rng p.1 p.2) True:=by cases v <;> first|rfl|trivial
theorem K9(v:V):oX (OY v) (fun p=>v=.typ p) True:=by cases v <;> first|rfl|trivial
theorem fh{α:Type}{o:Option α}{x:α}{v:V}{f:α→V}(h:oX o (fun p=>v=f p) True)(e:o=some x):v=f x:=by cases e;exact h
theorem LG{p}(e:vB v=some p):v=.bool p.1 p.2:=fh (f:=fun p=>.bool p.1 p.2) (NC v) e
theorem vJ{p}(e:vI v=some p):v=.int p.1 p.2:=fh (f:=fun p=>.int p.1 p.2) (LK v) e
theorem CY{p}(e:vS v=some p):v=.str p.1 p.2:=fh (f:=fun p=>.str p.1 p.2) (Oj v) e
theorem Ol{p}(e:vY v=some p):v=.bytes p.1 p.2:=fh (f:=fun p=>.bytes p.1 p.2) (Mn v) e
theorem N5{p}(e:vW v=some p):v=.irow p.1 p.2:=fh (f:=fun p=>.irow p.1 p.2) (NX v) e
theorem Ji{p}(e:vT v=some p):v=.tup p:=fh (Mf v) e
theorem RF{p}(e:vL v=some p):v=.list p:=fh (Nn v) e
theorem RC{p}(e:vD v=some p):v=.dict p:=fh (NH v) e
theorem MQ{p}(e:vN v=some p):v=.inst p.1 p.2:=fh (f:=fun p=>.inst p.1 p.2) (LD v) e
theorem RJ{p}(e:vR v=some p):v=.ref p:=fh (OM v) e
theorem Np{p}(e:vG v=some p):v=.glob p:=fh (Oy v) e
theorem Mh{p}(e:vM v=some p):v=.named p:=fh (NO v) e
theorem Q8{p}(e:vQ v=some p):v=.rng p.1 p.2:=fh (f:=fun p=>.rng p.1 p.2) (MX v) e
theorem L8{p}(e:OY v=some p):v=.typ p:=fh (K9 v) e
theorem Hm(v:V):bX (yb v) (v=.none) True:=by cases v <;> first|rfl|trivial
theorem Kp(e:yb v=true):v=.none:=by have h:=Hm v;rw[e]at h;exact h
variable {o:Option O}
theorem lW{α:Type}{q:Option α}{x:α}{f:α→O}(h:oX q (fun p=>o=some (f p)) True)(e:q=some x):o=some (f x):=by cases e;exact h
theorem iI{p}(e:oL o=some p):o=some (.list p):=lW (f:=.list) (by cases o with|none=>trivial|some x=>cases x <;> first|rfl|trivial) e
theorem Jk{p}(e:oD o=some p):o=some (.dict p):=lW (f:=.dict) (by cases o with|none=>trivial|some x=>cases x <;> first|rfl|trivial) e
theorem Kv{p}(e:oI o=some p):o=some (.inst p.1 p.2):=lW (f:=fun p=>.inst p.1 p.2) (by cases o with|none=>trivial|some x=>cases x <;> first|rfl|trivial) e
theorem Ht{p}(e:oN o=some p):o=some (.ns p):=lW (f:=.ns) (by cases o with|none=>trivial|some x=>cases x <;> first|rfl|trivial) e
theorem Ag{p}(e:oF o=some p):o=some (.frz p):=lW (f:=.frz) (by cases o with|none=>trivial|some x=>cases x <;> first|rfl|trivial) e
variable {as:List V}
theorem DK{v}(e:wm as=some v):as=[v]:=by
  cases as with
  |nil=>cases e
  | cons a r=>cases r with
    |nil=>exact congrArg (fun a=>[a]) (ae e)
    |cons _ _=>cases e
theorem C1{p}(e:ET as=some p):as=[p.1,p.2]:=by
 cases as with
 |nil=>cases e
 |cons a r=>exact au e fun b eb f=>by rw[DK eb,←ae f]
theorem xI{p}(e:Ll as=some p):as=[p.1,p.2.1,p.2.2]:=by
 cases as with
 |nil=>cases e
 |cons a r=>exact au e fun b eb f=>by rw[C1 eb,←ae f]
theorem N9{p}(e:Si as=some p):as=[p.1,p.2.1,p.2.2.1,p.2.2.2]:=by
 cases as with
 |nil=>cases e
 |cons a r=>exact au e fun b eb f=>by rw[xI eb,←ae f]
theorem fU{x:Int}{n:Nat}(e:nS x=some n):x=Int.ofNat n:=by
 cases x with
 |ofNat _=>exact congrArg Int.ofNat (ae e)
 |negSucc _=>cases e
theorem uF{G:Prop}{p:Bool×Int}{n:Nat}(h:Hq p=some n)(k:p.1=true→p.2=Int.ofNat n→G):G:=bQ h fun a e=>k a (fU e)
theorem Rk{G:Prop}{x:Str}(h:kS v=some x)(k:v=.str true x→G):G:=au h fun p e f=>bQ f fun a q=>k (by rw[CY e,a,ae q])
theorem bS{b:Bool}(h:bW b=true):b=false:=by cases b;rfl;cases h
theorem d3{a b:Bool}(h:ay a b=true):a=true∧b=true:=by
 cases a with
 |true=>exact⟨rfl,h⟩
 |false=>cases h
theorem ar{G:Prop}{a b:Bool}(h:ay a b=true)(k:a=true→b=true→G):G:=k (d3 h).1 (d3 h).2
end
end
section
noncomputable def RY(P:Pm)(H:HP)(ρ:List Addr)(v:V)(r:Value):Prop:=match v with
 |.none=>r=.none
 |.bool _ b=>r=.bool b
 |.int _ x=>∃t,r=.int x t
 |.str _ x=>∃t,PyData.strOk x=true∧r=.str x t
 |.bytes _ xs=>∃a t,r=.bytes a t∧xs=aw a
 |.irow _ xs=>∃rs a n,H a (aA rs n)∧IntsAre rs xs∧r=.ref a
 |.tup vs=>∃rs a,H a (eO rs)∧ai P H ρ vs rs∧r=.ref a
 |.inst C fs=>∃a d es n,H a (instObj C d)∧H d (dictOf es n)∧bt P H ρ fs es∧r=.ref a
 |.list vs=>∃rs a n,H a (aA rs n)∧ai P H ρ vs rs∧r=.ref a
 |.dict kvs=>∃a es n,H a (dictOf es n)∧(a==sysModules)=false∧ba kvs∧bF P H ρ kvs es∧r=.ref a
 |.ref i=>∃a,ρ[i]?=some a∧r=.ref a
 |.glob a=>r=.ref a
 |.blt s=>r=.builtin s.name
 |.typ s=>r=.type s.name
 |.named k=>ag P H ρ (P.T k) r
 |.rng _ n=>∃a t u v,H a (i0 n t u v)∧r=.ref a
section
variable {G:Prop}{P:Pm}{H:HP}{ρ:List Addr}{r:Value}{k:Bool}
theorem ag.inv{v:V}(h:ag P H ρ v r):RY P H ρ v r:=by
 cases h with
 |none=>rfl
 |bool=>rfl
 |int=>exact⟨_,rfl⟩
 |str a=>exact⟨_,a,rfl⟩
 |bytes=>exact⟨_,_,rfl,rfl⟩
 |irow a b=>exact⟨_,_,_,a,b,rfl⟩
 |tup a b=>exact⟨_,_,a,b,rfl⟩
 |inst a b c=>exact⟨_,_,_,_,a,b,c,rfl⟩
 |list a b=>exact⟨_,_,_,a,b,rfl⟩
 |dict a b c d=>exact⟨_,_,_,a,b,c,d,rfl⟩
 |ref a=>exact⟨_,a,rfl⟩
 |glob=>rfl
 |blt=>rfl
 |typ=>rfl
 |named a=>exact a
 |rng a=>exact⟨_,_,_,_,a,rfl⟩
theorem ag.none'(h:ag P H ρ .none r)(g:r=.none→G):G:=g h.inv
theorem ag.bool'{b}(h:ag P H ρ (.bool k b) r)(g:r=.bool b→G):G:=g h.inv
theorem ag.int'{x}(h:ag P H ρ (.int k x) r)(g:∀t,r=.int x t→G):G:=h.inv.elim g
theorem ag.str'{x}(h:ag P H ρ (.str k x) r)(g:∀t,PyData.strOk x=true→r=.str x t→G):G:=by obtain⟨t,a,e⟩:=h.inv;exact g t a e
theorem ag.bytes'{xs}(h:ag P H ρ (.bytes k xs) r)(g:∀a t,r=.bytes a t→xs=aw a→G):G:=by obtain⟨a,t,e,f⟩:=h.inv;exact g a t e f
theorem ag.irow'{xs}(h:ag P H ρ (.irow k xs) r)(g:∀rs a n,H a (aA rs n)→IntsAre rs xs→r=.ref a→G):G:=by obtain⟨a,b,c,d,e,f⟩:=h.inv;exact g a b c d e f
theorem ag.tup'{vs}(h:ag P H ρ (.tup vs) r)(g:∀rs a,H a (eO rs)→ai P H ρ vs rs→r=.ref a→G):G:=by obtain⟨a,b,c,d,e⟩:=h.inv;exact g a b c d e
theorem ag.inst'{C fs}(h:ag P H ρ (.inst C fs) r)(g:∀a d es n,H a (instObj C d)→H d (dictOf es n)→bt P H ρ fs es→r=.ref a→G):G:=by obtain⟨a,b,c,d,e,f,x,y⟩:=h.inv;exact g a b c d e f x y
theorem ag.list'{vs}(h:ag P H ρ (.list vs) r)(g:∀rs a n,H a (aA rs n)→ai P H ρ vs rs→r=.ref a→G):G:=by obtain⟨a,b,c,d,e,f⟩:=h.inv;exact g a b c d e f
theorem ag.dict'{kvs}(h:ag P H ρ (.dict kvs) r)(g:∀a es n,H a (dictOf es n)→(a==sysModules)=false→ba kvs→bF P H ρ kvs es→r=.ref a→G):G:=by obtain⟨a,b,c,d,e,f,x,y⟩:=h.inv;exact g a b c d e f x y
theorem ag.ref'{i}(h:ag P H ρ (.ref i) r)(g:∀a,ρ[i]?=some a→r=.ref a→G):G:=by obtain⟨a,b,c⟩:=h.inv;exact g a b c
theorem ag.glob'{a}(h:ag P H ρ (.glob a) r)(g:r=.ref a→G):G:=g h.inv
theorem ag.blt'{s}(h:ag P H ρ (.blt s) r)(g:r=.builtin s.name→G):G:=g h.inv
theorem ag.typ'{s}(h:ag P H ρ (.typ s) r)(g:r=.type s.name→G):G:=g h.inv
theorem ag.named'{i}(h:ag P H ρ (.named i) r)(g:ag P H ρ (P.T i) r→G):G:=g h.inv
theorem ag.rng'{n}(h:ag P H ρ (.rng k n) r)(g:∀a t u v,H a (i0 n t u v)→r=.ref a→G):G:=by obtain⟨a,b,c,d,e,f⟩:=h.inv;exact g a b c d e f
section
variable {v:V}(h:ag P H ρ v r)
include h
theorem ag.cB{p}(e:vB v=some p)(g:r=.bool p.2→G):G:=(LG e▸h).bool' g
theorem ag.cI{p}(e:vI v=some p)(g:∀t,r=.int p.2 t→G):G:=(vJ e▸h).int' g
theorem ag.cS{p}(e:vS v=some p)(g:∀t,PyData.strOk p.2=true→r=.str p.2 t→G):G:=(CY e▸h).str' g
theorem ag.cY{p}(e:vY v=some p)(g:∀a t,r=.bytes a t→p.2=aw a→G):G:=(Ol e▸h).bytes' g
theorem ag.cW{p}(e:vW v=some p)(g:∀rs a n,H a (aA rs n)→IntsAre rs p.2→r=.ref a→G):G:=(N5 e▸h).irow' g
theorem ag.cT{p}(e:vT v=some p)(g:∀rs a,H a (eO rs)→ai P H ρ p rs→r=.ref a→G):G:=(Ji e▸h).tup' g
theorem ag.cN{p}(e:vN v=some p)(g:∀a d es n,H a (instObj p.1 d)→H d (dictOf es n)→bt P H ρ p.2 es→r=.ref a→G):G:=(MQ e▸h).inst' g
theorem ag.cL{p}(e:vL v=some p)(g:∀rs a n,H a (aA rs n)→ai P H ρ p rs→r=.ref a→G):G:=(RF e▸h).list' g
theorem ag.cD{p}(e:vD v=some p)(g:∀a es n,H a (dictOf es n)→(a==sysModules)=false→ba p→bF P H ρ p es→r=.ref a→G):G:=(RC e▸h).dict' g
theorem ag.cR{p}(e:vR v=some p)(g:∀a,ρ[p]?=some a→r=.ref a→G):G:=(RJ e▸h).ref' g
theorem ag.cG{p}(e:vG v=some p)(g:r=.ref p→G):G:=(Np e▸h).glob' g
theorem ag.cM{p}(e:vM v=some p)(g:ag P H ρ (P.T p) r→G):G:=(Mh e▸h).named' g
theorem ag.cQ{p}(e:vQ v=some p)(g:∀a t u v,H a (i0 p.2 t u v)→r=.ref a→G):G:=(Q8 e▸h).rng' g
theorem ag.cTy{p}(e:OY v=some p)(g:r=.type p.name→G):G:=(L8 e▸h).typ' g
theorem ag.cNo(e:yb v=true)(g:r=.none→G):G:=(Kp e▸h).none' g
theorem ag.cK{x}(e:kS v=some x)(g:∀t,PyData.strOk x=true→r=.str x t→G):G:=Rk e fun e=>(e▸h).str' g
end
theorem ai.inv{vs rs}(h:ai P H ρ vs rs):match vs with
  |[]=>rs=[]
  |v::vs=>∃r l,ag P H ρ v r∧ai P H ρ vs l∧rs=r::l:=by cases h with|nil=>rfl|cons a b=>exact⟨_,_,a,b,rfl⟩
theorem ai.nil'{rs}(h:ai P H ρ [] rs)(g:rs=[]→G):G:=g h.inv
theorem ai.cons'{v vs rs}(h:ai P H ρ (v::vs) rs)(g:∀r l,ag P H ρ v r→ai P H ρ vs l→rs=r::l→G):G:=by obtain⟨r,l,a,b,e⟩:=h.inv;exact g r l a b e
theorem ai.c1{v as rs}(h:ai P H ρ as rs)(e:wm as=some v)(g:∀r,ag P H ρ v r→rs=[r]→G):G:=
 (DK e▸h).cons' fun r _ a b e=>b.nil' fun f=>g r a (f▸e)
theorem ai.c2{p as rs}(h:ai P H ρ as rs)(e:ET as=some p)(g:∀r s,ag P H ρ p.1 r→ag P H ρ p.2 s→rs=[r,s]→G):G:=
 (C1 e▸h).cons' fun r _ a b e=>b.c1 (v:=p.2) rfl fun s c f=>g r s a c (f▸e)
theorem ai.c3{p as rs}(h:ai P H ρ as rs)(e:Ll as=some p)(g:∀r s t,ag P H ρ p.1 r→ag P H ρ p.2.1 s→ag P H ρ p.2.2 t→rs=[r,s,t]→G):G:=
 (xI e▸h).cons' fun r _ a b e=>b.c2 (p:=p.2) rfl fun s t c d f=>g r s t a c d (f▸e)
theorem bt.inv{fs es}(h:bt P H ρ fs es):match fs with
  |[]=>es=[]
  |p::fs=>∃t r l,ag P H ρ p.2 r∧bt P H ρ fs l∧es=⟨PyData.keyHash P.p p.1,.str p.1 t,r⟩::l:=by cases h with|nil=>rfl|cons a b=>exact⟨_,_,_,a,b,rfl⟩
theorem bt.nil'{rs}(h:bt P H ρ [] rs)(g:rs=[]→G):G:=g h.inv
theorem bt.cons'{p fs es}(h:bt P H ρ (p::fs) es)(g:∀t r l,ag P H ρ p.2 r→bt P H ρ fs l→es=⟨PyData.keyHash P.p p.1,.str p.1 t,r⟩::l→G):G:=by obtain⟨a,b,c,d,e,f⟩:=h.inv;exact g a b c d e f
theorem bF.inv{fs es}(h:bF P H ρ fs es):match fs with
  |[]=>es=[]
  |p::fs=>∃hs kr r l,ag P H ρ p.1 kr∧dw P p.1 hs∧ag P H ρ p.2 r∧bF P H ρ fs l∧es=⟨hs,kr,r⟩::l:=by cases h with|nil=>rfl|cons a b c d=>exact⟨_,_,_,_,a,b,c,d,rfl⟩
theorem bF.nil'{rs}(h:bF P H ρ [] rs)(g:rs=[]→G):G:=g h.inv
theorem bF.cons'{p kvs es}(h:bF P H ρ (p::kvs) es)(g:∀hs kr r l,ag P H ρ p.1 kr→dw P p.1 hs→ag P H ρ p.2 r→bF P H ρ kvs l→es=⟨hs,kr,r⟩::l→G):G:=by obtain⟨a,b,c,d,e,f,x,y,z⟩:=h.inv;exact g a b c d e f x y z
noncomputable def QO(P:Pm)(H:HP)(ρ:List Addr)(h:Heap)(a:Addr)(o:O):Prop:=match o with
 |.list vs=>∃rs n,h.get? a=some (aA rs n)∧ai P H ρ vs rs
 |.dict kvs=>∃es n,h.get? a=some (dictOf es n)∧(a==sysModules)=false∧ba kvs∧bF P H ρ kvs es
 |.inst C d=>∃dx,h.get? a=some (instObj C dx)∧ρ[d]?=some dx
 |.ns fs=>∃es n,h.get? a=some (dictOf es n)∧bt P H ρ fs es
 |.frz v=>ag P H ρ v (.ref a)
variable {h:Heap}{a:Addr}
theorem cX.inv{o}(x:cX P H ρ h a o):QO P H ρ h a o:=by
 cases x with
 |list a b=>exact⟨_,_,a,b⟩
 |dict a b c d=>exact⟨_,_,a,b,c,d⟩
 |inst a b=>exact⟨_,a,b⟩
 |ns a b=>exact⟨_,_,a,b⟩
 |frz a=>exact a
theorem cX.list'{vs}(x:cX P H ρ h a (.list vs))(g:∀rs n,h.get? a=some (aA rs n)→ai P H ρ vs rs→G):G:=by obtain⟨a,b,c,d⟩:=x.inv;exact g a b c d
theorem cX.dict'{kvs}(x:cX P H ρ h a (.dict kvs))(g:∀es n,h.get? a=some (dictOf es n)→(a==sysModules)=false→ba kvs→bF P H ρ kvs es→G):G:=by obtain⟨a,b,c,d,e,f⟩:=x.inv;exact g a b c d e f
theorem cX.inst'{C d}(x:cX P H ρ h a (.inst C d))(g:∀dx,h.get? a=some (instObj C dx)→ρ[d]?=some dx→G):G:=by obtain⟨a,b,c⟩:=x.inv;exact g a b c
theorem cX.ns'{fs}(x:cX P H ρ h a (.ns fs))(g:∀es n,h.get? a=some (dictOf es n)→bt P H ρ fs es→G):G:=by obtain⟨a,b,c,d⟩:=x.inv;exact g a b c d
theorem cX.frz'{v}(x:cX P H ρ h a (.frz v))(g:ag P H ρ v (.ref a)→G):G:=g x.inv
theorem ai.ind{M:List V→List Value→Prop}(n:M [] [])(c:∀v r vs rs,ag P H ρ v r→ai P H ρ vs rs→M vs rs→M (v::vs) (r::rs)){vs}:∀{rs},ai P H ρ vs rs→M vs rs:=by
 induction vs with
 |nil=>exact fun h=>h.nil' fun e=>e▸n
 |cons v vs ih=>exact fun h=>h.cons' fun r l a b e=>e▸c v r vs l a b (ih b)
theorem bt.ind{M:List (Str×V)→List DictEntry→Prop}(n:M [] [])(c:∀p t r fs es,ag P H ρ p.2 r→bt P H ρ fs es→M fs es→M (p::fs) (⟨PyData.keyHash P.p p.1,.str p.1 t,r⟩::es)){fs}:∀{es},bt P H ρ fs es→M fs es:=by
 induction fs with
 |nil=>exact fun h=>h.nil' fun e=>e▸n
 |cons v vs ih=>exact fun h=>h.cons' fun t r l a b e=>e▸c v t r vs l a b (ih b)
theorem bF.ind{M:List (V×V)→List DictEntry→Prop}(n:M [] [])(c:∀p hs kr r kvs es,ag P H ρ p.1 kr→dw P p.1 hs→ag P H ρ p.2 r→bF P H ρ kvs es→M kvs es→M (p::kvs) (⟨hs,kr,r⟩::es)){kvs}:∀{es},bF P H ρ kvs es→M kvs es:=by
 induction kvs with
 |nil=>exact fun h=>h.nil' fun e=>e▸n
 |cons v vs ih=>exact fun h=>h.cons' fun hs kr r l a b d q e=>e▸c v hs kr r vs l a b d q (ih q)
end
theorem _root_.PyProof.Rows.IntsAre.cons'{G:Prop}{x:Int}{l:List Int}{rs:List Value}(h:IntsAre rs (x::l))(g:∀t r,IntsAre r l→rs=.int x t::r→G):G:=by cases h with|cons _ _ a=>exact g _ _ a rfl
theorem kc{k b:Bool}{p:Prop}(h:eM k b p):b=true∧p:=by
  cases k with
  | true=>cases b with
    |true=>exact⟨rfl,h⟩
    |false=>exact h.elim
  |false=>exact h
theorem cg{G:Prop}{k b:Bool}{p:Prop}(h:eM k b p)(g:b=true→p→G):G:=g (kc h).1 (kc h).2
end
section
open PySem PySem.W PySem.Calls PyProof.Rows PySem.SeqAt
theorem C9(n:Nat):Nat.beq n n=true:=by induction n with|zero=>rfl|succ n ih=>exact ih
theorem oq:∀{x y:List Nat},fX x y=true→x=y:=by
  intro x
  induction x with
  |nil=>exact fun h=>(bU h).symm
  | cons a x ih=>
    intro y h
    cases y with
    |nil=>cases h
    |cons b y=>exact gy h fun e h=>by rw[Nat.eq_of_beq_eq_true e,ih h]
theorem tQ(x:List Nat):fX x x=true:=by
 induction x with
 |nil=>rfl
 |cons a x ih=>show bX (Nat.beq a a) (fX x x) false=true;rw[C9];exact ih
theorem bj{a b:Str}:aE a b=true↔a=b:=
 ⟨fun h=>by cases a;cases b;exact congrArg Str.mk (Array.toList_inj.mp (oq h)),fun e=>e▸tQ _⟩
theorem DW{a b:Str}(h:aE a b=false):a≠b:=fun e=>Bool.noConfusion ((bj.mpr e).symm.trans h)
theorem wi{a b:Str}(h:a≠b):aE a b=false:=by
 cases q:aE a b with
 |true=>exact absurd (bj.mp q) h
 |false=>rfl
theorem cA(a b:Str):aE a b=(a==b):=by
 cases h:aE a b with
 |true=>rw[bj.mp h,beq_self_eq_true]
 |false=>exact(beq_eq_false_iff_ne.mpr (DW h)).symm
theorem eH{α:Type}(x:Str)(l:List (Str×α)):lk x l=l.lookup x:=by
  induction l with
  |nil=>rfl
  | cons p r ih=>
    show bX (aE x p.1) (some p.2) (lk x r)=List.lookup x ((p.1,p.2)::r)
    rw[cA,ih,List.lookup_cons]
    cases x==p.1 <;> rfl
theorem D6{α:Type}(x y:Str)(v:α)(l:List (Str×α)):lk y (put x v l)=if y=x then some v else lk y l:=by
  have one (z:Str) (u:α) (r:List (Str×α)):lk y ((z,u)::r)=if y=z then some u else lk y r:=by
    show bX (aE y z) (some u) (lk y r)=_
    by_cases q:y=z
    · rw[bj.mpr q,if_pos q];rfl
    · rw[wi q,if_neg q];rfl
  induction l with
  |nil=>exact one x v []
  | cons p r ih=>
    obtain⟨z,u⟩:=p
    show lk y (bX (aE x z) ((z,v)::r) ((z,u)::put x v r))=_
    by_cases h:x=z
    · subst h
      rw[bj.mpr rfl]
      show lk y ((x,v)::r)=_
      rw[one,one]
      by_cases q:y=x
      · rw[if_pos q,if_pos q]
      · rw[if_neg q,if_neg q,if_neg q]
    · rw[wi h]
      show lk y ((z,u)::put x v r)=_
      rw[one,one,ih]
      by_cases q:y=x
      · rw[if_pos q,if_pos q,if_neg (q▸h)]
      · rw[if_neg q,if_neg q]
theorem pb{k b:Bool}{p q:Prop}(h:aZ k b p q):if b=true then p else q:=by
  cases k with
  |true=>cases b <;> exact h
  | false=>cases b with
    |true=>exact h.1 rfl
    |false=>exact h.2 rfl
theorem ju{n:Nat}(h:small n=true):n < 2 ^ 64:=Nat.le_of_ble_eq_true h
theorem dB{n:Nat}(h:few n=true):n≤sizeLine:=Nat.le_trans (Nat.le_of_ble_eq_true h) (by rw[sizeLine_eq];decide)
theorem wk(b:Bool):bW b=!b:=by cases b <;> rfl
theorem lR{n:Nat}(h:n < 2 ^ 64):Builtin.Int.intBits (Int.ofNat n)≤shortFactorBits:=by
 show(if(Int.ofNat n)==0 then 0 else n.log2+1)≤64
 by_cases q:((Int.ofNat n)==0)=true
 ·rw[if_pos q];exact Nat.zero_le _
 ·rw[if_neg q]
  have h0:n≠0:=fun e=>by subst e;exact q rfl
  exact(Nat.log2_lt h0).mpr h
theorem Fi{x:Int}{n:Nat}(h:n < 2 ^ 64):IntMulOk x (Int.ofNat n):=by
 unfold IntMulOk
 have:¬Builtin.Int.intBits (Int.ofNat n) > shortFactorBits:=Nat.not_lt.mpr (lR h)
 rw[decide_eq_false this];simp
theorem FP{x:Int}{n:Nat}(h:n < 2 ^ 64):IntMulOk (Int.ofNat n) x:=by
 unfold IntMulOk
 have:¬Builtin.Int.intBits (Int.ofNat n) > shortFactorBits:=Nat.not_lt.mpr (lR h)
 rw[decide_eq_false this];simp
theorem yd{x:Int}{n:Nat}(h:n < 2 ^ 64):Builtin.divisionGoesByPylong x (Int.ofNat n)=false:=by
 unfold Builtin.divisionGoesByPylong
 have:¬(if(Int.ofNat n)==0 then 0 else(Int.ofNat n).natAbs.log2 / 30+1) > 300:=by
  by_cases q:((Int.ofNat n)==0)=true
  ·rw[if_pos q];decide
  ·rw[if_neg q]
   have h0:n≠0:=fun e=>by subst e;exact q rfl
   have:=(Nat.log2_lt h0).mpr h
   show ¬n.log2 / 30+1 > 300
   lia
 simp only [decide_eq_false this,Bool.false_and]
noncomputable def G4(P:Pm)(H:HP)(ρ:List Addr)(K:V→Prop)(Q:Value→Shared→Prop)(s:Shared):Prop:=∀v r t',ag P H ρ v r→K v→Q r {s with toks:=t'}
section
variable {prog:Program}{w:World}{A:Around}{E:Value→Shared→Prop}{s:Shared}{P:Pm}{H:HP}{ρ:List Addr}{K:V→Prop}
theorem G4.int{k:Bool}{x:Int}{Q:Value→Shared→Prop}(q:G4 P H ρ K Q s)(h:K (.int k x)):Q (.int x s.toks) {s with toks:=s.toks+1}:=q _ _ _ .int h
theorem G4.str{k:Bool}{x:Str}{Q:Value→Shared→Prop}(q:G4 P H ρ K Q s)(hx:PyData.strOk x=true)(h:K (.str k x))(t':Tok)(tk:Nat):Q (.str x t') {s with toks:=tk}:=q _ _ _ (.str hx) h
theorem zU{op:Operator}{k:Bool}{x y:Int}{t u:Tok}{v:V}{Q:Value→Shared→Prop}(h:qR op k x y=some v)(hK:K v)(q:G4 P H ρ K Q s) :
  wpAny (model prog w) A (binaryOp op (.int x t) (.int y u)) Q E s:=by
 cases op with
 |Add=>obtain rfl:=ae h;with_reducible exact add_int (q.int hK)
 |Sub=>obtain rfl:=ae h;with_reducible exact sub_int (q.int hK)
 |BitOr=>obtain rfl:=ae h;with_reducible exact or_int (q.int hK)
 |BitAnd=>obtain rfl:=ae h;with_reducible exact and_int (q.int hK)
 |_=>cases h
theorem mz{op:Operator}{k:Bool}{x y:Int}{t u:Tok}{Q:Value→Shared→Prop}(h:oP (qR op k x y) K)(q:G4 P H ρ K Q s) :
  wpAny (model prog w) A (binaryOp op (.int x t) (.int y u)) Q E s:=aB h fun _ e h=>zU e h q
theorem qZ{op:Operator}{k:Bool}{x:Int}{n:Nat}{t u:Tok}{Q:Value→Shared→Prop}(h:tN op k x n K)(q:G4 P H ρ K Q s) :
    wpAny (model prog w) A (binaryOp op (.int x t) (.int (Int.ofNat n) u)) Q E s:=by
  have ne (e:bW (Nat.beq n 0)=true):Int.ofNat n≠0:=fun i=>Nat.ne_of_beq_eq_false (bS e) (Int.ofNat.inj i)
  have h0:(0:Int)≤Int.ofNat n:=Int.natCast_nonneg n
  cases op with
  |Mult=>exact a8 h fun e h=>by with_reducible exact mul_int (q.int h) (Fi (ju e))
  |FloorDiv=>exact a8 h fun e1 h=>a8 h fun e h=>by with_reducible exact floordiv_int (ne e1) (q.int h) (.inl (yd (ju e)))
  |Mod=>exact a8 h fun e1 h=>by with_reducible exact mod_int' (ne e1) (q.int h)
  | RShift=>
    have h:K (.int k (x.fdiv (2 ^ n))):=h
    with_reducible refine rshift_int h0 ?_
    rw[show(Int.ofNat n).toNat=n from rfl]
    exact q.int h
  | LShift=>
    refine a8 h fun e h=>cg h fun h1 h2=>?_
    have e:Int.ofNat n≤1000000:=Int.ofNat_le.mpr (Nat.le_trans (Nat.le_of_ble_eq_true (show Nat.ble n 1000=true from e)) (by decide))
    with_reducible refine lshift_int_small h0 e (ju h1) ?_
    rw[show(Int.ofNat n).toNat=n from rfl]
    exact q.int h2
  |_=>exact mz (k:=k) h q
theorem zB{x y:Str}(hx:PyData.strOk x=true)(hy:PyData.strOk y=true):PyData.strOk (x++y)=true:=by
 unfold PyData.strOk at hx hy ⊢
 have e:(x++y).cps=x.cps++y.cps:=rfl
 rw[e,Array.all_append,hx,hy];rfl
theorem lJ{α β:Type}{G:Prop}{o:Option α}{q:Option β}{p:α×β}(h:(oO o fun a=>oO q fun b=>some (a,b))=some p)(k:o=some p.1→q=some p.2→G):G:=
 au h fun a ea h=>au h fun b eb h=>k (by rw[ea,←ae h]) (by rw[eb,←ae h])
theorem Ai{op:Operator}{a b:Bool×Int}{t u:Tok}{Q:Value→Shared→Prop}(h:Ir op a b K)(q:G4 P H ρ K Q s) :
    wpAny (model prog w) A (binaryOp op (.int a.2 t) (.int b.2 u)) Q E s:=by
  cases op with
  |Mult=>exact aB h fun n en h=>a8 h fun e h=>uF en fun _ en=>by rw[en];with_reducible exact mul_int (q.int h) (FP (ju e))
  | Mod=>
    have h:eM false (KQ b.2) (K (.int (ay a.1 b.1) (a.2.fmod b.2))):=h
    refine cg h fun h1 h2=>?_
    have h1:0 < b.2:=of_decide_eq_true (show decide (0 < b.2)=true from h1)
    with_reducible exact mod_int' (Int.ne_of_gt h1) (q.int h2)
  |_=>exact mz (k:=ay a.1 b.1) h q
theorem Gb{op:Operator}{a b:V}{ra rb:Value}{Q:Value→Shared→Prop}(h:AJ op a b K)(ha:ag P H ρ a ra)(hb:ag P H ρ b rb)(q:G4 P H ρ K Q s) :
  wpAny (model prog w) A (binaryOp op ra rb) Q E s:=by
 refine du h (fun p e h=>lJ e fun ea eb=>ha.cI ea fun t ea=>hb.cI eb fun u eb=>?_) fun _ h=>aB h fun p e h=>lJ e fun ea eb=>ha.cS ea fun t hx ea=>hb.cS eb fun u hy eb=>a8 h fun h1 h=>cg h fun h2 h3=>?_
 ·rw[ea,eb]
  refine du h (fun n en h=>uF en fun _ en=>?_) fun _ h=>Ai h q
  rw[en];exact qZ h q
 ·rw[ea,eb]
  cases op with
  |Add=>with_reducible exact add_str (q.str (zB hx hy) h3) (dB h2)
  |_=>cases h1
end
theorem Kh{c:Nat}(h:Sv c=true):c < 1114112:=Nat.le_of_ble_eq_true h
theorem qd{α:Type}(f:α→Bool)(l:List α):bb f l=l.all f:=by
 induction l with
 |nil=>rfl
 |cons x r ih=>show bX (f x) (bb f r) false=_;rw[List.all_cons,ih];cases f x <;> rfl
theorem a9{α:Type}{f:α→Bool}{x:α}{r:List α}(h:bb f (x::r)=true):f x=true∧bb f r=true:=gy h fun a b=>⟨a,b⟩
theorem qj{s:Str}(h:Iz s=true):PyData.strOk s=true:=by
 unfold Iz at h
 unfold PyData.strOk
 rw[qd,List.all_eq_true]at h
 rw[←Array.all_toList,List.all_eq_true]
 exact fun x hx=>decide_eq_true (Kh (h x hx))
structure vh(n:Nat)(h:Heap)(r:Value)(d:PyData):Prop where
 reads:∃as,Reads h r d as
 lay:d.canLay0=true
 deep:d.depth≤n
structure gk(n:Nat)(h:Heap)(rs:List Value)(ds:List PyData):Prop where
 reads:∃as,ReadsAll h rs ds as
 lay:PyData.canLayAll0 ds=true
 deep:PyData.depthAll ds≤n
section
variable {P:Pm}{base h:Heap}{H:HP}{ρ:List Addr}{frs:aJ}{ob:Tr}
theorem gk.nil{n:Nat}:gk n h [] []:=⟨⟨_,.nil⟩,by rw[PyData.canLayAll0],by rw[PyData.depthAll];exact Nat.zero_le _⟩
theorem gk.cons{n:Nat}{r rs d ds}(x:vh n h r d)(y:gk n h rs ds):gk n h (r::rs) (d::ds):=by
 obtain⟨⟨_,r1⟩,l1,d1⟩:=x
 obtain⟨⟨_,r2⟩,l2,d2⟩:=y
 exact⟨⟨_,.cons r1 r2⟩,by rw[PyData.canLayAll0,l1,l2];rfl,by rw[PyData.depthAll];exact Nat.max_le.mpr ⟨d1,d2⟩⟩
theorem jX{n:Nat}{f:V→Option PyData}(ih:∀v r d,ag P H ρ v r→f v=some d→vh n h r d){vs:List V}{rs:List Value}{ds:List PyData}(hv:ai P H ρ vs rs):j5 f vs=some ds→gk n h rs ds:=
 ai.ind (M:=fun vs rs=>∀ds,j5 f vs=some ds→gk n h rs ds) (fun _ e=>ae e▸.nil)
  (fun v r vs rs a _ i _ e=>au e fun y e1 e=>au e fun l e2 e=>ae e▸.cons (ih _ _ _ a e1) (i _ e2)) hv ds
theorem gk.list{n k:Nat}{a:Addr}{rs:List Value}{ds:List PyData}(x:gk n h rs ds)(e:h.get? a=some (aA rs k)):vh (n+1) h (.ref a) (.list ds):=by
 obtain⟨⟨_,r⟩,l,d⟩:=x
 exact⟨⟨_,.list e rfl rfl r⟩,by rw[PyData.canLay0];exact l,by rw[PyData.depth];exact Nat.succ_le_succ d⟩
theorem gk.tup{n:Nat}{a:Addr}{rs:List Value}{ds:List PyData}(x:gk n h rs ds)(e:h.get? a=some (eO rs)):vh (n+1) h (.ref a) (.tuple ds):=by
 obtain⟨⟨_,r⟩,l,d⟩:=x
 exact⟨⟨_,.tuple e rfl rfl r⟩,by rw[PyData.canLay0];exact l,by rw[PyData.depth];exact Nat.succ_le_succ d⟩
theorem Gq{n:Nat}{rs:List Value}{xs:List Int}(x:IntsAre rs xs):gk n h rs (dG xs):=by
 induction x with
 |nil=>exact .nil
 |cons _ _ _ ih=>exact .cons ⟨⟨_,.int _ _⟩,by rw[PyData.canLay0],by rw[PyData.depth];exact Nat.zero_le _⟩ ih
theorem Bz (I:aM P base H ρ frs ob h) (n:Nat) {v:V} {r:Value} {d:PyData} (hv:ag P H ρ v r) (e:Rw ob n v=some d):vh n h r d:=by
  induction n generalizing v r d with
  |zero=>cases e
  | succ n ih=>
    have ih:=fun v r d a b=>@ih v r d a b
    cases hv with
    |none=>exact ae e▸⟨⟨_,.none⟩,by rw[PyData.canLay0],by rw[PyData.depth];exact Nat.zero_le _⟩
    |bool=>exact ae e▸⟨⟨_,.bool _⟩,by rw[PyData.canLay0],by rw[PyData.depth];exact Nat.zero_le _⟩
    |int=>exact ae e▸⟨⟨_,.int _ _⟩,by rw[PyData.canLay0],by rw[PyData.depth];exact Nat.zero_le _⟩
    |str hx=>exact ae e▸⟨⟨_,.str _ _⟩,by rw[PyData.canLay0];exact hx,by rw[PyData.depth];exact Nat.zero_le _⟩
    |irow a b=>exact ae e▸(Gq b).list (I.frz _ _ a)
    |tup a b=>exact au e fun l el e=>ae e▸(jX ih b el).tup (I.frz _ _ a)
    |list a b=>exact au e fun l el e=>ae e▸(jX ih b el).list (I.frz _ _ a)
    | ref ha=>
      exact cP e (fun vs eo e=>au e fun l el e=>(I.at (iI eo) ha).list' fun _ _ a b=>ae e▸(jX ih b el).list a)
        fun _ e=>au e fun v eo e=>(I.at (Ag eo) ha).frz' fun a=>let x:=ih _ _ _ a e;⟨x.reads,x.lay,Nat.le_succ_of_le x.deep⟩
    |_=>cases e
end
theorem lG{α:Type}(f:α→Bool)(l:List α):dy f l=l.any f:=by
 induction l with
 |nil=>rfl
 |cons x r ih=>rw[List.any_cons,←ih];show(match f x with|true=>true|false=>dy f r)=_;cases f x <;> rfl
theorem gd(b:Bool):c7 true b=!b:=by cases b <;> rfl
theorem Ck{f:PyData→PyData→Bool}(hf:∀d e,f d e=PyData.eqv d e)(a:List PyData):∀b,OQ f a b=PyData.eqvAll a b:=by
  induction a with
  |nil=>intro b;cases b <;> (rw[PyData.eqvAll];rfl)
  | cons x a ih=>
    intro b
    cases b with
    |nil=>rw[PyData.eqvAll];rfl
    |cons y b=>rw[PyData.eqvAll,←ih,←hf];show bX _ _ _=_;cases f x y <;> rfl
theorem jh(n:Nat):∀(d e:PyData),fB n d e=PyData.eqv d e:=by
  induction n with
  |zero=>exact fun _ _=>rfl
  | succ n ih=>
    intro d e
    cases d with
    |str x=>cases e <;> (rw[PyData.eqv];first|rfl|exact cA _ _)
    |int x=>cases e <;> rfl
    |tuple a=>cases e <;> (rw[PyData.eqv];first|rfl|exact Ck ih _ _)
    |list a=>cases e <;> (rw[PyData.eqv];first|rfl|exact Ck ih _ _)
    |_=>rfl
theorem yl:∀{a b:List Int},cF a b=true→a=b:=by
  intro a
  induction a with
  |nil=>exact fun h=>(bU h).symm
  | cons x a ih=>
    intro b h
    cases b with
    |nil=>cases h
    |cons y b=>exact gy h fun e h=>by rw[eq_of_beq e,ih h]
theorem tP(a:List Int):cF a a=true:=by
 induction a with
 |nil=>rfl
 |cons x a ih=>show bX (x==x) (cF a a) false=true;rw[beq_self_eq_true];exact ih
theorem toNat_inj{a:List UInt8}:∀{b:List UInt8},(a.map fun b=>(b.toNat:Int))=b.map (fun b=>(b.toNat:Int))→a=b:=by
  induction a with
  |nil=>intro b e;cases b with|nil=>rfl|cons=>cases e
  | cons x a ih=>
    intro b e
    cases b with
    |nil=>cases e
    |cons y b=>rw[UInt8.toNat_inj.mp (Int.ofNat.inj (List.cons.inj e).1),ih (List.cons.inj e).2]
theorem n6(a b:Array UInt8):cF (aw a) (aw b)=(a.toList==b.toList):=by
 by_cases h:a.toList=b.toList
 ·unfold aw;rw[h,beq_self_eq_true];exact tP _
 ·rw[beq_eq_false_iff_ne.mpr h]
  cases q:cF (aw a) (aw b)with
  |false=>rfl
  |true=>exact absurd (toNat_inj (yl q)) h
section
variable {prog:Program}{w:World}{A:Around}{E:Value→Shared→Prop}{s:Shared}{P:Pm}{base:Heap}{H:HP}{ρ:List Addr}{frs:aJ}{ob:Tr}
theorem A3{op:CmpOp}{d e:PyData}{c:Bool}{ra rb:Value}{Q:Value→Shared→Prop}(hu:A.units+16 < cLine)(h:I5 op d e=some c)(x:vh 8 s.heap ra d)(y:vh 8 s.heap rb e)(q:Q (.bool c) s) :
    wpAny (model prog w) A (compareOp op ra rb) Q E s:=by
  obtain⟨⟨_,r1⟩,l1,d1⟩:=x
  obtain⟨⟨_,r2⟩,l2,d2⟩:=y
  have hm:A.units+min d.depth e.depth < cLine:=Nat.lt_of_le_of_lt (Nat.add_le_add_left (Nat.le_trans (Nat.min_le_left _ _) d1) _) (by lia)
  have hm' (n:Nat):A.units+1+min n d.depth < cLine:=Nat.lt_of_le_of_lt (Nat.add_le_add_left (Nat.le_trans (Nat.min_le_right _ _) d1) _) (by lia)
  have f8:fB 8=PyData.eqv:=funext fun d=>funext fun e=>jh 8 d e
  cases op with
  | Eq=>
    have h:fB 8 d e=c:=ae h
    rw[f8]at h
    rw[←h]at q
    with_reducible refine cmp_ofEq ?_
    exact eqOverData _ _ _ _ _ _ _ _ _ _ _ _ r1 r2 l1 l2 hm q
  | NotEq=>
    have h:c7 true (fB 8 d e)=c:=ae h
    rw[f8,gd]at h
    rw[←h]at q
    with_reducible refine cmp_ofNotEq ?_
    exact neOverData _ _ _ _ _ _ _ _ _ _ _ _ r1 r2 l1 l2 hm q
  |In=>
      refine au h fun l el h=>?_
      have h:dy (fun y=>fB 8 y d) l=c:=ae h
      rw[f8,lG]at h
      rw[←h]at q
      cases e with
      |list l'=>obtain rfl:=ae el;rw[PyData.canLay0]at l2;with_reducible exact in_list_reads r2 r1 l2 l1 (hm' _) q
      |tuple l'=>obtain rfl:=ae el;rw[PyData.canLay0]at l2;with_reducible exact in_tuple_reads r2 r1 l2 l1 (hm' _) q
      |_=>cases el
  |NotIn=>
      refine au h fun l el h=>?_
      have h:c7 true (dy (fun y=>fB 8 y d) l)=c:=ae h
      rw[f8,lG,gd]at h
      rw[←h]at q
      cases e with
      |list l'=>obtain rfl:=ae el;rw[PyData.canLay0]at l2;with_reducible exact notIn_list_reads r2 r1 l2 l1 (hm' _) q
      |tuple l'=>obtain rfl:=ae el;rw[PyData.canLay0]at l2;with_reducible exact notIn_tuple_reads r2 r1 l2 l1 (hm' _) q
      |_=>cases el
  |_=>cases h
theorem Bm{op:CmpOp}{a b:V}{p:Bool×Bool}{ra rb:Value}{Q:Value→Shared→Prop}(I:aM P base H ρ frs ob s.heap)(hu:A.units+16 < cLine)(h:IL ob op a b=some p)(ha:ag P H ρ a ra)(hb:ag P H ρ b rb)(q:Q (.bool p.2) s) :
  wpAny (model prog w) A (compareOp op ra rb) Q E s:=
 au h fun d hd h=>au h fun e he h=>au h fun r hr h=>A3 hu hr (Bz I 8 ha hd) (Bz I 8 hb he) (by rw[←ae h]at q;exact q)
noncomputable def fR(key:V):List (V×V)→Option V
 |[]=>none
 |p::r=>bX (bu key p.1) (some p.2) (fR key r)
theorem Bp(key:V)(kvs:List (V×V)):oM key kvs=(fR key kvs).isSome:=by
 induction kvs with
 |nil=>rfl
 |cons p r ih=>show bX _ _ _=(bX _ _ _:Option V).isSome;cases bu key p.1;exact ih;rfl
structure cf(P:Pm)(H:HP)(ρ:List Addr)(h:Heap)(d:Addr)(kvs:List (V×V)):Prop where
 obj:∃es n,h.get? d=some (dictOf es n)∧bF P H ρ kvs es
 low:(d==sysModules)=false
 apart:ba kvs
theorem gW{h:Heap}(I:aM P base H ρ frs ob h){v:V}{r:Value}{kvs:List (V×V)}(hv:ag P H ρ v r)(e:n7 ob v=some kvs):∃d,r=.ref d∧cf P H ρ h d kvs:=
 cP e (fun _ ed e=>hv.cD ed fun _ _ _ a b c d er=>⟨_,er,⟨_,_,I.frz _ _ a,ae e▸d⟩,b,ae e▸c⟩)
  fun _ e=>au e fun i ei e=>hv.cR ei fun ad ha er=>cP e (fun _ eo e=>(I.at (Jk eo) ha).dict' fun _ _ a b c d=>⟨_,er,⟨_,_,a,ae e▸d⟩,b,ae e▸c⟩)
   fun _ e=>au e fun u eo e=>(I.at (Ag eo) ha).frz' fun a=>a.cD e fun _ _ _ a b c d e=>⟨_,er,by cases e;exact⟨_,_,I.frz _ _ a,d⟩,by cases e;exact b,c⟩
end
section
variable {prog:Program}{w:World}{P:Pm}{H:HP}{ρ:List Addr}{K:Type}[DecidableEq K]{ok:V→Prop}{f:V→K}
inductive oK(P:Pm)(H:HP)(ρ:List Addr)(ok:V→Prop)(f:V→K):List (V×V)→List (K×Value)→Prop
 |nil:oK P H ρ ok f [] []
 |cons {p r kvs rs}:ok p.1→ag P H ρ p.2 r→oK P H ρ ok f kvs rs→oK P H ρ ok f (p::kvs) ((f p.1,r)::rs)
structure kE(knd:KeyKind prog w K)(P:Pm)(H:HP)(ρ:List Addr)(ok:V→Prop)(f:V→K):Prop where
 is:∀{k r},ok k→ag P H ρ k r→knd.is (f k) r=true
 back:∀{k r},ok k→knd.is (f k) r=true→ag P H ρ k r
 hash:∀{k h},ok k→dw P k h→h=knd.hash (f k)
 toH:∀{k},ok k→dw P k (knd.hash (f k))
variable {knd:KeyKind prog w K}
theorem Kr(X:kE knd P H ρ ok f){kvs es}(d:bF P H ρ kvs es):(∀kv∈kvs,∀r,ag P H ρ kv.1 r→ok kv.1)→∃rs,oK P H ρ ok f kvs rs∧Pairs knd es rs∧∀e∈es,∃k,knd.is k e.key=true∧e.hash=knd.hash k:=
 bF.ind (M:=fun kvs es=>(∀kv∈kvs,∀r,ag P H ρ kv.1 r→ok kv.1)→∃rs,oK P H ρ ok f kvs rs∧Pairs knd es rs∧∀e∈es,∃k,knd.is k e.key=true∧e.hash=knd.hash k) (fun _=>⟨[],.nil,.nil,fun _ h=>absurd h List.not_mem_nil⟩)
  (fun p hs kr r kvs es a b c _ ih h=>by
   refine cJ (ih fun kv m=>h kv (List.mem_cons_of_mem _ m)) fun rs h1 h2 h3=>?_
   have o:=h _ List.mem_cons_self _ a
   refine⟨(f p.1,r)::rs,.cons o c h1,.cons (X.is o a) rfl h2,fun e' m=>?_⟩
   rcases List.mem_cons.mp m with rfl|m
   ·exact⟨f p.1,X.is o a,X.hash o b⟩
   ·exact h3 e' m) d
theorem oK.find(he:∀{a b},ok a→ok b→(bu a b=true↔f a=f b)){key:V}(hk:ok key){kvs rs}(h:oK P H ρ ok f kvs rs):oX (fR key kvs) (fun v=>∃r,valueAt rs (f key)=some r∧ag P H ρ v r) (valueAt rs (f key)=none):=by
  induction h with
  |nil=>rfl
  | @cons p r kvs rs a b c ih=>
    show oX (bX (bu key p.1) (some p.2) (fR key kvs)) _ _
    cases q:bu key p.1 with
    |true=>exact⟨r,by rw[(he hk a).mp q];simp[valueAt],b⟩
    | false=>
      have e:¬f p.1=f key:=fun e=>by rw[(he hk a).mpr e.symm]at q;cases q
      have e2:valueAt ((f p.1,r)::rs) (f key)=valueAt rs (f key):=by simp[valueAt,e]
      rw[e2];exact ih
theorem oK.apart(he:∀{a b},ok a→ok b→(bu a b=true↔f a=f b)){key:V}(hk:ok key){kvs rs}(h:oK P H ρ ok f kvs rs):(∀b∈kvs,bu key b.1=false)↔f key∉rs.map (·.1):=by
  induction h with
  |nil=>exact⟨fun _=>List.not_mem_nil,fun _ _ m=>absurd m List.not_mem_nil⟩
  | @cons p r kvs rs a b c ih=>
    have e:=he hk a
    rw[List.forall_mem_cons,List.map_cons,List.mem_cons,not_or,ih,←e,Bool.not_eq_true]
theorem oK.nodup(he:∀{a b},ok a→ok b→(bu a b=true↔f a=f b)){kvs rs}(h:oK P H ρ ok f kvs rs):(rs.map (·.1)).Nodup↔ba kvs:=by
 unfold ba
 induction h with
 |nil=>exact⟨fun _=>.nil,fun _=>.nil⟩
 |@cons p r kvs rs a b c ih=>rw[List.map_cons,List.nodup_cons,List.pairwise_cons,ih,←oK.apart he a c]
theorem qX{rs:List (K×Value)}{k:K}{u v:Value}(hn:k∉rs.map (·.1)):stored ((k,u)::rs) k v=(k,v)::rs:=by
 simp[stored]
 exact map_store_of_not_mem rs k v hn
theorem qD{rs:List (K×Value)}{k k':K}{u v:Value}(hn:¬k'=k):stored ((k',u)::rs) k v=(k',u)::stored rs k v:=by
 unfold stored
 simp only [List.any_cons,List.map_cons,hn,decide_false,Bool.false_or,if_false]
 cases rs.any _ <;> rfl
theorem oK.put(he:∀{a b},ok a→ok b→(bu a b=true↔f a=f b)){key v:V}{rv:Value}(hk:ok key)(hv:ag P H ρ v rv){kvs rs}(h:oK P H ρ ok f kvs rs)(n:(rs.map (·.1)).Nodup):oK P H ρ ok f (fo key v kvs) (stored rs (f key) rv):=by
  induction h with
  |nil=>exact .cons (p:=(key,v)) hk hv .nil
  | @cons p r kvs rs a b c ih=>
    rw[List.map_cons,List.nodup_cons]at n
    show oK P H ρ ok f (bX (bu key p.1) ((p.1,v)::kvs) (p::fo key v kvs)) _
    cases q:bu key p.1 with
    | true=>
      rw[(he hk a).mp q,qX n.1]
      exact .cons (p:=(p.1,v)) a hv c
    | false=>
      rw[qD fun e=>by rw[(he hk a).mpr e.symm]at q;cases q]
      exact .cons a b (ih n.2)
theorem Bg(X:kE knd P H ρ ok f){kvs rs}(h:oK P H ρ ok f kvs rs):∀{es},Pairs knd es rs→(∀e∈es,∃k,knd.is k e.key=true∧e.hash=knd.hash k)→bF P H ρ kvs es:=by
  induction h with
  |nil=>intro es p _;cases p;exact .nil
  | @cons p r kvs rs a b c ih=>
    intro es pp h
    cases pp with
    | @cons e _ es _ p1 p2 p3=>
      refine aq (h e List.mem_cons_self) fun k' i1 i2=>?_
      obtain rfl:=knd.inj _ _ _ i1 p1
      obtain⟨eh,ek,ev⟩:=e
      obtain rfl:eh=_:=i2
      exact .cons (X.back a p1) (X.toH a) (by rw[show ev=r from p2];exact b) (ih p3 fun e m=>h e (List.mem_cons_of_mem _ m))
variable {A:Around}{E:Value→Shared→Prop}{s:Shared}{base:Heap}{frs:aJ}{ob:Tr}
theorem oZ(X:kE knd P H ρ ok f)(he:∀{a b},ok a→ok b→(bu a b=true↔f a=f b)){h:Heap}{d:Addr}{kvs:List (V×V)}(D:cf P H ρ h d kvs)(hs:∀kv∈kvs,∀r,ag P H ρ kv.1 r→ok kv.1):∃rs,oK P H ρ ok f kvs rs∧h.DictOf knd d rs:=by
 refine aW D.obj fun es n e1 e2=>?_
 refine cJ (Kr X e2 hs) fun rs h1 h2 h3=>?_
 exact⟨rs,h1,_,es.toArray,n,e1,⟨rfl,rfl,rfl⟩,rfl,fun e m=>h3 e (by simpa using m),by simpa using h2,(h1.nodup he).mpr D.apart⟩
theorem sE(X:kE knd P H ρ ok f)(he:∀{a b},ok a→ok b→(bu a b=true↔f a=f b)){h:Heap}{d:Addr}{kvs:List (V×V)}{rs}(low:(d==sysModules)=false)(R:oK P H ρ ok f kvs rs)(D:h.DictOf knd d rs):cf P H ρ h d kvs:=by
 obtain⟨o,es,ep,ho,⟨c1,c2,c3⟩,hd,hk,hp,hn⟩:=D
 refine⟨⟨es.toList,ep,?_,Bg X R hp fun e m=>hk e (by simpa using m)⟩,low,(R.nodup he).mp hn⟩
 rw[ho]
 obtain⟨a,b,c,e⟩:=o
 simp only at c1 c2 c3 hd
 subst c1 c2 c3 hd
 simp
theorem Di(X:kE knd P H ρ ok f)(he:∀{a b},ok a→ok b→(bu a b=true↔f a=f b)){d:Addr}{kvs:List (V×V)}{key:V}{rk:Value}{Q:Option Value→Shared→Prop}(D:cf P H ρ s.heap d kvs)(hs:∀kv∈kvs,∀r,ag P H ρ kv.1 r→ok kv.1)(hk:ok key)(hv:ag P H ρ key rk)
  (q:∀tk o,oX (fR key kvs) (fun v=>∃r,o=some r∧ag P H ρ v r) (o=none)→Q o {s with toks:=tk}):wpAny (model prog w) A (dictGet d rk) Q E s:=by
 refine aq (oZ X he D hs) fun rs h1 h2=>?_
 (with_reducible refine wpAny_dictGet_of (knd:=knd) (X.is hk hv) h2.mapOf ?_)
 exact q _ _ (h1.find he hk)
theorem A9(X:kE knd P H ρ ok f)(he:∀{a b},ok a→ok b→(bu a b=true↔f a=f b)){d:Addr}{kvs:List (V×V)}{key v:V}{rk rv:Value}{Q:Unit→Shared→Prop}(D:cf P H ρ s.heap d kvs)(hs:∀kv∈kvs,∀r,ag P H ρ kv.1 r→ok kv.1)(hk:ok key)(hv:ag P H ρ key rk)(hr:ag P H ρ v rv)(hl:kvs.length≤sizeLine)
  (q:∀h' tk,cf P H ρ h' d (fo key v kvs)→Heap.SameBut d s.heap h'→Q () {s with heap:=h',toks:=tk}):wpAny (model prog w) A (dictSet d rk rv) Q E s:=by
 refine aq (oZ X he D hs) fun rs h1 h2=>?_
 have l:∀{kvs rs},oK P H ρ ok f kvs rs→rs.length=kvs.length:=by
  intro kvs rs h
  induction h with
  |nil=>rfl
  |cons _ _ _ ih=>simp[ih]
 (with_reducible refine wpAny_dictSet_pairs (knd:=knd) (X.is hk hv) h2 (fun h' d' sb=>q h' _ ?_ sb) ?_)
 ·exact sE X he D.low (h1.put he hk hr ((h1.nodup he).mpr D.apart)) d'
 ·rw[l h1];exact hl
end
section
variable {prog:Program}{w:World}{P:Pm}{H:HP}{ρ:List Addr}
theorem pZ{x:Str}{t:Tok}:Value.isStrOf x (.str x t)=true:=by simp[Value.isStrOf]
theorem ma{x:Int}{t:Tok}:Value.isInt x (.int x t)=true:=by simp[Value.isInt]
noncomputable def wJ(v:V):Str:=oX (vS v) (·.2) (Str.ofString "")
noncomputable def En(v:V):Int:=oX (vI v) (·.2) 0
noncomputable def cC(v:V):List Int:=oX (t3 v) (fun p=>[p.1,p.2.1,p.2.2]) []
noncomputable def w5(v:V):Prop:=∃k x,v=.str k x∧PyData.strOk x=true
noncomputable def rR(v:V):Prop:=∃k x,v=.int k x
noncomputable def dW(v:V):Prop:=∃a b c x y z,v=.tup [.int a x,.int b y,.int c z]
theorem tK{a b:V}(ha:w5 a)(hb:w5 b):bu a b=true↔wJ a=wJ b:=by
 obtain⟨_,_,rfl,_⟩:=ha;obtain⟨_,_,rfl,_⟩:=hb
 exact bj
theorem rL{a b:V}(ha:rR a)(hb:rR b):bu a b=true↔En a=En b:=by
 obtain⟨_,_,rfl⟩:=ha;obtain⟨_,_,rfl⟩:=hb
 exact⟨fun h=>eq_of_beq h,fun h=>beq_iff_eq.mpr h⟩
theorem gP{a b:V}(ha:dW a)(hb:dW b):bu a b=true↔cC a=cC b:=by
 obtain⟨_,_,_,x,y,z,rfl⟩:=ha;obtain⟨_,_,_,x',y',z',rfl⟩:=hb
 show bX (x==x') (bX (y==y') (z==z') false) false=true↔[x,y,z]=[x',y',z']
 refine⟨fun h=>gy h fun e1 h=>gy h fun e2 h=>by rw[eq_of_beq e1,eq_of_beq e2,eq_of_beq h],fun e=>?_⟩
 cases e
 rw[beq_self_eq_true,beq_self_eq_true,beq_self_eq_true];rfl
theorem IG(hP:P.p=w.params):kE (strKind prog w) P H ρ w5 wJ where
 is:=by
  rintro k r ⟨b,x,rfl,ox⟩ hv
  exact hv.str' fun t _ e=>e▸pZ (t:=t)
 back:=by
  rintro k r ⟨b,x,rfl,ox⟩ hv
  refine bz (Value.isStrOf_shape hv) fun t rq1=>?_;subst rq1
  exact .str ox
 hash:=by
  rintro k h ⟨b,x,rfl,ox⟩ hh
  cases hh
  show PyData.keyHash P.p x=hashStr w x
  rw[hP];rfl
 toH:=by
  rintro k ⟨b,x,rfl,ox⟩
  have:(strKind prog w).hash (wJ (.str b x))=PyData.keyHash P.p x:=by rw[hP];rfl
  rw[this];exact .str
theorem IE:kE (intKind prog w) P H ρ rR En where
 is:=by
  rintro k r ⟨b,x,rfl⟩ hv
  exact hv.int' fun t e=>e▸ma (t:=t)
 back:=by
  rintro k r ⟨b,x,rfl⟩ hv
  refine bz (Value.isInt_shape hv) fun t rq1=>?_;subst rq1
  exact .int
 hash:=by
  rintro k h ⟨b,x,rfl⟩ hh
  cases hh
  rfl
 toH:=by
  rintro k ⟨b,x,rfl⟩
  exact .int
inductive fE(P:Pm)(H:HP)(ρ:List Addr):List (V×V)→List (List Int×Addr×Value)→Prop
 |nil:fE P H ρ [] []
 |cons {p a r kvs rs}:dW p.1→ag P H ρ p.1 (.ref a)→ag P H ρ p.2 r→fE P H ρ kvs rs→fE P H ρ (p::kvs) ((cC p.1,a,r)::rs)
theorem qC{h:Heap}{base:Heap}{frs:aJ}{ob:Tr}(I:aM P base H ρ frs ob h){k:V}{r:Value}(o:dW k)(hv:ag P H ρ k r):∃a,r=.ref a∧IsTupleKey (intKind prog w) h (cC k) a:=by
 refine BQ o fun _ _ _ x y z rq6=>?_;subst rq6
 have q:∀{k x r},ag P H ρ (.int k x) r→(intKind prog w).is x r=true:=fun{k x r} h=>h.int' fun t e=>e▸ma (t:=t)
 exact hv.tup' fun rs a ha b er=>⟨a,er,_,_,_,I.frz _ _ ha,rfl,rfl,by
  refine b.c3 (p:=(.int _ x,.int _ y,.int _ z)) rfl fun r s t x1 x2 x3 e=>?_
  subst e
  exact .cons (q x1) (.cons (q x2) (.cons (q x3) .nil))⟩
theorem EF{k:V}{h:Int}(o:dW k)(hh:dw P k h):h=(tupleKind (intKind prog w)).hash (cC k):=by
 refine BQ o fun _ _ _ x y z rq6=>?_;subst rq6
 cases hh
 rfl
theorem HH{k:V}(o:dW k):dw P k ((tupleKind (intKind prog w)).hash (cC k)):=by
 refine BQ o fun _ _ _ x y z rq6=>?_;subst rq6
 exact .tup
theorem E1{h:Heap}{base:Heap}{frs:aJ}{ob:Tr}(I:aM P base H ρ frs ob h){kvs es}(d:bF P H ρ kvs es):(∀kv∈kvs,dW kv.1)→∃rs,fE P H ρ kvs rs∧es=rs.map (entryOfKey (tupleKind (intKind prog w))):=
 bF.ind (M:=fun kvs es=>(∀kv∈kvs,dW kv.1)→∃rs,fE P H ρ kvs rs∧es=rs.map (entryOfKey (tupleKind (intKind prog w)))) (fun _=>⟨[],.nil,rfl⟩)
  (fun p hs kr r kvs es a b c _ ih h=>by
   refine aq (ih fun kv m=>h kv (List.mem_cons_of_mem _ m)) fun rs h1 h2=>?_
   have o:=h _ List.mem_cons_self
   refine aq (qC (prog:=prog) (w:=w) I o a) fun ad rq1 _=>?_;subst rq1
   refine⟨(cC p.1,ad,r)::rs,.cons o a c h1,?_⟩
   rw[h2,EF (prog:=prog) (w:=w) o b];rfl) d
theorem fE.find{key:V}(hk:dW key){kvs rs}(h:fE P H ρ kvs rs):oX (fR key kvs) (fun v=>∃r,(atKey rs (cC key)).map (·.2)=some r∧ag P H ρ v r) ((atKey rs (cC key)).map (·.2)=none):=by
  induction h with
  |nil=>rfl
  | @cons p ad r kvs rs a b' b c ih=>
    show oX (bX (bu key p.1) (some p.2) (fR key kvs)) _ _
    cases q:bu key p.1 with
    |true=>exact⟨r,by rw[(gP hk a).mp q];simp[atKey],b⟩
    | false=>
      have e:¬cC p.1=cC key:=fun e=>by rw[(gP hk a).mpr e.symm]at q;cases q
      have e2:atKey ((cC p.1,ad,r)::rs) (cC key)=atKey rs (cC key):=by simp[atKey,e]
      rw[e2];exact ih
theorem fE.apart{key:V}(hk:dW key){kvs rs}(h:fE P H ρ kvs rs):(∀b∈kvs,bu key b.1=false)↔cC key∉rs.map (·.1):=by
  induction h with
  |nil=>exact⟨fun _=>List.not_mem_nil,fun _ _ m=>absurd m List.not_mem_nil⟩
  | @cons p ad r kvs rs a b' b c ih=>
    have e:=gP hk a
    rw[List.forall_mem_cons,List.map_cons,List.mem_cons,not_or,ih,←e,Bool.not_eq_true]
theorem fE.nodup{kvs rs}(h:fE P H ρ kvs rs):(rs.map (·.1)).Nodup↔ba kvs:=by
 unfold ba
 induction h with
 |nil=>exact⟨fun _=>.nil,fun _=>.nil⟩
 |@cons p ad r kvs rs a b' b c ih=>rw[List.map_cons,List.nodup_cons,List.pairwise_cons,ih,←fE.apart a c]
theorem uz{k:List Int}{v:Value}{rs:List (List Int×Addr×Value)}(h:k∉rs.map (·.1)):rs.map (putAt k v)=rs:=by
  induction rs with
  |nil=>rfl
  | cons x rs ih=>
    rw[List.map_cons,List.mem_cons,not_or]at h
    rw[List.map_cons,ih h.2,putAt,if_neg fun e=>h.1 e.symm]
theorem nz{rs:List (List Int×Addr×Value)}{k k':List Int}{b a:Addr}{u v:Value}(hn:¬k'=k):storedH ((k',b,u)::rs) k a v=(k',b,u)::storedH rs k a v:=by
 have e2:atKey ((k',b,u)::rs) k=atKey rs k:=by simp[atKey,hn]
 unfold storedH
 rw[e2]
 cases atKey rs k with
 |some _=>show _::_=_;rw[putAt,if_neg hn];rfl
 |none=>rfl
theorem fE.put{key v:V}{rv:Value}{ad:Addr}(hk:dW key)(ka:ag P H ρ key (.ref ad))(hv:ag P H ρ v rv){kvs rs}(h:fE P H ρ kvs rs)(n:(rs.map (·.1)).Nodup):fE P H ρ (fo key v kvs) (storedH rs (cC key) ad rv):=by
  induction h with
  |nil=>exact .cons (p:=(key,v)) hk ka hv .nil
  | @cons p ad' r kvs rs a b' b c ih=>
    rw[List.map_cons,List.nodup_cons]at n
    show fE P H ρ (bX (bu key p.1) ((p.1,v)::kvs) (p::fo key v kvs)) _
    cases q:bu key p.1 with
    | true=>
      have e2:atKey ((cC p.1,ad',r)::rs) (cC p.1)=some (ad',r):=by simp[atKey]
      rw[(gP hk a).mp q,storedH_old e2,List.map_cons,uz n.1,putAt,if_pos rfl]
      exact .cons (p:=(p.1,v)) a b' hv c
    | false=>
      rw[nz fun e=>by rw[(gP hk a).mpr e.symm]at q;cases q]
      exact .cons a b' b (ih n.2)
theorem yi{kvs rs}(h:fE P H ρ kvs rs):bF P H ρ kvs (rs.map (entryOfKey (tupleKind (intKind prog w)))):=by
 induction h with
 |nil=>exact .nil
 |cons a b' b c ih=>exact .cons b' (HH a) b ih
variable {A:Around}{E:Value→Shared→Prop}{s:Shared}{base:Heap}{frs:aJ}{ob:Tr}
theorem m9{h:Heap}{d:Addr}{kvs:List (V×V)}(I:aM P base H ρ frs ob h)(D:cf P H ρ h d kvs)(hs:∀kv∈kvs,dW kv.1):∃rs,fE P H ρ kvs rs∧h.DictOfH (tupleKind (intKind prog w)) d rs:=by
  refine aW D.obj fun es n e1 e2=>?_
  refine aq (E1 (prog:=prog) (w:=w) I e2 hs) fun rs h1 h2=>?_
  refine⟨rs,h1,_,es.toArray,n,e1,⟨rfl,rfl,rfl⟩,rfl,by simpa using h2,?_,h1.nodup.mpr D.apart⟩
  clear h2 e2 e1 D hs
  induction h1 with
  |nil=>intro _ m;cases m
  | cons a b' b c ih=>
    intro x m
    refine(List.mem_cons.mp m).elim (fun e=>?_) (ih x)
    refine aq (qC (prog:=prog) (w:=w) I a b') fun ad e1 e2=>?_
    cases e1
    rw[e];exact e2
theorem pU{h:Heap}{d:Addr}{kvs:List (V×V)}{rs}(low:(d==sysModules)=false)(R:fE P H ρ kvs rs)(D:h.DictOfH (tupleKind (intKind prog w)) d rs):cf P H ρ h d kvs:=by
 obtain⟨o,es,ep,ho,⟨c1,c2,c3⟩,hd,he,hk,hn⟩:=D
 refine⟨⟨es.toList,ep,?_,by rw[he];exact yi R⟩,low,R.nodup.mp hn⟩
 rw[ho]
 obtain⟨a,b,c,e⟩:=o
 simp only at c1 c2 c3 hd
 subst c1 c2 c3 hd
 simp
theorem nc{key:V}{kvs:List (V×V)}(h:dQ key kvs=true):∀kv∈kvs,ip key kv.1=true:=by
 induction kvs with
 |nil=>exact fun _ m=>absurd m List.not_mem_nil
 |cons p r ih=>exact gy h fun e h=>List.forall_mem_cons.mpr ⟨e,ih h⟩
theorem Me{v:V}{p}(h:t3 v=some p):dW v:=
 au h fun vs e1 h=>au h fun q e2 h=>au h fun x e3 h=>au h fun y e4 h=>au h fun z e5 _=>⟨x.1,y.1,z.1,x.2,y.2,z.2,by rw[Ji e1,xI e2,vJ e3,vJ e4,vJ e5]⟩
theorem nh{key:V}(h:gM key=true):(∃k x,key=.str k x)∨rR key∨dW key:=
 cP h (fun x e _=>.inl ⟨_,_,CY e⟩) fun _ h=>cP h (fun x e _=>.inr (.inl ⟨_,_,vJ e⟩)) fun _ h=>jI h fun p e _=>.inr (.inr (Me e))
theorem CK{k x}{v:V}(h:ip (.str k x) v=true):∃k' x',v=.str k' x':=jI (o:=vS v) h fun _ e _=>⟨_,_,CY e⟩
theorem rE{k x}{v:V}(h:ip (.int k x) v=true):rR v:=jI (o:=vI v) h fun _ e _=>⟨_,_,vJ e⟩
theorem tn{v u:V}(o:dW u)(h:ip u v=true):dW v:=by
 refine BQ o fun _ _ _ _ _ _ rq6=>?_;subst rq6
 exact jI (o:=t3 v) h fun _ e _=>Me e
theorem xj{kvs:List (V×V)}{k x}(hk:∀kv∈kvs,ip (.str k x) kv.1=true)(kv:V×V)(m:kv∈kvs)(r:Value)(hr:ag P H ρ kv.1 r):w5 kv.1:=by
 refine iB (CK (hk kv m)) fun k' x' e=>?_
 rw[e]at hr
 exact hr.str' fun _ ox _=>⟨_,_,e,ox⟩
theorem je(hP:P.p=w.params){d:Addr}{kvs:List (V×V)}{key:V}{rk:Value}{Q:Option Value→Shared→Prop}(I:aM P base H ρ frs ob s.heap)(D:cf P H ρ s.heap d kvs)(hk:dQ key kvs=true)(ik:gM key=true)(hv:ag P H ρ key rk)(hu:A.units < cLine)
  (q:∀tk o,oX (fR key kvs) (fun v=>∃r,o=some r∧ag P H ρ v r) (o=none)→Q o {s with toks:=tk}):wpAny (model prog w) A (dictGet d rk) Q E s:=by
 have hk:=nc hk
 rcases nh ik with⟨k,x,rfl⟩|o|o
 ·exact Di (IG hP) tK D (xj hk) (hv.str' fun _ ox _=>⟨_,_,rfl,ox⟩) hv q
 ·refine Di IE rL D (fun kv m r hr=>?_) o hv q
  refine iB o fun _ _ rq2=>?_;subst rq2
  exact rE (hk kv m)
 ·refine aq (m9 (prog:=prog) (w:=w) I D (fun kv m=>tn o (hk kv m))) fun rs h1 h2=>?_
  refine aq (qC (prog:=prog) (w:=w) I o hv) fun a rq1 e2=>?_;subst rq1
  refine wpAny_dictGet_heap (knd:=tupleKind (intKind prog w)) hu e2 h2 ?_
  exact q _ _ (h1.find o)
theorem lL(hP:P.p=w.params){d:Addr}{kvs:List (V×V)}{key v:V}{rk rv:Value}{Q:Unit→Shared→Prop}(I:aM P base H ρ frs ob s.heap)(D:cf P H ρ s.heap d kvs)(hk:dQ key kvs=true)(ik:gM key=true)(hv:ag P H ρ key rk)(hr:ag P H ρ v rv)(hu:A.units < cLine)(hl:kvs.length≤sizeLine)
  (q:∀h' tk,cf P H ρ h' d (fo key v kvs)→Heap.SameBut d s.heap h'→Q () {s with heap:=h',toks:=tk}):wpAny (model prog w) A (dictSet d rk rv) Q E s:=by
 have hk:=nc hk
 rcases nh ik with⟨k,x,rfl⟩|o|o
 ·exact A9 (IG hP) tK D (xj hk) (hv.str' fun _ ox _=>⟨_,_,rfl,ox⟩) hv hr hl q
 ·refine A9 IE rL D (fun kv m r hr=>?_) o hv hr hl q
  refine iB o fun _ _ rq2=>?_;subst rq2
  exact rE (hk kv m)
 ·refine aq (m9 (prog:=prog) (w:=w) I D (fun kv m=>tn o (hk kv m))) fun rs h1 h2=>?_
  refine aq (qC (prog:=prog) (w:=w) I o hv) fun a rq1 e2=>?_;subst rq1
  have l:∀{kvs rs},fE P H ρ kvs rs→rs.length=kvs.length:=by
   intro kvs rs h
   induction h with
   |nil=>rfl
   |cons _ _ _ _ ih=>simp[ih]
  refine wpAny_dictSet_heap (knd:=tupleKind (intKind prog w)) hu e2 h2 (fun h' d' sb=>q h' _ ?_ sb) (by rw[l h1];exact hl)
  exact pU D.low (h1.put o hv hr (h1.nodup.mpr D.apart)) d'
end
section
variable {prog:Program}{w:World}{P:Pm}{H:HP}{ρ:List Addr}{A:Around}{E:Value→Shared→Prop}{s:Shared}{base:Heap}{frs:aJ}{ob:Tr}
theorem JE{A:Around}(hu:A.units+16 < cLine):A.in1.units < cLine:=by
 have e:A.in1.units≤A.units+16:=by unfold Around.in1;simp[Around.units];try lia
 lia
theorem cf.typeIs{d:Addr}{kvs:List (V×V)}(D:cf P H ρ s.heap d kvs):s.TypeIs (.ref d) "dict":=by
 refine aW D.obj fun es n e _=>?_
 exact⟨_,e,rfl⟩
theorem n0{d:Addr}{kvs:List (V×V)}{rk:Value}{R:Bool→Shared→Prop}{A:Around}(D:cf P H ρ s.heap d kvs)(h:wpAny (model prog w) A.in1 (dictGet d rk) (fun o s'=>R o.isSome s') E s):wpAny (model prog w) A (contains (.ref d) rk) R E s:=by
  unfold contains
  try with_reducible refine wpAny_holding ?_
  refine wpAny_bind (wpAny_specialOf D.typeIs slot_dict_contains.lookup ?_)
  show wpAny _ _ (if(some (Value.builtin "dict.__contains__")==some Value.none)=true then _ else _) _ E s
  rw[if_neg (by rw[beq_builtin_none];exact Bool.false_ne_true)]
  refine wpAny_bind (wpAny_callSpecialUnlessNone?_slot (name:=Str.ofString "__contains__") D.typeIs slot_dict_contains
    (wpAny_call_entry slot_dict_contains D.typeIs entry_dict_contains ?_ (args_dict_contains _ _)))
  show wpAny _ _ (dictGet d rk >>= _) _ _ s
  refine wpAny_bind (wpAny_mono h (fun o s' ho=>?_) fun _ _ e=>e)
  cases o with
  | some v=>
    show wpAny _ _ (ret (.bool true)) _ _ _
    exact wpAny_pure ⟨_,rfl,wpAny_truthy_bool ho⟩
  | none=>
    show wpAny _ _ (Builtin.Dict.pendingKey? d rk >>= _) _ _ _
    exact wpAny_bind (wpAny_pendingKey_other D.low (wpAny_pure ⟨_,rfl,wpAny_truthy_bool ho⟩))
theorem tH(hP:P.p=w.params){d:Addr}{kvs:List (V×V)}{key:V}{rk:Value}{R:Bool→Shared→Prop}(I:aM P base H ρ frs ob s.heap)(D:cf P H ρ s.heap d kvs)(hk:dQ key kvs=true)(ik:gM key=true)(hv:ag P H ρ key rk)(hu:A.units+16 < cLine)
  (q:∀tk,R (oM key kvs) {s with toks:=tk}):wpAny (model prog w) A (contains (.ref d) rk) R E s:=
 n0 D (je hP I D hk ik hv (JE hu) fun tk o ho=>by
  have q:=q tk
  rw[Bp]at q
  cases e:fR key kvs with
  |none=>rw[e]at ho q;rw[show o=none from ho];exact q
  |some v=>rw[e]at ho q;obtain⟨r,rfl,_⟩:=ho;exact q)
theorem ya(hP:P.p=w.params){d:Addr}{kvs:List (V×V)}{key:V}{rk:Value}{Q:Value→Shared→Prop}(I:aM P base H ρ frs ob s.heap)(D:cf P H ρ s.heap d kvs)(hk:dQ key kvs=true)(ik:gM key=true)(hv:ag P H ρ key rk)(hu:A.units+16 < cLine)
  (q:∀tk,Q (.bool (oM key kvs)) {s with toks:=tk}):wpAny (model prog w) A (compareOp .In rk (.ref d)) Q E s:=by
 show wpAny _ _ (do return .bool (←contains (.ref d) rk)) Q E s
 exact wpAny_bind (tH hP I D hk ik hv hu fun tk=>wpAny_pure (q tk))
theorem pD(hP:P.p=w.params){d:Addr}{kvs:List (V×V)}{key:V}{rk:Value}{Q:Value→Shared→Prop}(I:aM P base H ρ frs ob s.heap)(D:cf P H ρ s.heap d kvs)(hk:dQ key kvs=true)(ik:gM key=true)(hv:ag P H ρ key rk)(hu:A.units+16 < cLine)
  (q:∀tk,Q (.bool (c7 true (oM key kvs))) {s with toks:=tk}):wpAny (model prog w) A (compareOp .NotIn rk (.ref d)) Q E s:=by
 show wpAny _ _ (do return .bool (!(←contains (.ref d) rk))) Q E s
 exact wpAny_bind (tH hP I D hk ik hv hu fun tk=>wpAny_pure (by rw[←gd];exact q tk))
end
section
variable {prog:Program}{w:World}{A:Around}{E:Value→Shared→Prop}{s:Shared}{P:Pm}{base:Heap}{H:HP}{ρ:List Addr}{frs:aJ}{ob:Tr}
theorem zJ{op:CmpOp}{x y:Int}{t u:Tok}{c:Bool}{Q:Value→Shared→Prop}(h:DM op x y=some c)(q:Q (.bool c) s):wpAny (model prog w) A (compareOp op (.int x t) (.int y u)) Q E s:=by
 cases op with
 |Eq=>rw[←ae h]at q;with_reducible exact eq_int q
 |NotEq=>rw[←ae h]at q;with_reducible exact ne_int q
 |Lt=>rw[←ae h]at q;with_reducible exact lt_int q
 |LtE=>rw[←ae h]at q;with_reducible exact le_int q
 |Gt=>rw[←ae h]at q;with_reducible exact gt_int q
 |GtE=>rw[←ae h]at q;with_reducible exact ge_int q
 |_=>cases h
theorem FO{op:CmpOp}{x y:Str}{t u:Tok}{k:Bool}{p:Bool×Bool}{Q:Value→Shared→Prop}(h:Nt op k x y=some p)(q:Q (.bool p.2) s):wpAny (model prog w) A (compareOp op (.str x t) (.str y u)) Q E s:=by
 cases op with
 |Eq=>rw[←ae h]at q;have q:Q (.bool (aE x y)) s:=q;rw[cA]at q;with_reducible exact eq_str q
 |NotEq=>rw[←ae h]at q;have q:Q (.bool (c7 true (aE x y))) s:=q;rw[gd,cA]at q;(with_reducible refine ne_str ?_);exact q
 |In=>rw[←ae h]at q;have q:Q (.bool (c7 true _)) s:=q;rw[gd]at q;with_reducible exact in_str q
 |_=>cases h
theorem HM{op:CmpOp}{a b:Array UInt8}{t u:Tok}{p:Bool×Bool}{Q:Value→Shared→Prop}(h:ME op (aw a) (aw b)=some p)(q:Q (.bool p.2) s):wpAny (model prog w) A (compareOp op (.bytes a t) (.bytes b u)) Q E s:=by
 cases op with
 |Eq=>rw[←ae h]at q;have q:Q (.bool (cF _ _)) s:=q;rw[n6]at q;with_reducible exact eq_bytes q
 |NotEq=>rw[←ae h]at q;have q:Q (.bool (c7 true (cF _ _))) s:=q;rw[gd,n6]at q;(with_reducible refine ne_bytes ?_);exact q
 |_=>cases h
theorem ot{v:V}{r:Value}{c:Bool}(h:ag P H ρ v r)(e:isNone v=some c):(r==Value.none)=c:=by
 cases h <;> first|exact ae e|cases e
theorem Hk{op:CmpOp}{a:V}{ra:Value}{p:Bool×Bool}{Q:Value→Shared→Prop}(h:NL op a=some p)(ha:ag P H ρ a ra)(q:Q (.bool p.2) s):wpAny (model prog w) A (compareOp op ra .none) Q E s:=by
 cases op with
 |Is=>exact au h fun r e h=>by rw[←ae h,←ot ha e]at q;with_reducible exact is_none q
 | IsNot=>
   refine au h fun r e h=>?_
   rw[←ae h,←ot ha e]at q
   have q:Q (.bool (c7 true _)) s:=q
   rw[gd]at q;with_reducible exact isNot_none q
 |_=>cases h
theorem uK(hP:P.p=w.params){op:CmpOp}{a b:V}{p:Bool×Bool}{ra rb:Value}{Q:Value→Shared→Prop}(I:aM P base H ρ frs ob s.heap)(hu:A.units+16 < cLine)(h:wV ob op a b=some p)(ha:ag P H ρ a ra)(hb:ag P H ρ b rb)(q:∀tk,Q (.bool p.2) {s with toks:=tk}) :
  wpAny (model prog w) A (compareOp op ra rb) Q E s:=by
 refine cP h (fun kvs ed h=>bQ h fun hk h=>bQ h fun ik h=>?_) fun _ h=>Bm I hu h ha hb (q s.toks)
 refine aq (gW I hb ed) fun d rq1 D=>?_;subst rq1
 cases op with
 |In=>rw[←ae h]at q;exact ya hP I D hk ik ha hu q
 |NotIn=>rw[←ae h]at q;exact pD hP I D hk ik ha hu q
 |_=>cases h
theorem Gg(hP:P.p=w.params){op:CmpOp}{a b:V}{p:Bool×Bool}{ra rb:Value}{Q:Value→Shared→Prop}(I:aM P base H ρ frs ob s.heap)(hu:A.units+16 < cLine)(h:N8 ob op a b=some p)(ha:ag P H ρ a ra)(hb:ag P H ρ b rb)(q:∀tk,Q (.bool p.2) {s with toks:=tk}) :
  wpAny (model prog w) A (compareOp op ra rb) Q E s:=by
 refine cP h (fun x e h=>lJ e fun ea eb=>ha.cI ea fun t ea=>hb.cI eb fun u eb=>au h fun r er h=>?_) fun _ h=>
  cP h (fun x e h=>lJ e fun ea eb=>ha.cS ea fun t _ ea=>hb.cS eb fun u _ eb=>?_) fun _ h=>
  cP h (fun x e h=>lJ e fun ea eb=>ha.cY ea fun _ t ea fa=>hb.cY eb fun _ u eb fb=>?_) fun _ h=>
  gK h (fun e h=>hb.cNo e fun eb=>?_) fun _ h=>uK hP I hu h ha hb q
 ·have q:=q s.toks
  rw[←ae h]at q
  rw[ea,eb];exact zJ er q
 ·rw[ea,eb];exact FO h (q s.toks)
 ·rw[fa,fb]at h
  rw[ea,eb];exact HM h (q s.toks)
 ·rw[eb];exact Hk h ha (q s.toks)
end
end
section
structure Cx where
 A:Around
 cn:Str
 sc:Scope
 L:Addr
 cl:List (Str×Addr)
 fn:Option Addr
 sc0:Scope
 L0:Addr
 fa:Addr
 cl0:List (Str×Addr)
 cd:Value
 cs:List (Str×Addr)
 outer:List Env
noncomputable abbrev Cx.fenv(c:Cx):Env:=envX c.cn c.sc0 c.L0 c.fa c.cd c.cl0
noncomputable abbrev Cx.env(c:Cx):Env:={scope:=c.sc,locals:=c.L,globals:=mainGlobals,cells:=c.cl,qual:=c.cn++".<locals>.",func:=c.fn,code:=c.cd,frame:=some c.L0,builtins:=builtinsNs}
structure Cx.Ok(c:Cx)(n:Nat):Prop where
 frames:c.A.frames=some (c.fenv::c.outer)
 handled:c.A.handled=none
 kind:c.sc.kind=.function
 kind0:c.sc0.kind=.function
 depth:c.A.depth+2*n+8 < recursionLimit
 units:c.A.units+16*n+128 < cLine
 kept:∀x a,c.sc.names.lookup x=some .cell→c.cl.lookup x=some a→(x,a)∈c.cs
 names:(c.cs.map (·.1)).Nodup
 cells:∀x,c.sc.names.lookup x=some .cell→∃a,c.cl.lookup x=some a
 lam:∀l∈iF,c.sc.names.lookup l.key=some .cell→c.cd=.ref l.code∧c.cn=l.fn
theorem Cx.Ok.less{c:Cx}{n:Nat}(h:c.Ok (n+1)):c.Ok n:=⟨h.frames,h.handled,h.kind,h.kind0,by have:=h.depth;lia,by have:=h.units;lia,h.kept,h.names,h.cells,h.lam⟩
noncomputable def Dl(H:HP)(c:Cx)(m mc:bG)(x:Str)(r:Value):Prop:=
 (c.sc.names.lookup x=some .local∧m x=some r)∨(c.sc.names.lookup x=some .cell∧(∃a,c.cl.lookup x=some a)∧mc x=some r)∨
  (c.sc.names.lookup x=some .free∧(x==("__classdict__":Str))=false∧∃a o,c.cl.lookup x=some a∧H a o∧o.data=.cell (some r))
noncomputable def iC(P:Pm)(H:HP)(ρ:List Addr)(c:Cx)(fm:List (Str×V))(m mc:bG):Prop:=
 ∀x v,lk x fm=some v→(x==("__debug__":Str))=false∧∃r,Dl H c m mc x r∧ag P H ρ v r
theorem iC.mono{P:Pm}{H H':HP}{ρ ρ':List Addr}{c:Cx}{fm:List (Str×V)}{m mc:bG}(F:iC P H ρ c fm m mc)(hH:∀a o,H a o→H' a o)(hρ:bN ρ ρ'):iC P H' ρ' c fm m mc:=
 fun x v e=>let ⟨b,r,k,d⟩:=F x v e;⟨b,r,k.imp id fun k=>k.imp id fun⟨h1,h2,a,o,h3,h4,h5⟩=>⟨h1,h2,a,o,h3,hH _ _ h4,h5⟩,d.mono hH hρ⟩
noncomputable abbrev dC(v:Option Value):Fp:=gi fun o=>o.data=.cell v
noncomputable def aC(cs:List (Str×Addr))(mc:bG):aJ:=cs.map fun p=>(p.2,dC (mc p.1))
structure cy(φ:Fp):Prop where
 nf:∀H o,φ.φ H o→∀vs,o.data≠.fields vs
 dat:∀H H' o o',o'.data=o.data→φ.φ H o→φ.φ H' o'
noncomputable def JF(oc:Obj)(qual:Str):Prop:=∃vs t,oc.data=.fields vs∧vs[1]?=some (.str qual t)
noncomputable def wD(l:xh):Fp where
 φ H o:=∃ps,o={cls:=.none,data:=.fields ps}∧TriplesOk ps.toList∧∀pos:Pos,pos.line=l.line→pos.col=l.col→(codeAmong pos ps.toList=none∨∃c oc,codeAmong pos ps.toList=some (.ref c)∧H c oc∧JF oc l.qual)
 cut:=fun k ⟨ps,h1,h2,h3⟩=>⟨ps,h1,h2,fun pos a b=>(h3 pos a b).imp id fun⟨c,oc,g1,g2,g3⟩=>⟨c,oc,g1,k _ _ g2 (fun v q=>(let ⟨_,_,e,_⟩:=g3;by rw[e]at q;cases q)),g3⟩⟩
noncomputable def HQ:aJ:=iF.map fun l=>(l.P,wD l)
noncomputable def bH(outer:List Env)(frs:aJ):Prop:=(∀env∈outer,env.scope.kind≠.module∧∃L φ,env.frame=some L∧(L,φ)∈frs∧cy φ)∧∀p∈HQ,p∈frs
structure az(P:Pm)(base:Heap)(c:Cx)(H:HP)(ρ:List Addr)(σ:St)(frs:aJ)(h:Heap):Prop where
 inv:∃m mc,aM P base H ρ ((c.L,aK m)::(aC c.cs mc++frs)) σ.ob.tr h∧iC P H ρ c σ.fm m mc
 len:ρ.length=σ.ob.nx
 outer:bH c.outer frs
 self:c.L0=c.L∨∃φ,(c.L0,φ)∈frs∧cy φ
structure aH(base:Heap)(H:HP)(ρ:List Addr)(s:Shared)(H':HP)(ρ':List Addr)(s':Shared):Prop where
 le:∀a o,H a o→H' a o
 new:∀a o,H' a o→H a o∨base.get? a=none
 grows:bN ρ ρ'
 gens:s'.gens=s.gens
 drawn:s'.drawn=s.drawn
 os:s'.os=s.os
theorem aH.refl{base:Heap}{H:HP}{ρ:List Addr}{s:Shared}:aH base H ρ s H ρ s:=⟨fun _ _ e=>e,fun _ _ e=>.inl e,.refl,rfl,rfl,rfl⟩
theorem aH.trans{base:Heap}{H H' H'':HP}{ρ ρ' ρ'':List Addr}{s s' s'':Shared}(x:aH base H ρ s H' ρ' s')(y:aH base H' ρ' s' H'' ρ'' s''):aH base H ρ s H'' ρ'' s'':=
 ⟨fun a o e=>y.le a o (x.le a o e),fun a o e=>(y.new a o e).elim (x.new a o) .inr,x.grows.trans y.grows,y.gens.trans x.gens,y.drawn.trans x.drawn,y.os.trans x.os⟩
theorem aH.toks{base:Heap}{H:HP}{ρ:List Addr}{s:Shared}{tk:Nat}:aH base H ρ s H ρ {s with toks:=tk}:=⟨fun _ _ e=>e,fun _ _ e=>.inl e,.refl,rfl,rfl,rfl⟩
theorem aH.heap{base:Heap}{H:HP}{ρ:List Addr}{s:Shared}{h:Heap}{tk:Nat}:aH base H ρ s H ρ {s with heap:=h,toks:=tk}:=⟨fun _ _ e=>e,fun _ _ e=>.inl e,.refl,rfl,rfl,rfl⟩
noncomputable def xt(base:Heap)(R:Addr→Prop)(l:List Env)(e:Addr)(h:Heap):Prop:=
  ∃ C a0,R C∧Heap.StaysIn base h∧base.get? e=none∧h.FunFrames base l∧
    ((∃oe vs,h.get? e=some oe∧oe.cls=.ref C∧oe.data=.fields vs∧vs[0]?=some a0∧vs[1]?=some .none)∨h.TracedW base e (.ref C) a0)
noncomputable def cH(base:Heap)(R:Addr→Prop)(l:List Env)(frs:aJ)(H:HP)(e:Addr)(h:Heap):Prop:=
  ∃ B H₁,base.StaysIn B∧(∀a o,H a o→H₁ a o)∧(∀a o,H₁ a o→H a o∨base.get? a=none)∧(∀a o,H₁ a o→B.get? a=some o)∧
    (∀p∈frs,((∃o,B.get? p.1=some o∧p.2.φ H₁ o)∨cy p.2∧∃o,h.get? p.1=some o∧p.2.φ H₁ o)∧∀o,¬H₁ p.1 o)∧xt B R l e h
theorem cH.sub{base:Heap}{R:Addr→Prop}{l:List Env}{frs frs':aJ}{H:HP}{e:Addr}{h:Heap}(k:∀p∈frs,p∈frs')(t:cH base R l frs' H e h):cH base R l frs H e h:=by obtain⟨B,H₁,a,b,c,d,f,t⟩:=t;exact⟨B,H₁,a,b,c,d,fun p hp=>f p (k p hp),t⟩
noncomputable abbrev pm(w:World)(T:Nat→V):Pm:=⟨w.params,T⟩
noncomputable def eB(base:Heap)(R:Addr→Prop)(c:Cx)(frs:aJ)(H:HP)(s:Shared)(EE:Value→Shared→Prop):Prop:=
 ∀e s',s'.gens=s.gens→s'.drawn=s.drawn→s'.os=s.os→cH base R (c.fenv::c.outer) frs H e s'.heap→EE (.ref e) s'
theorem cH.back{base:Heap}{R:Addr→Prop}{l:List Env}{frs:aJ}{H H':HP}{ρ ρ':List Addr}{s s':Shared}{e:Addr}{h:Heap}(t:cH base R l frs H' e h)(x:aH base H ρ s H' ρ' s'):cH base R l frs H e h:=by
 refine KA t fun B H₁ t1 t2 t3 t4=>?_
 exact⟨B,H₁,t1,fun a o e=>t2 a o (x.le a o e),fun a o e=>(t3 a o e).elim (x.new a o) .inr,t4⟩
theorem eB.later{base:Heap}{R:Addr→Prop}{c:Cx}{frs:aJ}{s s':Shared}{EE:Value→Shared→Prop}{H H':HP}{ρ ρ':List Addr}(x:eB base R c frs H s EE)(l:aH base H ρ s H' ρ' s'):eB base R c frs H' s' EE:=
 fun e s'' a b d t=>x e s'' (a.trans l.gens) (b.trans l.drawn) (d.trans l.os) (t.back l)
theorem eB.sub{base:Heap}{R:Addr→Prop}{c:Cx}{frs frs':aJ}{H:HP}{s:Shared}{EE:Value→Shared→Prop}(x:eB base R c frs H s EE)(k:∀p∈frs,p∈frs'):eB base R c frs' H s EE:=
 fun e s'' a b d t=>x e s'' a b d (t.sub k)
structure eY(prog:Program)(w:World)(base:Heap)(R:Addr→Prop)(c:Cx)(frs:aJ)(H:HP)(s:Shared)(EE:Value→Shared→Prop):Prop where
 takes:eB base R c frs H s EE
 passes:PassesOwn (model prog w) c.A c.env EE
theorem eY.later{prog:Program}{w:World}{base:Heap}{R:Addr→Prop}{c:Cx}{frs:aJ}{s s':Shared}{EE:Value→Shared→Prop}{H H':HP}{ρ ρ':List Addr}(x:eY prog w base R c frs H s EE)(l:aH base H ρ s H' ρ' s'):eY prog w base R c frs H' s' EE:=
 ⟨x.takes.later l,x.passes⟩
theorem eY.sub{prog:Program}{w:World}{base:Heap}{R:Addr→Prop}{c:Cx}{frs frs':aJ}{s:Shared}{EE:Value→Shared→Prop}{H:HP}(x:eY prog w base R c frs H s EE)(k:∀p∈frs,p∈frs'):eY prog w base R c frs' H s EE:=
 ⟨x.takes.sub k,x.passes⟩
theorem eY.more{prog:Program}{w:World}{base:Heap}{R:Addr→Prop}{c:Cx}{frs:aJ}{s:Shared}{EE:Value→Shared→Prop}{H:HP}{p:Addr×Fp}(x:eY prog w base R c frs H s EE):eY prog w base R c (p::frs) H s EE:=x.sub fun _ h=>.tail _ h
inductive oG(P:Pm)(H:HP)(ρ:List Addr):Fl→Flow→Prop
 |next:oG P H ρ .next .next
 |brk:oG P H ρ .brk .brk
 |cont:oG P H ρ .cont .cont
 |ret {v r}:ag P H ρ v r→oG P H ρ (.ret v) (.ret r)
noncomputable def jA(Q:Value→Shared→Prop)(EE:Value→Shared→Prop):Result→Shared→Prop:=fun r s'=>match r with
 |.ok (.ret v)=>Q v s'
 |.ok _=>False
 |.error e=>EE e s'
noncomputable def c6(prog:Program)(w:World)(T:Nat→V)(base:Heap)(a:Addr)(m:Nat)(S:bf):Prop:=
  ∀ (B:Heap) (cx:Cx) (R:Addr→Prop) as ras KV H frs s Q' EE,(∀b o,base.get? b=some o→B.get? b=some o)→cx.Ok m→S as KV R→aM (pm w T) B H [] frs .nil s.heap→bH (cx.fenv::cx.outer) frs→eB B R cx frs H s EE→ai (pm w T) H [] as ras→
    (∀v r ob' H' ρ' s',aM (pm w T) B H' ρ' frs ob' s'.heap→aH B H [] s H' ρ' s'→ag (pm w T) H' [] v r→KV v→Q' r s')→codeAny (model prog w) cx.A (.call (.ref a) ⟨ras,[]⟩) (jA Q' EE) s
noncomputable def xQ(prog:Program)(w:World)(T:Nat→V)(base:Heap)(n:Nat)(a:Addr)(as:List V)(ob:aR)(Q:V→aR→Prop):Prop:=∃m Sp p,m≤n∧c6 prog w T base a m Sp∧d7 (freeze 12) ob as=some p∧bb (ph 14) p.1=true∧Sp p.1 (fun v=>Q v p.2) (fun C=>bP (Nat.beq C 83) (Q .none p.2))
section
variable (prog:Program)(w:World)(T:Nat→V)(base:Heap)(R:Addr→Prop)
noncomputable abbrev c5(c:Cx)(frs:aJ)(H:HP)(ρ:List Addr)(s:Shared)(Q:V→St→Prop)(Q':Value→Shared→Prop):Prop:=
 ∀v r σ' H' ρ' s',az (pm w T) base c H' ρ' σ' frs s'.heap→aH base H ρ s H' ρ' s'→ag (pm w T) H' ρ' v r→Q v σ'→Q' r s'
noncomputable abbrev JA(c:Cx)(frs:aJ)(H:HP)(ρ:List Addr)(s:Shared)(Q:List V→St→Prop)(Q':List Value→Shared→Prop):Prop:=
 ∀v r σ' H' ρ' s',az (pm w T) base c H' ρ' σ' frs s'.heap→aH base H ρ s H' ρ' s'→ai (pm w T) H' ρ' v r→Q v σ'→Q' r s'
noncomputable abbrev C8(c:Cx)(frs:aJ)(H:HP)(ρ:List Addr)(s:Shared)(Q:Bool→St→Prop)(Q':Bool→Shared→Prop):Prop:=
 ∀b σ' H' ρ' s',az (pm w T) base c H' ρ' σ' frs s'.heap→aH base H ρ s H' ρ' s'→Q b σ'→Q' b s'
noncomputable abbrev jg(c:Cx)(frs:aJ)(H:HP)(ρ:List Addr)(s:Shared)(Q:Fl→St→Prop)(Q':Flow→Shared→Prop):Prop:=
 ∀f r σ' H' ρ' s',az (pm w T) base c H' ρ' σ' frs s'.heap→aH base H ρ s H' ρ' s'→oG (pm w T) H' ρ' f r→Q f σ'→Q' r s'
structure de(E:Ev)(n:Nat):Prop where
 ex:∀(c:Cx) e σ Q,c.Ok n→(E.ex e c.sc).run σ Q→∀H ρ frs s Q' EE,az (pm w T) base c H ρ σ frs s.heap→eY prog w base R c frs H s EE→c5 w T base c frs H ρ s Q Q'→wpAny (model prog w) c.A (eval e c.env) Q' EE s
 ex0:∀(c:Cx) e σ Q,c.Ok n→(E.ex0 e c.sc).run σ Q→∀H ρ frs s Q' EE,az (pm w T) base c H ρ σ frs s.heap→c5 w T base c frs H ρ s Q Q'→wpAny (model prog w) c.A (eval e c.env) Q' EE s
 tr:∀(c:Cx) e σ Q,c.Ok n→(E.tr e c.sc).run σ Q→∀whole H ρ frs s Q' EE,(whole=eval e c.env∨∃op l p,e=.BoolOp op l p)→az (pm w T) base c H ρ σ frs s.heap→eY prog w base R c frs H s EE→C8 w T base c frs H ρ s Q Q'→
  wpAny (model prog w) c.A (PySem.isTrue e c.env whole) Q' EE s
 es:∀(c:Cx) l σ Q,c.Ok n→(E.es l c.sc).run σ Q→∀pos H ρ frs s Q' EE,az (pm w T) base c H ρ σ frs s.heap→eY prog w base R c frs H s EE→JA w T base c frs H ρ s Q Q'→
  wpAny (model prog w) c.A (spliced (backTo pos (starEach l c.env))) Q' EE s
 ss:∀(c:Cx) l σ Q,c.Ok n→(E.ss l c.sc).run σ Q→∀H ρ frs s Q' EE,az (pm w T) base c H ρ σ frs s.heap→eY prog w base R c frs H s EE→jg w T base c frs H ρ s Q Q'→wpAny (model prog w) c.A (execs l c.env) Q' EE s
 call:∀(c:Cx) f as fm ob Q,c.Ok n→E.call f as ob Q→∀H ρ frs s Q' EE rf ras,az (pm w T) base c H ρ ⟨fm,ob⟩ frs s.heap→eB base R c frs H s EE→ag (pm w T) H ρ f rf→ai (pm w T) H ρ as ras→
  c5 w T base c frs H ρ s (fun v σ=>Q v σ.ob∧σ.fm=fm) Q'→wpAny (model prog w) c.A (PySem.call rf ras) Q' EE s
 code:∀(c:Cx) a as fm ob Q,c.Ok n→E.call (.glob a) as ob Q→∀H ρ frs s Q' EE ras,az (pm w T) base c H ρ ⟨fm,ob⟩ frs s.heap→eB base R c frs H s EE→ai (pm w T) H ρ as ras→
  c5 w T base c frs H ρ s (fun v σ=>Q v σ.ob∧σ.fm=fm) Q'→codeAny (model prog w) c.A (.call (.ref a) ⟨ras,[]⟩) (jA Q' EE) s
 heard:∀a as ob Q,E.heard a as ob Q→xQ prog w T base n a as ob Q
end
end
section
inductive fw(P:Pm)(H:HP)(ρ:List Addr):List (Str×V)→List (Str×Value)→Prop
 |nil:fw P H ρ [] []
 |cons {x v r fm bs}:ag P H ρ v r→fw P H ρ fm bs→fw P H ρ ((x,v)::fm) ((x,r)::bs)
theorem fw.names{P:Pm}{H:HP}{ρ:List Addr}{fm:List (Str×V)}{bs:List (Str×Value)}(h:fw P H ρ fm bs):fm.map (·.1)=bs.map (·.1):=by
 induction h with
 |nil=>rfl
 |cons _ _ ih=>rw[List.map_cons,List.map_cons,ih]
theorem fw.look{P:Pm}{H:HP}{ρ:List Addr}{x:Str}{v:V}{fm:List (Str×V)}{bs:List (Str×Value)}(h:fw P H ρ fm bs):fm.lookup x=some v→∃r,bs.lookup x=some r∧ag P H ρ v r:=by
  induction h with
  |nil=>intro e;cases e
  | @cons y _ r _ _ a _ ih=>
    rw[List.lookup_cons,List.lookup_cons]
    cases x==y with
    |true=>exact fun e=>⟨r,rfl,ae e▸a⟩
    |false=>exact ih
theorem bD{α β:Type}[BEq α][LawfulBEq α]{x:α}{v:β}{l:List (α×β)}:l.lookup x=some v→(x,v)∈l:=by
  induction l with
  |nil=>intro e;cases e
  | cons p l ih=>
    show(match x==p.1 with|true=>some p.2|false=>l.lookup x)=some v→_
    cases h:x==p.1 with
    |true=>exact fun e=>List.mem_cons.mpr (.inl (by rw[eq_of_beq h,←ae e]))
    |false=>exact fun e=>.tail _ (ih e)
structure OU where
 name:Str
 qual:Str
 params:Arguments
 doc:Value
 pm:Value
 an:Option Addr
 dV:Value
 kV:Value
 cdv:Value
 ct:Value
 oc:Value
 od:Option Addr
 osl:Array (Option Value)
noncomputable abbrev OU.fn(Z:OU)(i:af):FuncData:=fnX Z.name Z.qual Z.params i.body i.sc [] Z.dV Z.kV Z.doc Z.pm Z.an Z.cdv Z.ct
structure yR(K:Frag)(a:Addr)(i:af):Prop where
 obj:∃Z:OU,K.lookup a=some ⟨Z.oc,Z.od,.func (Z.fn i),Z.osl⟩∧codeIn K Z.cdv Z.qual=true∧
  (∀s as ras fm P H ρ,K.In s.heap→iQ i.ps as i.ds=some fm→ai P H ρ as ras→∃bs,BindsTo s (Z.fn i) ⟨ras,[]⟩ bs∧fw P H ρ fm bs)∧
  ∀l∈iF,i.sc.names.lookup l.key=some .cell→Z.cdv=.ref l.code∧Z.qual=l.fn
 apart:((cellsFrom 0 i.sc.names []).map (·.1)).Nodup
 co:i.sc.isCoroutine=false
 gen:i.sc.isGenerator=false
 kind:i.sc.kind=.function
 locs:∀x∈i.ps,(i.sc.names.lookup x=some .local∨(i.sc.names.lookup x=some .cell∧∀n,((cellsFrom n i.sc.names []).lookup x).isSome=true))∧(x==("__debug__":Str))=false
 nodup:i.ps.Nodup
theorem kR(ps:List Str):∀{as ds:List V} {fm:List (Str×V)},iQ ps as ds=some fm→fm.map (·.1)=ps:=by
  induction ps with
  |nil=>exact fun e=>bQ e fun _ e=>ae e▸rfl
  | cons x xs ih=>
    intro as ds fm e
    cases as with
    |nil=>exact au (o:=O8 _) e fun d _ e=>bQ e fun _ e=>au e fun r er e=>by rw[←ae e,List.map_cons,ih er]
    |cons v vs=>exact au (o:=iQ xs vs ds) e fun r er e=>by rw[←ae e,List.map_cons,ih er]
structure Eg(K:Frag)(C:Addr)(name:Str):Prop where
 get:plainGet K C name=true
 dict:hasDictIn K C=true
 attr:∃a,findIn K (.ref C) name=some a∧noGet K a=true
 set:findIn K (.ref C) "__setattr__"=some (some (.builtin "object.__setattr__"))
 over:plainOver K C=true
 taker:takerIn K C name=some none
structure tZ(K:Frag)(C:Addr)(name:Str)(f:Addr):Prop where
 get:plainGet K C name=true
 attr:findIn K (.ref C) name=some (some (.ref f))
 fn:typeIn K (.ref f)=some (.type "function")
structure uW(K:Frag)(C:Addr)(name:Str)(f:Addr):Prop where
 get:specialIn K (.ref C) "__getattribute__"=some (some (.builtin "type.__getattribute__"))
 attr:∃mc,readsIn K C mc=true∧findCls K (.ref C) mc name=some (.val (.ref f))
structure uB(K:Frag)(C:Addr)(f:Addr):Prop where
 makes:makesIn K C=true
 init:findIn K (.ref C) "__init__"=some (some (.ref f))
 fn:typeIn K (.ref f)=some (.type "function")
noncomputable abbrev dT(C t d:Addr):Obj:={cls:=.ref C,dict:=some d,data:=.fields #[.ref t,.none,.none,.none,.bool false,.none]}
structure OR where
 nm:Str
 q:Str
 N:Addr
 bs:List Value
 bm:List Value
 hdct:Bool
 sn:List Str
 sub:List Value
 ab:Bool
 col:Option Bool
 dd:Option Addr
 k0:Option Value
 k1:Option Value
 k2:Option Value
 k3:Option Value
 k5:Option Value
 newId:String
noncomputable abbrev OR.obj(P:OR)(C:Addr):Obj:=excClassObj P.nm P.q C P.N P.bs P.bm P.hdct P.sn P.sub P.ab P.col P.dd P.k0 P.k1 P.k2 P.k3 P.k5 P.newId
structure Dy(prog:Program)(w:World)(base:Heap)(K:Frag)(C:Addr):Prop where
 cls:∃P:OR,base.get? C=some (P.obj C)∧P.bm.contains (.type "BaseException")=true
 keep:keepIn K (.ref C)=true
 make:∀(A:Around) (l:List Env) (x:Str) (t:Tok) (s:Shared) (Q:Value→Shared→Prop) (EE:Value→Shared→Prop),(∀b o,base.get? b=some o→s.heap.get? b=some o)→A.frames=some l→A.handled=none→A.depth+8 < recursionLimit→A.units+128 < cLine→PyData.strOk x=true→
  (∀e t' d h' tk,h'.get? e=some (dT C t' d)→s.heap.get? e=none→(∀b o,s.heap.get? b=some o→h'.get? b=some o)→Q (.ref e) {s with heap:=h',toks:=tk})→wpAny (model prog w) A (call (.ref C) [.str x t]) Q EE s
theorem Dy.mono{prog:Program}{w:World}{base B:Heap}{K:Frag}{C:Addr}(k:∀b o,base.get? b=some o→B.get? b=some o)(x:Dy prog w base K C):Dy prog w B K C:=
 ⟨by
  refine aq x.cls fun P e r=>?_
  exact⟨P,k _ _ e,r⟩,x.keep,fun A l y t s Q EE k'=>x.make A l y t s Q EE fun b o e=>k' b o (k b o e)⟩
structure Mu(T:Nat→V)(c:ck)(k:Nat)(C:Addr):Prop where
 inst:∃fs,T k=.inst C fs∧∀name f,c.CM C name=some (.fn f)→lk name fs=none
theorem c6.mono{prog:Program}{w:World}{T:Nat→V}{base B:Heap}{a:Addr}{m:Nat}{S:bf}(k:∀b o,base.get? b=some o→B.get? b=some o)(x:c6 prog w T base a m S):c6 prog w T B a m S:=
 fun B' cx R as ras KV H frs s Q' EE k'=>x B' cx R as ras KV H frs s Q' EE fun b o e=>k' b o (k b o e)
structure w4(i:af):Prop where
 ps:i.ps=[("ask":Str)]
 ds:i.ds=[]
 body:∃p1 p2 p3 p4 k p5 p6 p7 p8,i.body=[.Try [.Return (some (.Call (.Name "ask" p1) [] [] p2)) p3] [.ExceptHandler (some (.Name "DecodeError" p4)) none [.Return (some (.Constant .none k p5)) p6] p7] [] [] p8]
 exc:i.sc.names.lookup ("DecodeError":Str)=some .globalImplicit
 ask:i.sc.names.lookup ("ask":Str)=some .local
structure aI(prog:Program)(w:World)(T:Nat→V)(c:ck)(K:Frag)(base:Heap):Prop where
 kin:K.In base
 g:∃mg mb,base.Ns mainGlobals mg∧base.Ns builtinsNs mb∧∀x v,c.G x=some v→∃r,(∀P H ρ,ag P H ρ v r)∧(mg x=some r∨(mg x=none∧mb x=some r))
 nolimit:base.NoLimit
 fi:∀a i,c.FI a=some i→yR K a i
 keep:∀a,(c.FI a).isSome=true∨(c.C a).isSome=true∨(c.CI a).isSome=true→keepIn K (.ref a)=true
 cm:∀C name x,c.CM C name=some x→match x with|.own=>Eg K C name|.fn f=>tZ K C name f
 cs:∀C name f,c.CS C name=some f→uW K C name f
 ci:∀C f,c.CI C=some f→uB K C f
 named:∀k H ρ r,ag (pm w T) H ρ (T k) r→ag (pm w T) H [] (T k) r
 spec:∀a m S,c.C a=some (m,S)→c6 prog w T base a m S
 xc:∀x C,c.X x=some C→Dy prog w base K C
 nm:∀k C,c.NM k=some C→Mu T c k C
 low:∃o,base.get? sysModules=some o
 lamP:∀l∈iF,CodeHd base l.code l.P
 bm:∃mg bm ob,base.Ns mainGlobals mg∧mg "__builtins__"=some (.ref bm)∧bm≠builtinsNs∧base.get? bm=some ob∧ob.cls=.type "module"∧ob.dict=some builtinsNs∧ob.data=.plain
 heard:∃i,c.FI 1183=some i∧w4 i
 exc:c.X "DecodeError"=some 83∧c.G "DecodeError"=some (.glob 83)
theorem aI.mono{prog:Program}{w:World}{T:Nat→V}{c:ck}{K:Frag}{base B:Heap}(k:∀b o,base.get? b=some o→B.get? b=some o)(x:aI prog w T c K base):aI prog w T c K B:=
 ⟨fun a o e=>k _ _ (x.kin a o e),let ⟨mg,mb,h1,h2,h3⟩:=x.g;⟨mg,mb,h1.keeps k,h2.keeps k,h3⟩,x.nolimit.keeps k,x.fi,x.keep,x.cm,x.cs,x.ci,x.named,fun a m S e=>(x.spec a m S e).mono k,fun x' C e=>(x.xc x' C e).mono k,x.nm,(let ⟨o,e⟩:=x.low;⟨o,k _ _ e⟩),fun l hl=>(x.lamP l hl).keeps k,(let ⟨mg,bm,ob,h1,h2,h3,h4,h5⟩:=x.bm;⟨mg,bm,ob,h1.keeps k,h2,h3,k _ _ h4,h5⟩),x.heard,x.exc⟩
section
variable {prog:Program}{w:World}{T:Nat→V}{base:Heap}{c:ck}{K:Frag}{E:Ev}{n:Nat}
theorem az.ns{P:Pm}{cx:Cx}{H:HP}{ρ:List Addr}{σ:St}{frs:aJ}{h:Heap}(N:az P base cx H ρ σ frs h):∃m mc,aM P base H ρ ((cx.L,aK m)::(aC cx.cs mc++frs)) σ.ob.tr h∧iC P H ρ cx σ.fm m mc∧h.Ns cx.L m:=
 let ⟨m,mc,I,F⟩:=N.inv;⟨m,mc,I,F,cw.mp (I.frNs _ (.head _))⟩
theorem az.keep{P:Pm}{cx:Cx}{H:HP}{ρ:List Addr}{σ:St}{frs:aJ}{h:Heap}(N:az P base cx H ρ σ frs h):∀b o,base.get? b=some o→h.get? b=some o:=
 let ⟨_,_,I,_⟩:=N.inv;I.keep
theorem az.heap{P:Pm}{cx:Cx}{H:HP}{ρ:List Addr}{σ:St}{frs:aJ}{h h':Heap}(N:az P base cx H ρ σ frs h)(k:∀b o,h.get? b=some o→h'.get? b=some o):az P base cx H ρ σ frs h':=
 ⟨let ⟨m,mc,I,F⟩:=N.inv;⟨m,mc,I.keeps k,F⟩,N.len,N.outer,N.self⟩
theorem az.push{P:Pm}{cx:Cx}{H:HP}{ρ:List Addr}{σ:St}{frs:aJ}{h:Heap}(N:az P base cx H ρ σ frs h)(o:Obj)(hf:o.isFreed=false:=by rfl):az P base cx (H.and h.objs.size o) ρ σ frs (h.push o):=
 ⟨let ⟨m,mc,I,F⟩:=N.inv;⟨m,mc,I.push o hf,F.mono HP.le .refl⟩,N.len,N.outer,N.self⟩
theorem az.later{P:Pm}{cx:Cx}{H:HP}{ρ:List Addr}{σ:St}{frs:aJ}{s:Shared}(N:az P base cx H ρ σ frs s.heap)(o:Obj){tk:Nat}:aH base H ρ s (H.and s.heap.objs.size o) ρ {s with heap:=s.heap.push o,toks:=tk}:=
 ⟨HP.le,fun a y e=>e.elim .inl fun⟨e,_⟩=>.inr (e▸(let ⟨_,_,I,_⟩:=N.inv;I.topNew)),.refl,rfl,rfl,rfl⟩
theorem OZ{x:Str}(h:bW (aE x "__debug__")=true):(x==("__debug__":Str))=false:=by rw[←cA];exact bS h
theorem mi{sc:Scope}{x:Str}(h:bB sc x=true):(sc.names.lookup x=some .local∨sc.names.lookup x=some .cell)∧(x==("__debug__":Str))=false:=by
 refine jI h fun k e h=>?_
 rw[eH]at e
 cases k with
 |«local»=>exact⟨.inl e,OZ h⟩
 |cell=>exact⟨.inr e,OZ h⟩
 |_=>cases h
theorem gU{k:Option NameKind}(h:l9 k=true):k=some .local:=by
 refine jI h fun k e h=>?_
 cases k with
 |«local»=>exact e
 |_=>cases h
theorem hO{k:Option NameKind}(h:jO k=true):k=some .cell:=by
 refine jI h fun k e h=>?_
 cases k with
 |cell=>exact e
 |_=>cases h
theorem mO{k:Option NameKind}(h:jj k=true):k=some .free:=by
 refine jI h fun k e h=>?_
 cases k with
 |free=>exact e
 |_=>cases h
theorem z9{sc:Scope}{x:Str}(h:iU sc x=true):sc.names.lookup x=some .local∧(x==("__debug__":Str))=false:=by
 refine a7 (d3 h) fun a b=>?_
 exact⟨by rw[←eH];exact gU a,OZ b⟩
theorem hB{sc:Scope}{x:Str}(h:cq sc x=true):sc.names.lookup x=some .globalImplicit∧(x==("__debug__":Str))=false:=by
 refine jI h fun k e h=>?_
 rw[eH]at e
 cases k with
 |globalImplicit=>exact⟨e,OZ h⟩
 |_=>cases h
theorem Dm{P:Pm}{H:HP}{ρ:List Addr}{v:V}{r:Value}{p:Bool×Bool}{A:Around}{s:Shared}{Q:Bool→Shared→Prop}{EE:Value→Shared→Prop}
  (h:uc v=some p) (hv:ag P H ρ v r) (q:Q p.2 s):wpAny (model prog w) A (truthy r) Q EE s:=by
 cases v with
 |none=>rw[←ae h]at q;exact hv.none' fun e=>by rw[e];with_reducible exact truthy_none q
 |bool k b=>rw[←ae h]at q;exact hv.bool' fun e=>by rw[e];with_reducible exact wpAny_truthy_bool q
 |int k x=>rw[←ae h]at q;exact hv.int' fun t e=>by rw[e];with_reducible exact truthy_int q
 |_=>cases h
theorem Ee{P:Pm}{H:HP}{ρ:List Addr}{v:V}{r:Value}{p:Bool×Bool}(h:uc v=some p)(hv:ag P H ρ v r):ag P H ρ (rQ v p.2) r:=by
 cases v with
 |bool k b=>rw[←ae h];exact hv.bool' fun e=>e▸.bool
 |_=>exact hv
theorem ij{cx:Cx}{H:HP}{ρ:List Addr}{frs:aJ}{s:Shared}{σ:St}{v:V}{r:Value}{Kq:Bool→St→Prop}{Q:Bool→Shared→Prop}{EE:Value→Shared→Prop}(N:az (pm w T) base cx H ρ σ frs s.heap)(hv:ag (pm w T) H ρ v r)
  (h:c8 v σ Kq) (a:∀b,(ag (pm w T) H ρ (rQ v b) r)→Kq b σ→Q b s):wpAny (model prog w) cx.A (truthy r) Q EE s:=
 aB h fun p e h=>Dm e hv (a p.2 (Ee e hv) (by have h:=pb h;cases q:p.2 <;> (rw[q]at h;exact h)))
theorem dN{cx:Cx}{H:HP}{ρ:List Addr}{frs:aJ}{s:Shared}{σ:St}{v:V}{r:Value}{Kq:Bool→St→Prop}{Q:Bool→Shared→Prop}{EE:Value→Shared→Prop}(N:az (pm w T) base cx H ρ σ frs s.heap)(hv:ag (pm w T) H ρ v r)
  (h:c8 v σ Kq) (a:C8 w T base cx frs H ρ s Kq Q):wpAny (model prog w) cx.A (truthy r) Q EE s:=ij N hv h fun b _ h=>a b σ H ρ s N .refl h
theorem dp(e:Expr)(env:Env)(l:List Expr)(h:il e=false):starEach (e::l) env=(false,eval e env)::starEach l env:=
 Q1 (b:=il e) (by cases e <;> first|rfl|trivial) h
theorem aN{P:Pm}{H:HP}{ρ:List Addr}{vs:List V}{rs:List Value}(h:ai P H ρ vs rs):vs.length=rs.length:=
 ai.ind (M:=fun vs rs=>vs.length=rs.length) rfl (fun _ _ _ _ _ _ ih=>congrArg (·+1) ih) h
theorem va{cx:Cx}{H:HP}{ρ:List Addr}{frs:aJ}{s:Shared}{σ:St}{x:O}{o:Obj}{Q:V→St→Prop}(N:az (pm w T) base cx H ρ σ frs s.heap)
  (hx:cX (pm w T) H (ρ++[s.heap.objs.size]) (s.heap.push o) s.heap.objs.size x) (h:bo σ.ob x fun v ob'=>Q v ⟨σ.fm,ob'⟩) (hf:o.isFreed=false:=by rfl) :
  ∃v σ',az (pm w T) base cx H (ρ++[s.heap.objs.size]) σ' frs (s.heap.push o)∧ag (pm w T) H (ρ++[s.heap.objs.size]) v (.ref s.heap.objs.size)∧Q v σ':=by
 refine aB h fun y e h=>?_
 refine aW N.inv fun m mc I F=>?_
 refine⟨_,⟨σ.fm,⟨σ.ob.tr.ins σ.ob.nx x,σ.ob.nx+1⟩⟩,⟨⟨m,mc,I.alloc ?_ hx hf,F.mono (fun _ _ e=>e) .more⟩,by rw[List.length_append,←N.len];rfl,N.outer,N.self⟩,.ref ?_,h⟩
 ·rw[N.len]
  exact Tr.get_ins x σ.ob.tr σ.ob.nx (by rw[e];rfl)
 ·rw[←N.len];exact List.getElem?_concat_length
theorem fS{cx:Cx}{H:HP}{ρ:List Addr}{frs:aJ}{s:Shared}{σ:St}{vs:List V}{rs:List Value}{Q:V→St→Prop}(N:az (pm w T) base cx H ρ σ frs s.heap)(hv:ai (pm w T) H ρ vs rs)
  (h:bo σ.ob (.list vs) fun v ob'=>Q v ⟨σ.fm,ob'⟩) :
  ∃v σ' H' ρ',az (pm w T) base cx H' ρ' σ' frs (s.heap.push (aA rs 0))∧aH base H ρ s H' ρ' {s with heap:=s.heap.push (aA rs 0)}∧ag (pm w T) H' ρ' v (.ref s.heap.objs.size)∧Q v σ':=by
 refine c9 (va N (o:=aA rs 0) (.list (Heap.get?_push_size _ rfl) (hv.mono (fun _ _ e=>e) .more)) h) fun v σ' N' R' h'=>?_
 exact⟨v,σ',H,_,N',⟨fun _ _ e=>e,fun _ _ e=>.inl e,.more,rfl,rfl,rfl⟩,R',h'⟩
theorem dH{e:Expr}(h:dj e=true):il e=false:=bS h
theorem hZ{pos:Pos}{env:Env}{as:List Expr}(h:bb dj as=true):(backTo pos (starEach as env)).any (·.1)=false:=by
  induction as with
  |nil=>rfl
  | cons e r ih=>
    refine a7 (a9 h) fun h1 h2=>?_
    rw[dp e env r (dH h1)]
    exact ih h2
noncomputable def Eu(K:Frag)(r:Value):Prop:=keepIn K r=true∨(∃s,r=.builtin s)∨∃s,r=.type s
theorem fL{M:Model}{r:Value}(k:Eu K r):∀h,K.In h→∃k,(k=Keeper.frame∨k=Keeper.machine∨k=Keeper.boundFrame)∧Looks M h (keeperOf r) k:=by
 rcases k with k|⟨s,rfl⟩|⟨s,rfl⟩
 ·exact keeps_K k
 ·exact fun h _=>⟨.machine,.inr (.inl rfl),Looks.of_pure rfl⟩
 ·exact fun h _=>⟨.machine,.inr (.inl rfl),Looks.of_pure rfl⟩
theorem D2(G:aI prog w T c K base){P:Pm}{H:HP}{ρ:List Addr}{g:V}{r:Value}(h:tM c g=true)(hv:ag P H ρ g r):Eu K r:=by
  cases g with
  | glob a=>
    refine hv.glob' fun e=>e▸.inl (G.keep _ ?_)
    exact cP h (fun _ e _=>.inl (by rw[e];rfl)) fun _ h=>cP h (fun _ e _=>.inr (.inl (by rw[e];rfl))) fun _ h=>cP h (fun _ e _=>.inr (.inr (by rw[e];rfl))) fun _ h=>Bool.noConfusion h
  |blt s=>exact hv.blt' fun e=>.inr (.inl ⟨_,e⟩)
  |typ s=>exact hv.typ' fun e=>.inr (.inr ⟨_,e⟩)
  |_=>cases h
theorem ie{P:Pm}{H:HP}{ρ:List Addr}{vs ws:List V}{rs ts:List Value}(a:ai P H ρ vs rs)(b:ai P H ρ ws ts):ai P H ρ (vs++ws) (rs++ts):=
 ai.ind (M:=fun vs rs=>ai P H ρ (vs++ws) (rs++ts)) b (fun _ _ _ _ x _ ih=>.cons x ih) a
theorem qK{α:Type}(l r:List α):bc l r=l++r:=by
 induction l with
 |nil=>rfl
 |cons x l ih=>exact congrArg (x::·) ih
theorem kL(G:aI prog w T c K base)(S:de prog w T base c.R E n){cx:Cx}{p:Pos}{as:List Expr}{σ:St}{Q:V→St→Prop}{H:HP}{ρ:List Addr}{frs:aJ}{s:Shared}{Q':Value→Shared→Prop}{EE:Value→Shared→Prop}(O:cx.Ok n)
    {g:V} {first:List V} {rg:Value} {rfirst:List Value} (ha:bb dj as=true) (hv:ag (pm w T) H ρ g rg) (hf:ai (pm w T) H ρ first rfirst)
    (h:qu c E g first (hV E as cx.sc) σ Q)
    (N:az (pm w T) base cx H ρ σ frs s.heap) (X:eY prog w base c.R cx frs H s EE) (a:c5 w T base cx frs H ρ s Q Q'):wpAny (model prog w) cx.A (callWith p rg rfirst (backTo p (starEach as cx.env)) []) Q' EE s:=by
  refine a8 h fun hg h=>?_
  refine callWith_of (P:=K.In) (by rw[hZ ha];rfl) (fL (D2 G hg hv)) ?_
  have main:∀vs rs σ₂ H₂ ρ₂ s₂,az (pm w T) base cx H₂ ρ₂ σ₂ frs s₂.heap→aH base H ρ s H₂ ρ₂ s₂→ai (pm w T) H₂ ρ₂ vs rs→(E.call g (bc first vs) σ₂.ob fun r ob=>Q r ⟨σ₂.fm,ob⟩)→
      K.In s₂.heap∧wpAny (model prog w) cx.A (call rg (rfirst++rs) []) Q' EE s₂:=fun vs rs σ₂ H₂ ρ₂ s₂ N₂ L₂ R₂ h₂=>by
    refine⟨G.kin.keeps N₂.keep,?_⟩
    refine S.call cx _ _ σ₂.fm _ _ O h₂ _ _ frs _ Q' EE _ _ N₂ (X.later L₂).takes (hv.mono L₂.le L₂.grows) (by rw[qK];exact ie (hf.mono L₂.le L₂.grows) R₂) fun v r σ₃ H₃ ρ₃ s₃ N₃ L₃ R₃ h₃=>?_
    refine a7 h₃ fun h₃ e=>?_
    exact a _ _ σ₃ _ _ _ N₃ (L₂.trans L₃) R₃ (by rw[←e]at h₃;exact h₃)
  cases as with
  |nil=>exact evalArgs_nil3 (main [] [] σ H ρ s N .refl .nil h)
  | cons e r=>
    have q:=S.es cx (e::r) σ _ O h p H ρ frs s (fun rs s₂=>K.In s₂.heap∧wpAny (model prog w) cx.A (call rg (rfirst++rs) []) Q' EE s₂) EE N X main
    rw[dp e cx.env r (dH (a9 ha).1)]at q ⊢
    exact evalArgs_plain q
theorem kq{h:Heap}{L:Addr}{m m':bG}(x:h.Ns L m)(y:h.Ns L m'):m=m':=by
 refine nT x fun o es ep h1 h2 _ h3=>?_
 refine nT y fun o' es' ep' g1 g2 _ g3=>?_
 rw[h1]at g1
 cases g1
 rw[h2]at g2
 cases g2
 funext z
 rw[←h3,←g3]
theorem gL{G:Prop}{P:Pm}{h:Heap}{frs:aJ}{H:HP}{ρ:List Addr}{ob:Tr}{v:V}{r:Value}{p:Bool×List V}(I:aM P base H ρ frs ob h)(hv:ag P H ρ v r)(e:jq ob v=some p)
  (g:∀a rs k,r=.ref a→h.get? a=some ⟨.type (if p.1 then "tuple" else "list"),none,.seq rs.toArray k,#[]⟩→ai P H ρ p.2 rs→G):G:=by
 refine cP e (fun vs e1 e=>hv.cT e1 fun _ _ a b er=>?_) fun _ e=>cP e (fun vs e1 e=>hv.cL e1 fun _ _ _ a b er=>?_) fun _ e=>au e fun i ei e=>hv.cR ei fun ad ha er=>cP e (fun vs eo e=>(I.at (iI eo) ha).list' fun _ _ a b=>?_)
  fun _ e=>au e fun u eo e=>au e fun vs ev e=>(I.at (Ag eo) ha).frz' fun a=>a.cL ev fun _ _ _ a b ea=>?_
 all_goals rw[←ae e]at g
 ·exact g _ _ _ er (I.frz _ _ a) b
 ·exact g _ _ _ er (I.frz _ _ a) b
 ·exact g _ _ _ er a b
 ·cases ea;exact g _ _ _ er (I.frz _ _ a) b
theorem AK{ob:Tr}{v:V}{vs:List V}(e:sI ob v=some vs):jq ob v=some (false,vs):=au e fun p ep e=>bQ e fun b e=>by rw[ep,←ae e,←bS b]
theorem jU{G:Prop}{P:Pm}{h:Heap}{frs:aJ}{H:HP}{ρ:List Addr}{ob:Tr}{v:V}{r:Value}{vs:List V}(I:aM P base H ρ frs ob h)(hv:ag P H ρ v r)(e:sI ob v=some vs)
  (g:∀a rs k,r=.ref a→h.get? a=some (aA rs k)→ai P H ρ vs rs→G):G:=gL I hv (AK e) g
theorem xb{G:Prop}{P:Pm}{h:Heap}{frs:aJ}{H:HP}{ρ:List Addr}{ob:Tr}{v:V}{r:Value}{p:Addr×List (Str×V)}(I:aM P base H ρ frs ob h)(hv:ag P H ρ v r)(e:w8 ob v=some p)
  (g:∀a dx es k,r=.ref a→W.InstAt h a (instObj p.1 dx) p.1 (some (dictOf es k))→bt P H ρ p.2 es→G):G:=by
 refine cP e (fun _ e1 e=>hv.cN e1 fun _ _ _ _ a b c er=>?_) fun _ e=>au e fun i ei e=>hv.cR ei fun ad ha er=>cP e (fun q eo e=>au e fun fs ef e=>(I.at (Kv eo) ha).inst' fun _ a b=>(I.at (Ht ef) b).ns' fun _ _ c d=>?_)
  fun _ e=>au e fun u eo e=>(I.at (Ag eo) ha).frz' fun a=>a.cN e fun _ _ _ _ a b c ea=>?_
 ·rw[←ae e]at g
  exact g _ _ _ _ er ⟨I.frz _ _ a,rfl,rfl,I.frz _ _ b⟩ c
 ·rw[←ae e]at g
  exact g _ _ _ _ er ⟨a,rfl,rfl,c⟩ d
 ·cases ea;exact g _ _ _ _ er ⟨I.frz _ _ a,rfl,rfl,I.frz _ _ b⟩ c
theorem sD{P:Pm}{H:HP}{ρ:List Addr}{fs:List (Str×V)}{es:List DictEntry}(h:bt P H ρ fs es):(es.any (·.refKey))=false:=
 bt.ind (M:=fun _ es=>(es.any (·.refKey))=false) rfl (fun _ _ _ _ _ _ _ ih=>ih) h
theorem sQ{y name:Str}{t:Tok}:(Value.str y t).isStr name=aE name y:=by
 show(y==name)=_
 rw[cA]
 by_cases q:y=name
 ·rw[q]
 ·rw[beq_eq_false_iff_ne.mpr q,beq_eq_false_iff_ne.mpr (Ne.symm q)]
theorem oh{P:Pm}{H:HP}{ρ:List Addr}{name:Str}{fs:List (Str×V)}{es:List DictEntry}(h:bt P H ρ fs es) :
  oX (lk name fs) (fun u=>∃e,es.find? (·.key.isStr name)=some e∧ag P H ρ u e.val) (es.find? (·.key.isStr name)=none):=by
 refine bt.ind (M:=fun fs es=>oX (lk name fs) (fun u=>∃e,es.find? (·.key.isStr name)=some e∧ag P H ρ u e.val) (es.find? (·.key.isStr name)=none)) rfl (fun p t r fs es a _ ih=>?_) h
 rw[List.find?_cons]
 show oX (bX (aE name p.1) (some p.2) (lk name fs)) _ _
 rw[show(DictEntry.key ⟨PyData.keyHash P.p p.1,.str p.1 t,r⟩).isStr name=aE name p.1 from sQ]
 cases aE name p.1 with
 |true=>exact⟨_,rfl,a⟩
 |false=>exact ih
theorem sq{P:Pm}{H:HP}{ρ:List Addr}{name:Str}{fs:List (Str×V)}{es:List DictEntry}{u:V}(x:bt P H ρ fs es)(e:lk name fs=some u):∃r,getL name es=some (some r)∧ag P H ρ u r:=by
 have z:=oh (name:=name) x
 rw[e]at z
 refine aq z fun en h1 h2=>?_
 exact⟨_,by unfold getL;rw[h1],h2⟩
theorem oU{P:Pm}{H:HP}{ρ:List Addr}{name:Str}{fs:List (Str×V)}{es:List DictEntry}(x:bt P H ρ fs es)(e:lk name fs=none):getL name es=some none:=by
 have z:=oh (name:=name) x
 rw[e]at z
 unfold getL
 rw[z,sD x];rfl
theorem yS{P:Pm}{H:HP}{ρ:List Addr}{name:Str}{fs:List (Str×V)}{es:List DictEntry}(x:bt P H ρ fs es):(getL name es).isSome=true:=by
 cases e:lk name fs with
 |some u=>obtain⟨r,h,_⟩:=sq x e;rw[h];rfl
 |none=>rw[oU x e];rfl
theorem D9{P:Pm}{H:HP}{ρ:List Addr}{name:Str}{t:Tok}{v:V}{r:Value}(hv:ag P H ρ v r){fs:List (Str×V)}{es:List DictEntry}(h:bt P H ρ fs es) :
  bt P H ρ (put name v fs) (putL name (PyData.keyHash P.p name) (.str name t) r es):=by
 refine bt.ind (M:=fun fs es=>bt P H ρ (put name v fs) (putL name (PyData.keyHash P.p name) (.str name t) r es)) (.cons hv .nil) (fun p t' r' fs es a b ih=>?_) h
 obtain⟨y,u⟩:=p
 unfold putL
 show bt P H ρ (bX (aE name y) ((y,v)::fs) ((y,u)::put name v fs)) (if(Value.str y t').isStr name then _ else _)
 rw[sQ]
 cases aE name y with
 |true=>exact .cons hv b
 |false=>exact .cons a ih
theorem Bb{P:Pm}{H:HP}{ρ:List Addr}{fs:List (Str×V)}{es:List DictEntry}(h:bt P H ρ fs es):es.length=fs.length:=
 bt.ind (M:=fun fs es=>es.length=fs.length) rfl (fun _ _ _ _ _ _ _ ih=>congrArg (·+1) ih) h
theorem yN{P:Pm}{H:HP}{ρ:List Addr}{u:V}{r:Value}(h:BX u=true)(hv:ag P H ρ u r):handedIn r=true:=by
 cases hv <;> first|rfl|cases h
theorem AI{o:Option bY}(h:Lj o=true):o=some .own:=by
 refine jI h fun a e h=>?_
 cases a with
 |own=>exact e
 |fn=>cases h
theorem EM{o:Option bY}{f:Addr}(h:Pg o=some f):o=some (.fn f):=by
 refine au h fun a e h=>?_
 cases a with
 |own=>cases h
 |fn=>rw[e,ae h]
theorem vr(G:aI prog w T c K base){cx:Cx}{H:HP}{ρ:List Addr}{frs:aJ}{σ:St}{s:Shared}{ov:V}{r:Value}{name:Str}{b:Bool}{Qv:V→St→Prop}{Q:Value→Shared→Prop}{EE:Value→Shared→Prop}
  (N:az (pm w T) base cx H ρ σ frs s.heap) (hv:ag (pm w T) H ρ ov r) (h:Oc c ov name σ Qv)
  (q:∀u ru tk,ag (pm w T) H ρ u ru→Qv u σ→Q ru {s with toks:=tk}):wpAny (model prog w) cx.A (getAttr r name b) Q EE s:=by
 refine aB h fun p e h=>a8 h fun hc h=>aB h fun u hu h=>a8 h fun hb h=>?_
 refine aW N.inv fun m mc I F=>?_
 refine xb I hv e fun a dx es k er A f=>?_
 refine aq (sq f hu) fun ru g1 g2=>?_
 have O:=G.cm _ _ _ (AI hc)
 refine aq O.attr fun at_ a1 a2=>?_
 rw[er]
 exact get_value (G.kin.keeps I.keep) A (plainGet_of O.get).1 (findObj_own O.dict a1 a2 g1) (yN hb g2) (q _ _ _ g2 h)
end
end
section
section
variable {prog:Program}{w:World}{T:Nat→V}{base:Heap}{c:ck}{K:Frag}{E:Ev}{n:Nat}
noncomputable def dU(h:Heap)(xs:List Addr):List (Addr×Obj):=(List.range h.objs.size).filterMap fun b=>if b∈xs then none else(h.get? b).map fun o=>(b,o)
theorem cj{h:Heap}{xs:List Addr}{b:Addr}{o:Obj}:(b,o)∈dU h xs↔b∉xs∧h.get? b=some o:=by
 unfold dU
 rw[List.mem_filterMap]
 constructor
 ·rintro ⟨a,_,e⟩
  by_cases q:a∈xs
  ·rw[if_pos q]at e;cases e
  ·rw[if_neg q]at e
   refine aq (Option.map_eq_some_iff.mp e) fun o' e1 e2=>?_
   cases e2
   exact⟨q,e1⟩
 ·rintro ⟨q,e⟩
  exact⟨b,List.mem_range.mpr (Heap.lt_size e),by rw[if_neg q,e];rfl⟩
noncomputable def gJ(h:Heap):Heap:={h with objs:=#[]}
theorem fg{h:Heap}(b:Addr):(gJ h).get? b=none:=by
 cases q:(gJ h).get? b with
 |none=>rfl
 |some o=>exact absurd (Heap.lt_size q) (Nat.not_lt_zero _)
theorem dK{h:Heap}{L:Addr}{m:bG}(hn:h.Ns L m):Fr (gJ h) L h m:=⟨hn,fun b o e=>(by rw[fg]at e;cases e),Nat.zero_le _⟩
theorem h8{h:Heap}{L a:Addr}{o:Obj}(ho:h.get? a=some o)(ne:a≠L):News (gJ h) L h ((a,o)::dU h [a,L]):=fun p hp=>by
 rcases List.mem_cons.mp hp with rfl|hp
 ·exact⟨ho,ne,fg _⟩
 ·obtain⟨b,o'⟩:=p
  refine a7 (cj.mp hp) fun h1 h2=>?_
  simp only [List.mem_cons,List.not_mem_nil,or_false,not_or]at h1
  exact⟨h2,h1.2,fg _⟩
theorem iu{h h₀ h':Heap}{L a:Addr}{o:Obj}(N:News h₀ L h' ((a,o)::dU h [a,L])):h'.get? a=some o∧∀b o,b≠a→b≠L→h.get? b=some o→h'.get? b=some o:=
 ⟨(N _ (.head _)).1,fun b o q1 q2 e=>(N (b,o) (.tail _ (cj.mpr ⟨by simp[q1,q2],e⟩))).1⟩
theorem gQ{h:Heap}{L:Addr}:News (gJ h) L h (dU h [L]):=fun p hp=>by
 obtain⟨b,o⟩:=p
 refine a7 (cj.mp hp) fun h1 h2=>?_
 simp only [List.mem_cons,List.not_mem_nil,or_false]at h1
 exact⟨h2,h1,fg _⟩
theorem jE{h h₀ h':Heap}{L:Addr}{pre:List (Addr×Obj)}(N:News h₀ L h' (pre++dU h [L])):∀b o,b≠L→h.get? b=some o→h'.get? b=some o:=
 fun b o q e=>(N (b,o) (List.mem_append_right _ (cj.mpr ⟨by simp[q],e⟩))).1
section
variable {P:Pm}{h h':Heap}{H:HP}{ρ:List Addr}{frs:aJ}{ob:Tr}
theorem aM.move{L:Addr}{φ:Fp}(I:aM P base H ρ ((L,φ)::frs) ob h)(hk:∀b o,b≠L→h.get? b=some o→h'.get? b=some o)(hn:∃o,h'.get? L=some o∧φ.φ H o):aM P base H ρ ((L,φ)::frs) ob h':=by
 refine a7 (I.frNew _ (.head _)) fun n1 n2=>?_
 have d:=I.frDup
 rw[List.map_cons,List.nodup_cons]at d
 have nR:∀a∈ρ,a≠L:=fun a ha q=>I.rf a ha (by rw[q];exact .head _)
 refine⟨fun b o e=>hk b o (fun q=>by rw[q,n1]at e;cases e) (I.keep b o e),fun b o e=>hk b o (fun q=>n2 o (q▸e)) (I.frz b o e),fun p hp=>?_,I.frNew,I.frDup,fun i o e=>?_,I.dup,fun b hb=>?_,I.rf⟩
 ·rcases List.mem_cons.mp hp with rfl|hp
  ·exact hn
  ·refine aq (I.frNs p (.tail _ hp)) fun o e f=>?_
   exact⟨o,hk _ _ (fun q=>d.1 (List.mem_map.mpr ⟨p,hp,q⟩)) e,f⟩
 ·refine cJ (I.own i o e) fun a h1 h2 h3=>?_
  exact⟨a,h1,h2.mono (fun _ _ x=>x) .refl (fun o e=>hk a o (nR a (List.mem_of_getElem? h1)) e),h3⟩
 ·refine bz (I.there b hb) fun o e=>?_
  exact⟨o,hk b o (nR b hb) e⟩
theorem aM.allocJ(I:aM P base H ρ frs ob h)(J:aM P base H ρ frs ob h'){ob':Tr}{o:Obj}{x:O}{D:Addr}(hD:h.get? D=none)(he:h'.get? D=some o)(hob:∀i,ob'.get i=if i=ρ.length then some x else ob.get i)
  (hx:cX P H (ρ++[D]) h' D x):aM P base H (ρ++[D]) frs ob' h':=by
 have nR:D∉ρ:=fun q=>by obtain⟨o,e⟩:=I.there D q;rw[hD]at e;cases e
 have nF:D∉frs.map (·.1):=fun q=>by
  refine aq (List.mem_map.mp q) fun p hp e=>?_
  refine aq (I.frNs p hp) fun o e' _=>?_
  rw[e,hD]at e';cases e'
 refine{J with own:=?_,dup:=?_,there:=?_,rf:=?_}
 ·intro i y e
  rw[hob]at e
  by_cases q:i=ρ.length
  ·subst q
   rw[if_pos rfl]at e
   cases e
   exact⟨D,by simp,hx,fun _=>⟨eV I.keep hD,fun o e=>(by rw[I.frz _ _ e]at hD;cases hD),nF⟩⟩
  ·rw[if_neg q]at e
   refine cJ (J.own i y e) fun a h1 h2 h3=>?_
   exact⟨a,bN.more _ _ h1,h2.mono (fun _ _ x=>x) .more (fun _ x=>x),h3⟩
 ·exact List.nodup_append.mpr ⟨I.dup,List.nodup_cons.mpr ⟨by simp,List.nodup_nil⟩,fun a ha b hb e=>by
   rw[List.mem_singleton.mp hb]at e
   exact nR (e▸ha)⟩
 ·intro a ha
  rcases List.mem_append.mp ha with q|q
  ·exact J.there a q
  ·rw[List.mem_singleton.mp q];exact⟨_,he⟩
 ·intro a ha
  rcases List.mem_append.mp ha with q|q
  ·exact J.rf a q
  ·rw[List.mem_singleton.mp q];exact nF
theorem aM.pushJ(I:aM P base H ρ frs ob h)(J:aM P base H ρ frs ob h'){o:Obj}{D:Addr}(hD:h.get? D=none)(he:h'.get? D=some o):aM P base (H.and D o) ρ frs ob h':=by
 have nR:D∉ρ:=fun q=>by obtain⟨o,e⟩:=I.there D q;rw[hD]at e;cases e
 have nF:D∉frs.map (·.1):=fun q=>by
  refine aq (List.mem_map.mp q) fun p hp e=>?_
  refine aq (I.frNs p hp) fun o e' _=>?_
  rw[e,hD]at e';cases e'
 refine{J with frz:=?_,frNs:=fun p hp=>let ⟨o,e,f⟩:=J.frNs p hp;⟨o,e,p.2.mono HP.le f⟩,frNew:=?_,own:=?_}
 ·rintro a x (e|⟨rfl,rfl⟩)
  ·exact J.frz a x e
  ·exact he
 ·intro p hp
  refine⟨(J.frNew p hp).1,?_⟩
  rintro x (e|⟨e,rfl⟩)
  ·exact(J.frNew p hp).2 x e
  ·exact nF (List.mem_map.mpr ⟨p,hp,e⟩)
 ·intro i x e
  refine cJ (J.own i x e) fun a h1 h2 h3=>?_
  refine⟨a,h1,h2.mono (fun _ _ x=>.inl x) .refl (fun _ x=>x),fun q=>⟨(h3 q).nb,?_,(h3 q).nf⟩⟩
  rintro y (e'|⟨e',rfl⟩)
  ·exact(h3 q).nH y e'
  ·exact nR (e'▸List.mem_of_getElem? h1)
end
theorem az.move{P:Pm}{cx:Cx}{H:HP}{ρ:List Addr}{σ:St}{frs:aJ}{h h':Heap}(N:az P base cx H ρ σ frs h)(hk:∀b o,b≠cx.L→h.get? b=some o→h'.get? b=some o)(hn:∀m,h.Ns cx.L m→h'.Ns cx.L m):az P base cx H ρ σ frs h':=
 let ⟨m,mc,I,F,q⟩:=N.ns
 ⟨⟨m,mc,I.move hk (cw.mpr (hn m q)),F⟩,N.len,N.outer,N.self⟩
theorem ia{cx:Cx}{h h':Heap}{m:bG}(hn:h.Ns cx.L m)(F:Fr (gJ h) cx.L h' m):∀m',h.Ns cx.L m'→h'.Ns cx.L m':=fun m' hm=>by
 obtain rfl:=kq hn hm
 exact F.ns
theorem f6{cx:Cx}{H:HP}{ρ:List Addr}{frs:aJ}{s:Shared}{σ:St}{vs:List V}{rs:List Value}{k:Nat}{D:Addr}{h':Heap}{tk:Nat}{Q:V→St→Prop}(N:az (pm w T) base cx H ρ σ frs s.heap)
  (hk:∀b o,b≠cx.L→s.heap.get? b=some o→h'.get? b=some o) (hn:∀m,s.heap.Ns cx.L m→h'.Ns cx.L m) (hD:s.heap.get? D=none) (he:h'.get? D=some (aA rs k)) (hv:ai (pm w T) H ρ vs rs)
  (h:bo σ.ob (.list vs) fun v ob'=>Q v ⟨σ.fm,ob'⟩) :
  ∃v σ' ρ',az (pm w T) base cx H ρ' σ' frs h'∧aH base H ρ s H ρ' {s with heap:=h',toks:=tk}∧ag (pm w T) H ρ' v (.ref D)∧Q v σ':=by
 refine aB h fun y e h=>?_
 refine c9 N.ns fun m mc I F q=>?_
 have J:=I.move hk (cw.mpr (hn m q))
 refine⟨_,⟨σ.fm,⟨σ.ob.tr.ins σ.ob.nx (.list vs),σ.ob.nx+1⟩⟩,ρ++[D],⟨⟨m,mc,I.allocJ J hD he ?_ (.list he (hv.mono (fun _ _ e=>e) .more)),F.mono (fun _ _ e=>e) .more⟩,by rw[List.length_append,←N.len];rfl,N.outer,N.self⟩,⟨fun _ _ e=>e,fun _ _ e=>.inl e,.more,rfl,rfl,rfl⟩,.ref ?_,h⟩
 ·rw[N.len]
  exact Tr.get_ins (.list vs) σ.ob.tr σ.ob.nx (by rw[e];rfl)
 ·rw[←N.len];exact List.getElem?_concat_length
theorem ic{cx:Cx}{H:HP}{ρ:List Addr}{frs:aJ}{s:Shared}{σ:St}{o:Obj}{D:Addr}{h':Heap}{tk:Nat}(N:az (pm w T) base cx H ρ σ frs s.heap)
  (hk:∀b o,b≠cx.L→s.heap.get? b=some o→h'.get? b=some o) (hn:∀m,s.heap.Ns cx.L m→h'.Ns cx.L m) (hD:s.heap.get? D=none) (he:h'.get? D=some o) :
  az (pm w T) base cx (H.and D o) ρ σ frs h'∧aH base H ρ s (H.and D o) ρ {s with heap:=h',toks:=tk}:=by
 refine c9 N.ns fun m mc I F q=>?_
 have J:=I.move hk (cw.mpr (hn m q))
 exact⟨⟨⟨m,mc,I.pushJ J hD he,F.mono HP.le .refl⟩,N.len,N.outer,N.self⟩,HP.le,fun a y e=>e.elim .inl fun⟨e,_⟩=>.inr (e▸eV I.keep hD),.refl,rfl,rfl,rfl⟩
theorem tF{h:Heap}{L D:Addr}(hl:∀p∈dU h [L],p.1 < D)(ne:D≠L):h.get? D=none:=by
 cases q:h.get? D with
 |none=>rfl
 |some o=>exact absurd (hl (D,o) (cj.mpr ⟨by simp[ne],q⟩)) (Nat.lt_irrefl _)
theorem uv{A:Around}{s:Shared}{x:Str}{t:Tok}{name:Str}{i:Bi}{pl:Sem Bool}{Q:Value×List Value→Shared→Prop}{EE:Value→Shared→Prop}(e:xP name=some i)(q:Q (.builtin i.name,[.str x t]) s):wpAny (model prog w) A (getMethod (.str x t) name pl) Q EE s:=by
 refine gK e (fun h e=>?_) fun _ e=>bQ e fun h e=>?_
 ·rw[←ae e]at q
  rw[bj.mp h]
  exact getMethod_builtin (typeIs_str _ _ _) PySem.F.plainAttrs_str PySem.F.slot_str_split PySem.F.type_str_split (fun a e=>by cases e) q
 ·rw[←ae e]at q
  rw[bj.mp h]
  exact getMethod_builtin (typeIs_str _ _ _) PySem.F.plainAttrs_str PySem.F.slot_str_lstrip PySem.F.type_str_lstrip (fun a e=>by cases e) q
theorem sf{A:Around}{s:Shared}{a:Addr}{rs:List Value}{k:Nat}{name:Str}{i:Bi}{pl:Sem Bool}{Q:Value×List Value→Shared→Prop}{EE:Value→Shared→Prop}(ha:s.heap.get? a=some (aA rs k))(e:tq name=some i)(q:Q (.builtin i.name,[.ref a]) s):wpAny (model prog w) A (getMethod (.ref a) name pl) Q EE s:=by
 have hT:s.TypeIs (.ref a) "list":=⟨_,ha,rfl⟩
 have hT':∀b,Value.ref a=.ref b→∃o,s.heap.get? b=some o∧o.dict=none:=fun b e=>by cases e;exact⟨_,ha,rfl⟩
 refine gK e (fun h e=>?_) fun _ e=>gK e (fun h e=>?_) fun _ e=>bQ e fun h e=>?_
 ·rw[←ae e]at q
  rw[bj.mp h]
  exact getMethod_builtin hT PySem.F.plainAttrs_list PySem.F.slot_list_append PySem.F.type_list_append hT' q
 ·rw[←ae e]at q
  rw[bj.mp h]
  exact getMethod_builtin hT PySem.F.plainAttrs_list PySem.F.slot_list_extend PySem.F.type_list_extend hT' q
 ·rw[←ae e]at q
  rw[bj.mp h]
  exact getMethod_builtin hT PySem.F.plainAttrs_list PySem.F.slot_list_pop PySem.F.type_list_pop hT' q
theorem u5{P:Pm}{A:Around}{H:HP}{ρ:List Addr}{frs:aJ}{ob:Tr}{s:Shared}{ov:V}{r:Value}{name:Str}{i:Bi}{pl:Sem Bool}{Q:Value×List Value→Shared→Prop}{EE:Value→Shared→Prop}
  (I:aM P base H ρ frs ob s.heap) (hv:ag P H ρ ov r) (e:xT ob ov name=some i)
  (q:∀tk,Q (.builtin i.name,[r]) {s with toks:=tk}):wpAny (model prog w) A (getMethod r name pl) Q EE s:=by
 have q:=q s.toks
 refine cP e (fun x ex e=>hv.cS ex fun t _ er=>?_) fun _ e=>cP e (fun kvs ed e=>bQ e fun h e=>?_) fun _ e=>au e fun vs es e=>jU I hv es fun a rs k er ha _=>?_
 ·rw[er]at q ⊢;exact uv e q
 ·refine aq (gW I hv ed) fun d rq1 D=>?_;subst rq1
  refine aW D.obj fun es k ho _=>?_
  rw[←ae e]at q
  rw[bj.mp h]
  exact getMethod_builtin ⟨_,ho,rfl⟩ PySem.F.plainAttrs_dict PySem.F.slot_dict_get PySem.F.type_dict_get (fun a e=>by cases e;exact⟨_,ho,rfl⟩) q
 ·rw[er]at q ⊢;exact sf ha e q
theorem F7(G:aI prog w T c K base){cx:Cx}{H:HP}{ρ:List Addr}{frs:aJ}{σ:St}{s:Shared}{ov:V}{p:V×List V}{r:Value}{name:Str}{pl:Sem Bool}{Q:Value×List Value→Shared→Prop}{EE:Value→Shared→Prop}
  (N:az (pm w T) base cx H ρ σ frs s.heap) (hv:ag (pm w T) H ρ ov r) (e:IC c σ.ob.tr ov name=some p)
  (q:∀rg rf tk,ag (pm w T) H ρ p.1 rg→ai (pm w T) H ρ p.2 rf→Q (rg,rf) {s with toks:=tk}):wpAny (model prog w) cx.A (getMethod r name pl) Q EE s:=by
 refine aW N.inv fun m mc I F=>?_
 have X:=G.kin.keeps I.keep
 have meth:∀{C fs f v},ag (pm w T) H ρ v r→w8 σ.ob.tr v=some (C,fs)→c.CM C name=some (.fn f)→lk name fs=none→(∀tk,Q (.ref f,[r]) {s with toks:=tk})→wpAny (model prog w) cx.A (getMethod r name pl) Q EE s:=by
  intro C fs f v hv ei ec el q
  refine xb I hv ei fun a dx es k er A fr=>?_
  rw[er]at q ⊢
  have M:=G.cm _ _ _ ec
  exact method_fn X A (plainGet_of M.get).1 (plainGet_of M.get).2 M.attr M.fn (by show(lookIn name (dictOf es k)).map _=_;rw[lookIn_dict,oU fr el];rfl) (q s.toks)
 refine cP e (fun C eC e=>hv.cG eC fun er=>au e fun f ef e=>?_) fun _ e=>cP e (fun k ek e=>hv.cM ek fun hv'=>au e fun C en e=>au e fun f ec e=>?_) fun _ e=>cP e (fun x ei e=>au e fun f ec e=>bQ e fun el e=>?_)
  fun _ e=>au e fun i em e=>?_
 all_goals rw[←ae e]at q
 ·have S:=G.cs _ _ _ ef
  refine aq S.attr fun mc a1 a2=>?_
  rw[er]
  exact method_cls X S.get (cls_value X a1 a2 rfl (q _ _ _ .glob .nil))
 ·refine aq ((G.nm _ _ en).inst) fun fs eT hno=>?_
  have hv'':=hv'
  rw[show(pm w T).T _=_ from eT]at hv''
  exact meth hv'' rfl (EM ec) (hno _ _ (EM ec)) fun tk=>q _ _ tk .glob (.cons (.named hv') .nil)
 ·exact meth hv ei (EM ec) (ja el) fun tk=>q _ _ tk .glob (.cons hv .nil)
 ·exact u5 I hv em fun tk=>q _ _ tk .blt (.cons hv .nil)
theorem ly{A:Around}{EE:Value→Shared→Prop}{s:Shared}{value slice:Expr}{o i:Value}{Ty id:String}{Q:Value→Shared→Prop}(hT:s.TypeIs o Ty)
  (hl:typeLookup (.type Ty) "__getitem__"=pure (some (.builtin id))) (hs:subscripted slice false o i=operate [o,i] (getItem o i)) (h:wpAny (model prog w) A (getItem o i) Q EE s) :
  wpAny (model prog w) A (subscriptTail value slice o i) Q EE s:=by
 unfold subscriptTail
 refine wpAny_bind ?_
 rw[getitemInPython_of_ne hT.not_modules]
 refine wpAny_bind (wpAny_specialOf hT hl ?_)
 have fin:wpAny (model prog w) A (subscripted slice false o i) (fun r s₃=>wpAny (model prog w) A (letTemporaryGo value o r >>= fun _=>pure r) Q EE s₃) EE s:=by
  rw[hs]
  exact wpAny_operating (wpAny_mono h (fun r s₃ h₃=>wpAny_bind (wpAny_letTemporaryGo (wpAny_pure h₃))) fun _ _ x=>x)
 first
  |exact wpAny_pure (wpAny_bind fin)
  |exact wpAny_bind (wpAny_pure (wpAny_bind fin))
  |exact wpAny_bind fin
theorem ff{slice:Expr}(h:fK slice=true)(o i:Value):subscripted slice false o i=operate [o,i] (getItem o i):=
 mV (b:=fK slice) (by cases slice <;> first|rfl|trivial) h
theorem GA{P:Pm}{H:HP}{ρ:List Addr}{vs:List V}{rs:List Value}{k:Nat}{v:V}(h:ai P H ρ vs rs)(e:qU vs k=some v):∃r,rs[k]?=some r∧ag P H ρ v r:=by
  induction vs generalizing rs k with
  |nil=>cases e
  | cons u vs ih=>
    refine h.cons' fun r l a b er=>?_
    rw[er]
    cases k with
    |zero=>exact⟨r,rfl,ae e▸a⟩
    |succ k=>exact(ih b e:∃r,l[k]?=some r∧_)
theorem BE{l:List Int}{k:Nat}{x:Int}(e:Jr l k=some x):l[k]?=some x:=by
  induction l generalizing k with
  |nil=>cases e
  | cons y l ih=>cases k with
    |zero=>exact e
    |succ k=>exact ih e
theorem zG{P:Pm}{H:HP}{ρ:List Addr}{x:Int}{Q:V→Prop}{vs:List V}{rs:List Value}{i:Int}(h:ai P H ρ vs rs)(p:gn vs x i Q)(h1:i≤x)(h2:x < i+vs.length):∃v r,rs[(x - i).toNat]?=some r∧ag P H ρ v r∧Q v:=by
  induction vs generalizing rs i with
  |nil=>exact absurd h2 (by rw[List.length_nil];lia)
  | cons v vs ih=>
    refine h.cons' fun r l a b er=>?_
    rw[er]
    by_cases e:x=i
    · rw[e,Int.sub_self];exact⟨v,r,rfl,a,p.1 e⟩
    · rw[List.length_cons]at h2
      refine c9 (ih b p.2 (by lia) (by lia)) fun u r' g1 g2 g3=>?_
      have q:(x - i).toNat=(x - (i+1)).toNat+1:=by lia
      exact⟨u,r',by rw[q];exact g1,g2,g3⟩
theorem kJ{k n:Nat}(h:k < n):seqIndex? (Int.ofNat k) n=some k:=by
 unfold seqIndex?
 have h0:(0:Int)≤Int.ofNat k:=Int.natCast_nonneg k
 rw[if_neg (Int.not_lt.mpr h0)]
 have e:(decide (0≤Int.ofNat k)&&decide (Int.ofNat k < (n:Int)))=true:=Bool.and_eq_true_iff.mpr ⟨decide_eq_true h0,decide_eq_true (Int.ofNat_lt.mpr h)⟩
 exact if_pos e
theorem q6{l:List Int}{k:Nat}(h:k < l.length):l[k]?=some (aG l k):=by
  induction l generalizing k with
  |nil=>cases h
  | cons y l ih=>cases k with
    |zero=>rfl
    |succ k=>exact ih (Nat.lt_of_succ_lt_succ h)
theorem EL{i n:Nat}(h:z7 i n=true):i < n:=Nat.le_of_ble_eq_true h
theorem Bs{k:Bool}{xs:List Int}{kx:Bool}{x:Int}{Q:V→Prop}(h:itemI k xs kx x Q):∃j y,x=Int.ofNat j∧xs[j]?=some y∧xs.length≤1000∧Q (.int false y):=
 nM h (fun _ h=>aB h fun j ej h=>nM h (fun _ h=>aB h fun y e h=>a8 h fun hf h=>⟨j,y,fU ej,BE e,Nat.le_of_ble_eq_true hf,h⟩)
  fun _ h=>cg h fun h1 h=>cg h fun h2 h=>⟨j,_,fU ej,q6 (EL h1),Nat.le_of_ble_eq_true h2,h⟩)
  fun _ h=>cg h fun h0 h=>cg h fun h1 h=>cg h fun h2 h=>⟨x.toNat,_,(Int.toNat_of_nonneg (of_decide_eq_true h0)).symm,q6 (EL h1),Nat.le_of_ble_eq_true h2,h⟩
theorem tD{rs:List Value}{xs:List Int}{j:Nat}{y:Int}(h:IntsAre rs xs)(e:xs[j]?=some y):∃t,rs[j]?=some (.int y t):=by
  induction h generalizing j with
  |nil=>cases e
  | cons a t x ih=>cases j with
    |zero=>exact⟨t,by rw[←ae e];rfl⟩
    |succ j=>exact ih e
theorem rZ{ob:Tr}{key:V}{miss:Prop}{Q:V→Prop}{es:List (V×V)}(h:xd ob key miss Q es):oX (fR key es) Q miss:=by
  induction es with
  |nil=>exact h
  | cons p r ih=>
    have h:=pb h
    show oX (bX (bu key p.1) (some p.2) (fR key r)) Q miss
    cases q:bu key p.1 with
    |true=>rw[q]at h;exact h
    |false=>rw[q]at h;exact ih h
theorem pG{A:Around}{EE:Value→Shared→Prop}{s:Shared}{d:Addr}{rk v:Value}{Q:Value→Shared→Prop}{es:List DictEntry}{n:Nat}(ho:s.heap.get? d=some (dictOf es n))
  (h:wpAny (model prog w) A.in1 (dictGet d rk) (fun o s'=>∃v,o=some v∧Q v s') EE s):wpAny (model prog w) A (getItem (.ref d) rk) Q EE s:=by
 have hT:s.TypeIs (.ref d) "dict":=⟨_,ho,rfl⟩
 unfold getItem
 try with_reducible refine wpAny_holding ?_
 refine wpAny_bind (wpAny_sequenceKey hT (by decide) ?_)
 refine wpAny_bind (wpAny_callSpecial?_slot (name:=Str.ofString "__getitem__") hT slot_dict_getitem
  (wpAny_call_entry slot_dict_getitem hT entry_dict_getitem ?_ (args_dict_getitem _ _)))
 show wpAny _ _ (dictGet d rk >>= _) _ _ s
 refine wpAny_bind (wpAny_mono h (fun o s' hq=>?_) fun _ _ e=>e)
 refine aq hq fun v rq1 q=>?_;subst rq1
 exact wpAny_pure ⟨v,rfl,wpAny_pure q⟩
theorem qG {cx:Cx} {H:HP} {ρ:List Addr} {frs:aJ} {σ:St} {s:Shared} {o i:V} {ro ri:Value} {value slice:Expr} {Kq:V→Prop} {Q:Value→Shared→Prop} {EE:Value→Shared→Prop} {mm:Nat} (O:cx.Ok (mm+1))
    (N:az (pm w T) base cx H ρ σ frs s.heap) (hs:fK slice=true) (ho:ag (pm w T) H ρ o ro) (hi:ag (pm w T) H ρ i ri) (h:AU σ.ob.tr o i Kq)
    (q:∀v r tk,ag (pm w T) H ρ v r→Kq v→Q r {s with toks:=tk}):wpAny (model prog w) cx.A (subscriptTail value slice ro ri) Q EE s:=by
  refine aW N.inv fun m mc I F=>?_
  have lst:∀{ad:Addr} {rs:List Value} {k:Nat} {tb:Bool} {j:Nat} {t:Tok} {v:V} {r:Value},s.heap.get? ad=some ⟨.type (if tb then "tuple" else "list"),none,.seq rs.toArray k,#[]⟩→ro=.ref ad→ri=.int (Int.ofNat j) t→j≤1000→rs[j]?=some r→ag (pm w T) H ρ v r→Kq v→
      wpAny (model prog w) cx.A (subscriptTail value slice ro ri) Q EE s:=by
    intro ad rs k tb j t v r hob er ei j1 hx hv hk
    subst er ei
    have fin:=q v r s.toks hv hk
    have hlt:j < rs.length:=(List.getElem?_eq_some_iff.mp hx).1
    have b1:-(2 ^ 63:Int)≤Int.ofNat j:=by simp only [Int.ofNat_eq_natCast];lia
    have b2:Int.ofNat j < (2 ^ 63:Int):=by simp only [Int.ofNat_eq_natCast];lia
    cases tb with
    | true=>
      have hT:IsTup s.heap ad rs.toArray:=⟨_,hob,rfl,_,rfl⟩
      exact ly hT.typeIs slot_tuple_getitem.lookup (ff hs _ _) (getItem_tuple (j:=j) hT b1 b2 (by rw[List.size_toArray];exact kJ hlt) (by simpa using hx) fin)
    | false=>
      have hL:s.heap.IsList ad rs.toArray:=⟨_,hob,rfl,_,rfl⟩
      exact ly hL.typeIs slot_list_getitem.lookup (ff hs _ _) (wpAny_getItem_list hL (Int.natCast_nonneg j) b2 (by simpa using hx) fin)
  refine du h (fun p ep h=>aB h fun i' ei h=>hi.cI ei fun tj er=>?_) fun _ h=>du h (fun p es h=>gL I ho es fun ad rs k er hob hvs=>aB h fun x ei h=>hi.cI ei fun tj ej=>nM h (fun _ h=>aB h fun k ek h=>a8 h fun hf h=>aB h fun v ev h=>?_) fun _ h=>a8 h fun hf h=>?_)
    fun _ h=>aB h fun es ed h=>a8 h fun hk h=>a8 h fun ik h=>?_
  · refine KA (Bs h) fun j y e hy hl hk=>?_
    rw[e]at er
    refine cP ep (fun p' ey e=>ho.cY ey fun a t eo ea=>?_) fun _ ew=>ho.cW ew fun rs a k b hx eo=>?_
    · rw[ae e]at ea
      rw[ea]at hy
      unfold aw at hy
      rw[List.getElem?_map]at hy
      refine aq (Option.map_eq_some_iff.mp hy) fun b g1 g2=>?_
      have hll:p.2.length=a.toList.length:=by rw[ea];exact List.length_map _
      have hlt:j < a.toList.length:=(List.getElem?_eq_some_iff.mp g1).1
      have fin:=q (.int false y) (.int y s.toks) (s.toks+1) .int hk
      have hz:a.toList.length≤1099511627776:=by rw[←hll];exact Nat.le_trans hl (by decide)
      have hb:((a.toList.getD (Int.ofNat j).toNat 0).toNat:Int)=y:=by
        show((a.toList.getD j 0).toNat:Int)=y
        rw[List.getD_eq_getElem?_getD,g1];exact g2
      rw[er,eo]
      refine ly (typeIs_bytes _ _ _) FB.slot_bytes_getitem.lookup (ff hs _ _) ?_
      have z:=fun u:Tok=>getItem_bytes (u:=u) (prog:=prog) (w:=w) (A:=cx.A) (E:=EE) (s:=s) (t:=t) (l:=a.toList) (i:=Int.ofNat j) (Q:=Q) hz (Int.natCast_nonneg j) (Int.ofNat_lt.mpr hlt) (by rw[hb];exact fin)
      rw[Array.toArray_toList]at z
      exact z _
    · refine bz (tD hx hy) fun t ht=>?_
      exact lst (tb:=false) (I.frz _ _ b) eo er (Nat.le_trans (Nat.le_of_lt (List.getElem?_eq_some_iff.mp hy).1) hl) ht .int hk
  · rw[fU ek]at ej
    refine aq (GA hvs ev) fun r g1 g2=>?_
    exact lst hob er ej (Nat.le_of_ble_eq_true hf) g1 g2 h
  · refine jD h fun h1 h2 h3=>?_
    refine bz (Int.eq_ofNat_of_zero_le h1) fun j e=>?_
    have hk:=Nat.le_of_ble_eq_true hf
    refine c9 (zG hvs h3 h1 (by lia)) fun v r g1 g2 g3=>?_
    rw[e]at ej
    exact lst hob er ej (by lia) (by rw[e]at g1;simpa using g1) g2 g3
  · refine aq (gW I ho ed) fun d rq1 D=>?_;subst rq1
    refine aW D.obj fun en k hob _=>?_
    refine ly ⟨_,hob,rfl⟩ slot_dict_getitem.lookup (ff hs _ _) (pG hob (v:=.none) ?_)
    refine je rfl I D hk ik hi (by show cx.A.units+_ < _;have:=O.units;lia) fun tk o ho=>?_
    have g:=rZ h
    cases q':fR i es with
    |none=>rw[q']at g;exact g.elim
    | some v=>
      rw[q']at g ho
      refine aq ho fun r rq1 hr=>?_;subst rq1
      exact⟨r,rfl,q v r tk hr g⟩
theorem jF{A:Around}{EE:Value→Shared→Prop}{s:Shared}{value slice:Expr}{o i:Value}{ops:List Value}{Ty id:String}{Q:Value→Shared→Prop}(hT:s.TypeIs o Ty)
  (hl:typeLookup (.type Ty) "__getitem__"=pure (some (.builtin id))) (hs:subscripted slice false o i=operate ops (getItem o i)) (h:wpAny (model prog w) A (getItem o i) Q EE s) :
  wpAny (model prog w) A (subscriptTail value slice o i) Q EE s:=by
 unfold subscriptTail
 refine wpAny_bind ?_
 rw[getitemInPython_of_ne hT.not_modules]
 refine wpAny_bind (wpAny_specialOf hT hl ?_)
 have fin:wpAny (model prog w) A (subscripted slice false o i) (fun r s₃=>wpAny (model prog w) A (letTemporaryGo value o r >>= fun _=>pure r) Q EE s₃) EE s:=by
  rw[hs]
  exact wpAny_operating (wpAny_mono h (fun r s₃ h₃=>wpAny_bind (wpAny_letTemporaryGo (wpAny_pure h₃))) fun _ _ x=>x)
 first
  |exact wpAny_pure (wpAny_bind fin)
  |exact wpAny_bind (wpAny_pure (wpAny_bind fin))
  |exact wpAny_bind fin
theorem tA{α:Type}(l:List α):∀(n:Nat),kG l n=l.drop n:=by
 induction l with
 |nil=>intro n;rw[List.drop_nil];rfl
 |cons x r ih=>intro n;cases n with|zero=>rfl|succ n=>exact ih n
theorem rh{α:Type}(l:List α):∀(n:Nat),kK l n=l.take n:=by
 induction l with
 |nil=>intro n;rw[List.take_nil];rfl
 |cons x r ih=>intro n;cases n with|zero=>rfl|succ n=>exact congrArg (x::·) (ih n)
theorem Aq{α:Type}(l:List α)(a:Nat):l.drop (min a l.length)=l.drop a:=by
 rcases Nat.le_total a l.length with h|h
 ·rw[Nat.min_eq_left h]
 ·rw[Nat.min_eq_right h,List.drop_length,List.drop_eq_nil_of_le h]
theorem f9{α:Type}(l:List α)(lo hi:Option Nat):cut l lo hi=(l.drop (min (lo.getD 0) l.length)).take (min (hi.getD l.length) l.length - min (lo.getD 0) l.length):=by
  have key (a b:Nat):(l.drop (min a l.length)).take (min b l.length - min a l.length)=(l.drop a).take (b - a):=by
    rw[Aq]
    rcases Nat.le_total b l.length with hb|hb
    · rw[Nat.min_eq_left hb]
      rcases Nat.le_total a l.length with ha|ha
      · rw[Nat.min_eq_left ha]
      · rw[List.drop_eq_nil_of_le ha,List.take_nil,List.take_nil]
    · have q:(l.drop a).length=l.length - a:=List.length_drop
      rw[Nat.min_eq_right hb,List.take_of_length_le (by rw[q];lia),List.take_of_length_le (by rw[q];lia)]
  rw[key]
  have all (a:Nat):(l.drop a).take (l.length - a)=l.drop a:=List.take_of_length_le (by rw[List.length_drop];exact Nat.le_refl _)
  cases lo with
  | none=>cases hi with
    |none=>exact(all 0).symm
    |some b=>exact rh l b
  | some a=>cases hi with
    |none=>exact(tA l a).trans (all a).symm
    |some b=>show kK (kG l a) (b - a)=_;rw[rh,tA];rfl
theorem tV{P:Pm}{H:HP}{ρ:List Addr}{vs:List V}{rs:List Value}(n:Nat)(h:ai P H ρ vs rs):ai P H ρ (vs.drop n) (rs.drop n):=by
  induction n generalizing vs rs with
  |zero=>exact h
  | succ n ih=>cases vs with
    |nil=>exact h.nil' fun e=>e▸.nil
    |cons v vs=>exact h.cons' fun _ _ _ b e=>e▸ih b
theorem u4{P:Pm}{H:HP}{ρ:List Addr}{vs:List V}{rs:List Value}(n:Nat)(h:ai P H ρ vs rs):ai P H ρ (vs.take n) (rs.take n):=by
  induction n generalizing vs rs with
  |zero=>exact .nil
  | succ n ih=>cases vs with
    |nil=>exact h.nil' fun e=>e▸.nil
    |cons v vs=>exact h.cons' fun _ _ a b e=>e▸.cons a (ih b)
theorem sv(lo:Option Nat)(n:Nat):(match fP lo with
    |none=>if(1:Int) > 0 then(0:Int)else(n:Int) - 1
    |some i=>if(1:Int) > 0 then max 0 (min (if i < 0 then i+n else i) n)else max (-1) (min (if i < 0 then i+n else i) (n - 1)))=((min (lo.getD 0) n:Nat):Int):=by
  cases lo with
  |none=>show(if(1:Int) > 0 then(0:Int)else _)=_;rw[if_pos (by decide),Option.getD,Nat.zero_min];rfl
  | some k=>
    have e:¬(Int.ofNat k < 0):=Int.not_lt.mpr (Int.natCast_nonneg k)
    show(if(1:Int) > 0 then max 0 (min (if Int.ofNat k < 0 then Int.ofNat k+n else Int.ofNat k) n)else _)=_
    rw[if_pos (by decide),if_neg e]
    exact(Int.max_eq_right (Int.le_min.mpr ⟨Int.natCast_nonneg k,Int.natCast_nonneg n⟩)).trans (by show min (k:Int) (n:Int)=((min k n:Nat):Int);lia)
theorem sr(hi:Option Nat)(n:Nat):(match fP hi with
    |none=>if(1:Int) > 0 then(n:Int)else(-1)
    |some i=>if(1:Int) > 0 then max 0 (min (if i < 0 then i+n else i) n)else max (-1) (min (if i < 0 then i+n else i) (n - 1)))=((min (hi.getD n) n:Nat):Int):=by
  cases hi with
  |none=>show(if(1:Int) > 0 then(n:Int)else _)=_;rw[if_pos (by decide),Option.getD,Nat.min_self]
  | some k=>
    have e:¬(Int.ofNat k < 0):=Int.not_lt.mpr (Int.natCast_nonneg k)
    show(if(1:Int) > 0 then max 0 (min (if Int.ofNat k < 0 then Int.ofNat k+n else Int.ofNat k) n)else _)=_
    rw[if_pos (by decide),if_neg e]
    exact(Int.max_eq_right (Int.le_min.mpr ⟨Int.natCast_nonneg k,Int.natCast_nonneg n⟩)).trans (by show min (k:Int) (n:Int)=((min k n:Nat):Int);lia)
theorem yJ(lo hi:Option Nat)(n:Nat):sliceBounds (fP lo) (fP hi) none n=(((min (lo.getD 0) n:Nat):Int),((min (hi.getD n) n:Nat):Int),1):=by
 rw[←sv,←sr];rfl
theorem wQ(rs:List Value)(lo hi:Option Nat):slicePick rs.toArray (fP lo) (fP hi) none=(cut rs lo hi).toArray:=by
 rw[kmk_pick_nat rs.toArray (by rw[List.size_toArray];exact yJ lo hi rs.length),f9]
theorem zb{P:Pm}{H:HP}{ρ:List Addr}{vs:List V}{rs:List Value}(lo hi:Option Nat)(h:ai P H ρ vs rs):ai P H ρ (cut vs lo hi) (cut rs lo hi):=by
 rw[f9,f9,aN h]
 exact u4 _ (tV _ h)
theorem Ab{v:V}{Kq:Bd→Prop}{P:Pm}{H:HP}{ρ:List Addr}{r:Value}(h:HU v Kq)(hv:ag P H ρ v r):∃p,IsPart r (fP (xU p))∧Kq p:=
 aB h fun p ep h=>hv.cI ep fun t er=>nM h (fun _ h=>aB h fun k ek h=>a8 h fun _ h=>⟨some (true,k),by rw[er,fU ek];exact .int _ _,h⟩)
  fun _ h=>cg h fun h0 h=>⟨some (false,p.2.toNat),by
   have z:=Int.toNat_of_nonneg (of_decide_eq_true h0)
   rw[er]
   conv=>lhs;rw[←z]
   exact .int _ _,h⟩
theorem w6(S:de prog w T base c.R E n){cx:Cx}{x:Option Expr}{σ:St}{Kq:Bd→St→Prop}{H:HP}{ρ:List Addr}{frs:aJ}{s:Shared}{Q':Value→Shared→Prop}{EE:Value→Shared→Prop}(O:cx.Ok n)
    (h:(B1 E x cx.sc).run σ Kq) (N:az (pm w T) base cx H ρ σ frs s.heap) (X:eY prog w base c.R cx frs H s EE)
    (a:∀p r σ' H' ρ' s',az (pm w T) base cx H' ρ' σ' frs s'.heap→aH base H ρ s H' ρ' s'→IsPart r (fP (xU p))→Kq p σ'→Q' r s'):wpAny (model prog w) cx.A (evalPart x cx.env) Q' EE s:=by
  cases x with
  |none=>exact evalPart_none_step (a none _ σ H ρ s N .refl .none h)
  | some e=>
    refine evalPart_some_step (S.ex cx _ _ _ O h _ _ _ _ _ _ N X fun v₁ r₁ σ₁ H₁ ρ₁ s₁ N₁ L₁ R₁ h₁=>?_)
    refine aq (Ab h₁ R₁) fun p hp h₁=>?_
    exact a _ _ _ _ _ _ N₁ L₁ hp h₁
theorem th{rs:List Value}{xs:List Int}(lo hi:Option Nat)(h:IntsAre rs xs):IntsAre (cut rs lo hi) (cut xs lo hi):=by
  have dr:∀{rs:List Value} {xs:List Int} (n:Nat),IntsAre rs xs→IntsAre (rs.drop n) (xs.drop n):=by
    intro rs xs n h
    induction n generalizing rs xs with
    |zero=>exact h
    | succ n ih=>cases h with
      |nil=>exact .nil
      |cons a t x=>exact ih x
  have tk:∀{rs:List Value} {xs:List Int} (n:Nat),IntsAre rs xs→IntsAre (rs.take n) (xs.take n):=by
    intro rs xs n h
    induction n generalizing rs xs with
    |zero=>exact .nil
    | succ n ih=>cases h with
      |nil=>exact .nil
      |cons a t x=>exact .cons _ _ (ih x)
  rw[f9,f9,h.length]
  exact tk _ (dr _ h)
theorem gE{P:Pm}{H:HP}{ρ:List Addr}{vs:List V}{rs:List Value}{l:List (Bool×Int)}(h:ai P H ρ vs rs)(e:iR vs=some l):IntsAre rs (nY l):=by
 induction vs generalizing rs l with
 |nil=>exact h.nil' fun er=>er▸ae e▸.nil
 |cons v vs ih=>exact au e fun p ep e=>au e fun q eq e=>h.cons' fun r l a b er=>a.cI ep fun t ea=>er▸ea▸ae e▸.cons _ _ (ih b eq)
theorem wg{G:Prop}{P:Pm}{h:Heap}{frs:aJ}{H:HP}{ρ:List Addr}{ob:Tr}{v:V}{r:Value}{p:Bool×List Int}(I:aM P base H ρ frs ob h)(hv:ag P H ρ v r)(e:Hn ob v=some p)
  (g:∀a rs k,r=.ref a→h.get? a=some (aA rs k)→IntsAre rs p.2→G):G:=
 cP e (fun q ew e=>hv.cW ew fun rs a k b hx er=>g a rs k er (I.frz _ _ b) (ae e▸hx))
  fun _ e=>au e fun vs es e=>au e fun l el e=>jU I hv es fun a rs k er ha hvs=>g a rs k er ha (ae e▸gE hvs el)
theorem o7{cx:Cx}{H:HP}{ρ:List Addr}{frs:aJ}{s:Shared}{σ:St}{rs:List Value}{xs:List Int}{k:Bool}(N:az (pm w T) base cx H ρ σ frs s.heap)(hx:IntsAre rs xs) :
  az (pm w T) base cx (H.and s.heap.objs.size (aA rs 0)) ρ σ frs (s.heap.push (aA rs 0))∧aH base H ρ s (H.and s.heap.objs.size (aA rs 0)) ρ {s with heap:=s.heap.push (aA rs 0)}∧ag (pm w T) (H.and s.heap.objs.size (aA rs 0)) ρ (.irow k xs) (.ref s.heap.objs.size):=
 ⟨N.push _,N.later _,.irow HP.new hx⟩
theorem kW(lo hi:Option Nat)(n:Nat):PySem.Builtin.Str.strSliceIndices (fP lo) (fP hi) 1 n=sliceRange ((min (lo.getD 0) n:Nat):Int) ((min (hi.getD n) n:Nat):Int) 1:=by
 rw[←sv,←sr];rfl
theorem tR(a b:Nat):sliceRange (a:Int) (b:Int) 1=(List.range (b - a)).map (a+·):=by
 unfold sliceRange
 simp only [show(1:Int) > 0 by decide,if_true]
 have e:(if(a:Int) < b then((b:Int) - a+1 - 1) / 1 else 0).toNat=b - a:=by
  rw[Int.ediv_one]
  by_cases q:(a:Int) < b
  ·rw[if_pos q];lia
  ·rw[if_neg q];lia
 rw[e]
 apply List.map_congr_left
 intro k _
 lia
theorem Dw(l:List Nat)(a:Nat):∀n,((List.range n).map (a+·)).filterMap (fun i=>l[i]?)=(l.drop a).take n:=by
  intro n
  induction n with
  |zero=>simp
  | succ n ih=>
    rw[List.range_succ,List.map_append,List.filterMap_append,ih,List.take_add_one,List.getElem?_drop]
    simp only [List.map_cons,List.map_nil,List.filterMap_cons,List.filterMap_nil]
    cases l[a+n]? <;> rfl
theorem yE(x:Str)(lo hi:Option Nat):Txt.slice x (fP lo) (fP hi)=⟨(cut x.cps.toList lo hi).toArray⟩:=by
 have hx:x.length=x.cps.toList.length:=by simp[Str.length]
 have key:(PySem.Builtin.Str.strSliceIndices (fP lo) (fP hi) 1 x.length).filterMap (x.cps[·]?)=cut x.cps.toList lo hi:=by
  rw[kW,tR,f9,←Dw,hx]
  simp
 unfold Txt.slice
 show(if(_&&(PySem.Builtin.Str.strSliceIndices (fP lo) (fP hi) 1 x.length).length==x.length)=true then x else _)=_
 rw[beq_self_eq_true,Bool.true_and]
 by_cases h:((PySem.Builtin.Str.strSliceIndices (fP lo) (fP hi) 1 x.length).length==x.length)=true
 ·rw[if_pos h]
  have hl:(PySem.Builtin.Str.strSliceIndices (fP lo) (fP hi) 1 x.length).length=x.length:=by simpa using h
  rw[kW,tR]at hl
  simp only [List.length_map,List.length_range]at hl
  have:cut x.cps.toList lo hi=x.cps.toList:=by
   rw[f9,←hx]
   have h0:min (lo.getD 0) x.length=0:=by lia
   have h1:min (hi.getD x.length) x.length=x.length:=by lia
   rw[h0,h1,List.drop_zero,Nat.sub_zero,hx,List.take_length]
  rw[this]
 ·rw[if_neg h,key]
theorem E8{α:Type}{l:List α}{lo hi:Option Nat}{x:α}(h:x∈cut l lo hi):x∈l:=by
 rw[f9]at h
 exact List.mem_of_mem_drop (List.mem_of_mem_take h)
theorem zD{x:Str}{lo hi:Option Nat}(h:PyData.strOk x=true):PyData.strOk (⟨(cut x.cps.toList lo hi).toArray⟩:Str)=true:=by
 unfold PyData.strOk at h ⊢
 rw[←Array.all_toList,List.all_eq_true]at h ⊢
 exact fun y hy=>h y (E8 hy)
theorem xe(o:Option Nat):fP o=o.map Int.ofNat:=by cases o <;> rfl
theorem yH{cx:Cx}{H:HP}{ρ:List Addr}{frs:aJ}{σ:St}{s:Shared}{b:Array UInt8}{t:Tok}{vl vu:Value}{S:Addr}{value:Expr}{el eu:Option Expr}{p:Pos}{lo hi:Option Nat}{kk:Bool}{Q:V→St→Prop}{Q':Value→Shared→Prop}{EE:Value→Shared→Prop}
  (N:az (pm w T) base cx H ρ σ frs s.heap) (hslice:Heap.IsSliceOf s.heap S vl vu .none) (pl:IsPart vl (fP lo)) (pu:IsPart vu (fP hi)) (hf:few (aw b).length=true) (h:Q (.bytes kk (cut (aw b) lo hi)) σ) (a:c5 w T base cx frs H ρ s Q Q') :
  wpAny (model prog w) cx.A (subscriptTail value (.Slice el eu none p) (.bytes b t) (.ref S)) Q' EE s:=by
 have hl:(aw b).length=b.size:=by unfold aw;rw[List.length_map,Array.length_toList]
 have hsz:b.size≤sizeLine:=by rw[←hl];exact dB hf
 refine jF (typeIs_bytes _ _ _) FB.slot_bytes_getitem.lookup rfl (getItem_meets (typeIs_bytes _ _ _) (by decide) FB.slot_bytes_getitem FB.entry_bytes_getitem (FB.args_bytes_getitem_2 _ _) (KBc.meets_slice2 b t _ pl pu)
  ⟨hslice,Nat.le_trans (KBc.size_picked_le b _ _) hsz,fun t' k=>?_⟩)
 have e:aw (KBy.picked b (fP lo) (fP hi))=cut (aw b) lo hi:=by
  have z:aw (KBy.picked b (fP lo) (fP hi))=_:=KBc.ints_picked (b:=b) (ks:=aw b) rfl (fP lo) (fP hi)
  rw[z,f9,xe,xe]
  cases lo <;> cases hi <;> simp only [Option.map,Option.elim,Option.getD,Int.ofNat_eq_natCast,clipAt_nat,Nat.min_self,Nat.zero_min]
 have q:ag (pm w T) H ρ (.bytes kk (aw (KBy.picked b (fP lo) (fP hi)))) (.bytes (KBy.picked b (fP lo) (fP hi)) t'):=.bytes
 rw[e]at q
 exact a _ _ σ H ρ _ N .toks q h
theorem o5{cx:Cx}{H:HP}{ρ:List Addr}{frs:aJ}{σ:St}{s:Shared}{ad:Addr}{rs:List Value}{k:Nat}{xs:List Int}{vl vu:Value}{S:Addr}{value:Expr}{el eu:Option Expr}{p:Pos}{lo hi:Option Nat}{kb:Bool}{Q:V→St→Prop}{Q':Value→Shared→Prop}{EE:Value→Shared→Prop}
  (N:az (pm w T) base cx H ρ σ frs s.heap) (hslice:Heap.IsSliceOf s.heap S vl vu .none) (pl:IsPart vl (fP lo)) (pu:IsPart vu (fP hi)) (hob:s.heap.get? ad=some (aA rs k)) (hx:IntsAre rs xs) (hl:xs.length≤1000) (h:Q (.irow kb (cut xs lo hi)) σ) (a:c5 w T base cx frs H ρ s Q Q') :
  wpAny (model prog w) cx.A (subscriptTail value (.Slice el eu none p) (.ref ad) (.ref S)) Q' EE s:=by
 have hL:s.heap.IsList ad rs.toArray:=⟨_,hob,rfl,_,rfl⟩
 refine jF hL.typeIs list_getitem_lookup rfl (wpAny_getItem_list_slice hL hslice pl pu .none (by simp) ?_ (by rw[List.size_toArray,hx.length];exact Nat.le_trans hl (by rw[sizeLine_eq];decide)))
 rw[wQ]
 refine jD (o7 (k:=kb) N (th lo hi hx)) fun N₂ L₂ R₂=>?_
 exact a _ _ σ _ ρ _ N₂ L₂ R₂ h
theorem zi{cx:Cx}{H:HP}{ρ:List Addr}{frs:aJ}{σ:St}{s:Shared}{ad:Addr}{rs:List Value}{k:Nat}{vs:List V}{vl vu:Value}{S:Addr}{value:Expr}{el eu:Option Expr}{p:Pos}{lo hi:Option Nat}{Q:V→St→Prop}{Q':Value→Shared→Prop}{EE:Value→Shared→Prop}
  (N:az (pm w T) base cx H ρ σ frs s.heap) (hslice:Heap.IsSliceOf s.heap S vl vu .none) (pl:IsPart vl (fP lo)) (pu:IsPart vu (fP hi)) (hob:s.heap.get? ad=some (aA rs k)) (hvs:ai (pm w T) H ρ vs rs) (hf:few vs.length=true) (h:bo σ.ob (.list (cut vs lo hi)) fun v ob=>Q v ⟨σ.fm,ob⟩) (a:c5 w T base cx frs H ρ s Q Q') :
  wpAny (model prog w) cx.A (subscriptTail value (.Slice el eu none p) (.ref ad) (.ref S)) Q' EE s:=by
 have hL:s.heap.IsList ad rs.toArray:=⟨_,hob,rfl,_,rfl⟩
 refine jF hL.typeIs list_getitem_lookup rfl (wpAny_getItem_list_slice hL hslice pl pu .none (by simp) ?_ (by rw[List.size_toArray,←aN hvs];exact dB hf))
 rw[wQ]
 refine mA (fS (rs:=cut rs lo hi) N (zb lo hi hvs) h) fun v σ' H' ρ' N₂ L₂ R₂ h₂=>?_
 exact a v _ σ' H' ρ' _ N₂ L₂ R₂ h₂
theorem zP{A:Around}{s:Shared}{x:Str}{t:Tok}{vl vu:Value}{lo hi:Option Nat}{Q':Value→Shared→Prop}{EE:Value→Shared→Prop}(pl:IsPart vl (fP lo))(pu:IsPart vu (fP hi))(hf:few x.length=true)
  (q:∀(h':Heap) (t':Tok) (k:Nat),(∀b o,s.heap.get? b=some o→h'.get? b=some o)→Q' (.str ⟨(cut x.cps.toList lo hi).toArray⟩ t') {s with heap:=h',toks:=k}) :
  ItemOn (model prog w) A EE (.str x t) (.ref s.heap.objs.size) Q' {s with heap:=s.heap.push {cls:=.type "slice",data:=.fields #[vl,vu,.none]}}:=by
 have hP:KeptH fun h'=>∀b o,s.heap.get? b=some o→h'.get? b=some o:=fun h' ob hk b o e=>Heap.get?_push_of_some _ (hk b o e)
 rw[←yE]at q
 cases lo <;> cases hi <;> cases pl <;> cases pu
 ·exact SBH.sliceItem_nn hP (fun _ _ e=>e) q (dB hf)
 ·exact SBH.sliceItem_ns hP (fun _ _ e=>e) q (dB hf)
 ·exact SBH.sliceItem_sn hP (fun _ _ e=>e) q (dB hf)
 ·exact SBH.sliceItem_ss hP (fun _ _ e=>e) q (dB hf)
theorem BC{cx:Cx}{H:HP}{ρ:List Addr}{frs:aJ}{σ:St}{s:Shared}{o:V}{ro vl vu:Value}{value:Expr}{el eu:Option Expr}{p:Pos}{lo hi:Bd}{Q:V→St→Prop}{Q':Value→Shared→Prop}{EE:Value→Shared→Prop}
  (N:az (pm w T) base cx H ρ σ frs s.heap) (ho:ag (pm w T) H ρ o ro) (pl:IsPart vl (fP (xU lo))) (pu:IsPart vu (fP (xU hi))) (h:D0 σ.ob o lo hi fun v ob=>Q v ⟨σ.fm,ob⟩) (a:c5 w T base cx frs H ρ s Q Q') :
  wpAny (model prog w) cx.A (subscriptTail value (.Slice el eu none p) ro (.ref s.heap.objs.size)) Q' EE {s with heap:=s.heap.push {cls:=.type "slice",data:=.fields #[vl,vu,.none]}}:=by
 refine aW N.inv fun m mc I F=>?_
 have hslice:=Heap.IsSliceOf.new s.heap vl vu .none
 have up:∀b o,s.heap.get? b=some o→(s.heap.push {cls:=.type "slice",data:=.fields #[vl,vu,.none]}).get? b=some o:=fun b o e=>Heap.get?_push_of_some _ e
 have N':=N.heap up
 have a':c5 w T base cx frs H ρ {s with heap:=s.heap.push {cls:=.type "slice",data:=.fields #[vl,vu,.none]}} Q Q':=fun v r σ' H' ρ' s' N₂ L₂=>a v r σ' H' ρ' s' N₂ ⟨L₂.le,L₂.new,L₂.grows,L₂.gens,L₂.drawn,L₂.os⟩
 refine du h (fun q e h=>ho.cY e fun b t er eb=>cg h fun hf h=>?_) fun _ h=>du h (fun q e h=>ho.cW e fun rs ad k x hx er=>cg h fun hf h=>?_) fun _ h=>du h (fun x e h=>ho.cK e fun t hx er=>a8 h fun hf h=>?_)
  fun _ h=>aB h fun vs es h=>a8 h fun hf h=>jU I ho es fun ad rs k er hob hvs=>nM h (fun _ h=>?_) fun _ h=>aB h fun l el h=>?_
 all_goals rw[er]
 ·rw[eb]at hf h;exact yH N' hslice pl pu hf h a'
 ·exact o5 N' hslice pl pu (up _ _ (I.frz _ _ x)) hx (Nat.le_of_ble_eq_true hf) h a'
 ·refine c9 (zP (prog:=prog) (w:=w) (A:=cx.A) (EE:=EE) (t:=t) (Q':=Q') pl pu hf fun h' t' k hk=>a _ _ σ H ρ _ (N.heap hk) .heap (.str (zD hx)) h) fun Ty id g1 g2 g3=>?_
  exact jF g2 g1 rfl g3
 ·exact zi N' hslice pl pu (up _ _ hob) hvs hf h a'
 ·have hx:=gE hvs el
  exact o5 N' hslice pl pu (up _ _ hob) hx (by rw[←hx.length,←aN hvs];exact Nat.le_of_ble_eq_true hf) h a'
theorem f5{l:List Env}{frs frs':aJ}(k:∀p∈frs,p∈frs')(h:bH l frs):bH l frs':=⟨fun env he=>
 let ⟨h1,L,φ,h2,h3,h4⟩:=h.1 env he;⟨h1,L,φ,h2,k _ h3,h4⟩,fun q hq=>k _ (h.2 q hq)⟩
theorem mu{l:List Env}{p:Addr×Fp}{frs:aJ}(h:bH l frs):bH l (p::frs):=⟨fun env he=>
 let ⟨h1,L,φ,h2,h3,h4⟩:=h.1 env he;⟨h1,L,φ,h2,.tail _ h3,h4⟩,fun q hq=>.tail _ (h.2 q hq)⟩
theorem az.enter{P:Pm}{cx:Cx}{H:HP}{ρ:List Addr}{σ:St}{frs:aJ}{h h':Heap}(N:az P base cx H ρ σ frs h){φ:Fp}(hn:∃o,h'.get? h.objs.size=some o∧φ.φ H o)(k:∀b o,h.get? b=some o→h'.get? b=some o):az P base cx H ρ σ ((h.objs.size,φ)::frs) h':=
 let ⟨m,mc,I,F⟩:=N.inv
 ⟨⟨m,mc,(I.enter2 hn k).perm (List.Perm.cons _ List.perm_middle.symm),F⟩,N.len,mu N.outer,N.self.imp id fun⟨ψ,h1,h2⟩=>⟨ψ,.tail _ h1,h2⟩⟩
structure fc(cx:Cx)(frs:aJ):Prop where
 outer:bH cx.outer frs
 self:cx.L0=cx.L∨∃φ,(cx.L0,φ)∈frs∧cy φ
theorem az.home{P:Pm}{cx:Cx}{H:HP}{ρ:List Addr}{σ:St}{frs:aJ}{h:Heap}(N:az P base cx H ρ σ frs h):fc cx frs:=⟨N.outer,N.self⟩
theorem fc.more{cx:Cx}{frs:aJ}{p:Addr×Fp}(x:fc cx frs):fc cx (p::frs):=⟨mu x.outer,x.self.imp id fun⟨ψ,h1,h2⟩=>⟨ψ,.tail _ h1,h2⟩⟩
theorem az.iter{P:Pm}{cx:Cx}{H:HP}{ρ:List Addr}{σ:St}{frs:aJ}{h h':Heap}{J:Addr}{φ φ':Fp}(N:az P base cx H ρ σ ((J,φ)::frs) h)(hm:fc cx frs)(k:∀b o,b≠J→h.get? b=some o→h'.get? b=some o)(hJ:∃o,h'.get? J=some o∧φ'.φ H o):az P base cx H ρ σ ((J,φ')::frs) h':=
 let ⟨m,mc,I,F⟩:=N.inv
 ⟨⟨m,mc,((I.perm (List.Perm.cons _ List.perm_middle)).iter k hJ).perm (List.Perm.cons _ List.perm_middle.symm),F⟩,N.len,hm.more.outer,hm.more.self⟩
theorem az.past{P:Pm}{cx:Cx}{H:HP}{ρ:List Addr}{σ:St}{frs:aJ}{h h':Heap}{J:Addr}{φ:Fp}(N:az P base cx H ρ σ ((J,φ)::frs) h)(hm:fc cx frs)(k:∀b o,b≠J→h.get? b=some o→h'.get? b=some o):az P base cx H ρ σ frs h':=
 let ⟨m,mc,I,F⟩:=N.inv
 ⟨⟨m,mc,(I.perm (List.Perm.cons _ List.perm_middle)).past k,F⟩,N.len,hm.outer,hm.self⟩
theorem az.leave{P:Pm}{cx:Cx}{H:HP}{ρ:List Addr}{σ:St}{frs:aJ}{h:Heap}{J:Addr}{φ:Fp}(N:az P base cx H ρ σ ((J,φ)::frs) h)(hm:fc cx frs):az P base cx H ρ σ frs h:=N.past hm fun _ _ _ e=>e
end
end
section
section
variable {prog:Program}{w:World}{T:Nat→V}{base:Heap}{c:ck}{K:Frag}{E:Ev}{n:Nat}
theorem mf{P:Pm}{H:HP}{ρ:List Addr}{vs ws:List V}{rs ts:List Value}(a:ai P H ρ vs rs)(b:ai P H ρ ws ts):ai P H ρ (bc vs ws) (rs++ts):=by rw[qK];exact ie a b
theorem Iw{x:Int}(h:OX x=true):x=0:=jI h fun n en h=>by rw[fU en,Nat.eq_of_beq_eq_true h];rfl
theorem MB{x:Int}(h:SG x=true):x=1:=jI h fun n en h=>by rw[fU en,Nat.eq_of_beq_eq_true h];rfl
theorem uy{k:Bool}{x:Int}{p q:Prop}(h:HW k x p q):(x=0∧p)∨(x=1∧q):=by
  cases k with
  |true=>exact nM (b:=OX x) h (fun e h=>.inl ⟨Iw e,h⟩) fun _ h=>a8 h fun e h=>.inr ⟨MB e,h⟩
  | false=>
    refine jD h fun e h1 h2=>?_
    exact e.elim (fun e=>.inl ⟨e,h1 e⟩) fun e=>.inr ⟨e,h2 e⟩
theorem xq{cx:Cx}{H:HP}{ρ:List Addr}{frs:aJ}{σ:St}{s:Shared}{x y:V}{rx ry:Value}{Q:V→St→Prop}{Q':Value→Shared→Prop}{EE:Value→Shared→Prop}(N:az (pm w T) base cx H ρ σ frs s.heap)
  (hx:ag (pm w T) H ρ x rx) (hy:ag (pm w T) H ρ y ry) (h:K5 σ.ob x y fun v ob=>Q v ⟨σ.fm,ob⟩) (a:c5 w T base cx frs H ρ s Q Q'):wpAny (model prog w) cx.A (binaryOp .Add rx ry) Q' EE s:=by
 refine aW N.inv fun m mc I F=>?_
 refine aB h fun p e1 h=>aB h fun q e2 h=>cg h fun h1 h=>ar h1 fun l1 l2=>wg I hx e1 fun ad rs j er ho hr=>wg I hy e2 fun bd ts j' es ho' hr'=>?_
 have z1:=Nat.le_of_ble_eq_true l1
 have z2:=Nat.le_of_ble_eq_true l2
 rw[←hr.length]at z1
 rw[←hr'.length]at z2
 rw[er,es]
 refine PySem.P.add_list (n:=j) (n2:=j') (items:=rs.toArray) (items2:=ts.toArray) ho ho' ?_ (by rw[List.size_toArray,List.size_toArray,sizeLine_eq];lia)
 rw[show rs.toArray++ts.toArray=(rs++ts).toArray from List.append_toArray ..]
 have hrs:IntsAre (rs++ts) (bc p.2 q.2):=by rw[qK];exact hr.append hr'
 refine jD (o7 (k:=ay p.1 q.1) N hrs) fun N₂ L₂ R₂=>?_
 exact a _ _ ⟨σ.fm,σ.ob⟩ _ ρ _ N₂ L₂ R₂ h
theorem vc{P:Pm}{H:HP}{ρ:List Addr}{ob:Tr}{v:V}{r:Value}{p:Bool×List V}(hv:ag P H ρ v r)(e:jq ob v=some p)(b:p.1=true):ag P H ρ (.tup p.2) r:=by
 have no (vs:List V) (e:some (false,vs)=some p):False:=by rw[←ae e]at b;cases b
 exact cP e (fun vs e1 e=>by rw[←ae e];exact Ji e1▸hv) fun _ e=>cP e (fun vs _ e=>(no _ e).elim) fun _ e=>au e fun i _ e=>cP e (fun vs _ e=>(no _ e).elim) fun _ e=>au e fun u _ e=>au e fun vs _ e=>(no _ e).elim
section
variable {cx:Cx}{H:HP}{ρ:List Addr}{frs:aJ}{σ:St}{s:Shared}{Q:V→St→Prop}{Q':Value→Shared→Prop}{EE:Value→Shared→Prop}
theorem HJ{x y:V}{rx ry:Value}{p q:Bool×List V}(N:az (pm w T) base cx H ρ σ frs s.heap)(hx:ag (pm w T) H ρ x rx)(hy:ag (pm w T) H ρ y ry)(e1:jq σ.ob.tr x=some p)(e2:jq σ.ob.tr y=some q)
  (h:M5 σ.ob p.1 q.1 p.2 q.2 fun v ob=>Q v ⟨σ.fm,ob⟩) (a:c5 w T base cx frs H ρ s Q Q'):wpAny (model prog w) cx.A (binaryOp .Add rx ry) Q' EE s:=by
 refine aW N.inv fun m mc I F=>?_
 refine a8 h fun hf h=>ar hf fun hf1 hf2=>gL I hx e1 fun ad rs k er ho hv=>gL I hy e2 fun bd ts k' es ho' hw=>?_
 have z1:=Nat.le_of_ble_eq_true hf1
 have z2:=Nat.le_of_ble_eq_true hf2
 rw[aN hv]at z1
 rw[aN hw]at z2
 refine nM h (fun t1 h=>a8 h fun t2 h=>?_) fun t1 h=>a8 h fun t2 h=>?_
 ·have tx:=vc hx e1 t1
  have ty:=vc hy e2 t2
  rw[t1]at ho
  rw[t2]at ho'
  rw[er]at tx ⊢
  rw[es]at ty ⊢
  refine c9 N.ns fun m mc I F hns=>?_
  have hsz:rs.length+ts.length≤sizeLine:=by rw[sizeLine_eq];lia
  refine add_tuples (dK hns) gQ ⟨_,ho,rfl,_,rfl⟩ ⟨_,ho',rfl,_,rfl⟩ (fun e=>?_) (fun e1 e2=>?_) (fun _ _ h' F' N'=>?_) hsz
  ·rw[e]at hv
   rw[List.length_eq_zero_iff.mp (aN hv)]at h
   exact a _ _ σ H ρ s N .refl ty h
  ·rw[e2]at hw
   rw[List.length_eq_zero_iff.mp (aN hw),qK,List.append_nil]at h
   exact a _ _ σ H ρ s N .refl tx h
  ·refine a7 (ic (tk:=s.toks) N (jE (pre:=[_]) N') (ia hns F') fQ (N' _ (.head _)).1) fun N₂ L₂=>?_
   exact a _ _ σ _ ρ _ N₂ L₂ (.tup HP.new (mf (hv.mono HP.le .refl) (hw.mono HP.le .refl))) h
 ·rw[t1]at ho
  rw[bS t2]at ho'
  rw[er,es]
  refine PySem.P.add_list (n:=k) (n2:=k') (items:=rs.toArray) (items2:=ts.toArray) ho ho' ?_ (by rw[List.size_toArray,List.size_toArray,sizeLine_eq];lia)
  rw[show rs.toArray++ts.toArray=(rs++ts).toArray from List.append_toArray ..]
  refine mA (fS N (mf hv hw) h) fun v σ' H' ρ' N' L' R' h'=>?_
  exact a v _ σ' H' ρ' _ N' L' R' h'
theorem DY{ad:Addr}{rs:List Value}{k:Nat}{x:Int}{u:Tok}(N:az (pm w T) base cx H ρ σ frs s.heap)(ho:s.heap.get? ad=some (aA rs k))(hf:rs.length≤200)(hx:x=0∨x=1)
  (q:∀D h',(∀b o,b≠cx.L→s.heap.get? b=some o→h'.get? b=some o)→(∀m,s.heap.Ns cx.L m→h'.Ns cx.L m)→s.heap.get? D=none→h'.get? D=some (aA (if x=1 then rs else[]) 0)→Q' (.ref D) {s with heap:=h'}):wpAny (model prog w) cx.A (binaryOp .Mult (.ref ad) (.int x u)) Q' EE s:=by
 refine c9 N.ns fun m mc I F hns=>?_
 refine KMa.mul (ws:=if x=1 then rs else[]) (dK hns) gQ ⟨_,ho,rfl,_,rfl⟩ ?_ ?_ ?_ ?_ fun D h' F' N' hl=>q D h' (jE (pre:=[_]) N') (ia hns F') (tF hl (N' _ (.head _)).2.1) (N' _ (.head _)).1
 ·rcases hx with rfl|rfl <;> decide
 ·rcases hx with rfl|rfl <;> decide
 ·rcases hx with rfl|rfl
  ·simp
  ·simp;lia
 ·rcases hx with rfl|rfl <;> simp
theorem Fd{x y:V}{rx ry:Value}{p:Bool×List V}(N:az (pm w T) base cx H ρ σ frs s.heap)(hx:ag (pm w T) H ρ x rx)(hy:ag (pm w T) H ρ y ry)(e1:jq σ.ob.tr x=some p)(b1:p.1=false)
  (h:M4 p.2 y σ Q) (a:c5 w T base cx frs H ρ s Q Q'):wpAny (model prog w) cx.A (binaryOp .Mult rx ry) Q' EE s:=by
 refine aW N.inv fun m mc I F=>?_
 refine a8 h fun hf h=>aB h fun i ei h=>hy.cI ei fun t ey=>gL I hx e1 fun ad rs k er ho hv=>?_
 have hf:=Nat.le_of_ble_eq_true hf
 rw[aN hv]at hf
 rw[b1]at ho
 rw[er,ey]
 refine nM h (fun _ h=>(uy h).elim (fun⟨e,h⟩=>?_) fun⟨e,h⟩=>?_) fun _ h=>aB h fun l el h=>cg h fun h1 h=>?_
 ·refine DY N ho hf (.inl e) fun D h' k1 k2 k3 k4=>?_
  rw[e,if_neg (by decide)]at k4
  refine nT (f6 (tk:=s.toks) N k1 k2 k3 k4 .nil h) fun v σ' ρ' N₂ L₂ R₂ h₂=>?_
  exact a v _ σ' H ρ' _ N₂ L₂ R₂ h₂
 ·refine DY N ho hf (.inr e) fun D h' k1 k2 k3 k4=>?_
  rw[if_pos e]at k4
  refine nT (f6 (tk:=s.toks) N k1 k2 k3 k4 hv h) fun v σ' ρ' N₂ L₂ R₂ h₂=>?_
  exact a v _ σ' H ρ' _ N₂ L₂ R₂ h₂
 ·have hi:=gE hv el
  have hx01:i.2=0∨i.2=1:=gK h1 (fun e _=>.inl (eq_of_beq e)) fun _ e=>.inr (eq_of_beq e)
  refine DY N ho hf hx01 fun D h' k1 k2 k3 k4=>?_
  refine a7 (ic (tk:=s.toks) N k1 k2 k3 k4) fun N₂ L₂=>?_
  refine a _ _ σ _ ρ _ N₂ L₂ (.irow HP.new ?_) h
  unfold fN
  rcases hx01 with e|e
  ·rw[e];exact .nil
  ·rw[e];exact hi
theorem Kf{op:Operator}{x y:V}{rx ry:Value}(N:az (pm w T) base cx H ρ σ frs s.heap)
  (hx:ag (pm w T) H ρ x rx) (hy:ag (pm w T) H ρ y ry) (h:As op x y σ Q) (a:c5 w T base cx frs H ρ s Q Q'):wpAny (model prog w) cx.A (binaryOp op rx ry) Q' EE s:=by
 have pl {op:Operator} (h:AJ op x y (fun v=>Q v σ)):wpAny (model prog w) cx.A (binaryOp op rx ry) Q' EE s:=Gb h hx hy fun v r t' hv hk=>a v r σ H ρ _ N .toks hv hk
 cases op with
 |Add=>exact du h (fun p e1 h=>du h (fun q e2 h=>HJ N hx hy e1 e2 h a) fun _ h=>xq N hx hy h a) fun _ h=>nM h (fun _ h=>xq N hx hy h a) fun _ h=>pl h
 |Mult=>exact du h (fun p e1 h=>a8 h fun b h=>Fd N hx hy e1 (bS b) h a) fun _ h=>pl h
 |_=>exact pl h
end
theorem fF{o:Expr}(hb:pO o=true)(name:Str)(env:Env)(whole:Sem Value):attributeBase o name env whole=whole:=by
  cases o with
  | Call f as kw p=>
    cases f with
    | Name=>cases as with
      |cons=>rfl
      |nil=>cases hb
    |_=>rfl
  |_=>first|rfl|cases hb
theorem jx(o:Expr)(name:Str)(pos:Pos)(env:Env):eval (.Attribute o name pos) env=(do
  let ov ←attributeBase o name env (eval o env)
  standAt pos.atName
  let r ←holding [ov] (getAttr ov name true)
  letTemporaryGo o ov r
  pure r):=rfl
theorem iY(o:Expr)(name:Str)(apos pos:Pos)(as:List Expr)(env:Env):eval (.Call (.Attribute o name apos) as [] pos) env=(do
  let ov ←attributeBase o name env (eval o env)
  standAt apos.atName
  methodCall o name apos pos env ov (as.length+0) (backTo pos (starEach as env)) []):=rfl
theorem qz{A:Around}{EE:Value→Shared→Prop}{s:Shared}{env:Env}{o:Expr}{name:Str}{pos:Pos}{Q:Value→Shared→Prop}(hb:pO o=true)
  (h:wpAny (model prog w) A (eval o env) (fun ov s₁=>wpAny (model prog w) A (getAttr ov name true) Q EE s₁) EE s):wpAny (model prog w) A (eval (.Attribute o name pos) env) Q EE s:=by
 refine Attribute_any_ h ?_
 rw[jx,fF hb]
theorem iN{A:Around}{EE:Value→Shared→Prop}{s:Shared}{env:Env}{o:Expr}{name:Str}{apos pos:Pos}{as:List Expr}{Q:Value→Shared→Prop}(hb:qB o as apos pos=true)(hp:bb dj as=true)
  (h:∀pl:Sem Bool,wpAny (model prog w) A (eval o env) (fun ov s₁=>wpAny (model prog w) A (getMethod ov name pl) (fun fx s₂=>wpAny (model prog w) A (callWith pos fx.1 fx.2 (backTo pos (starEach as env)) []) Q EE s₂) EE s₁) EE s) :
  wpAny (model prog w) A (eval (.Call (.Attribute o name apos) as [] pos) env) Q EE s:=by
 refine a7 (d3 hb) fun h1 hb=>?_
 refine a7 (d3 hb) fun h2 hb=>?_
 refine MethodCall_ (pl:=do return (←importBound o env).getD true) (h _) ?_
 rw[iY,fF h1]
 have few:methodCallForm (as.length+0) (backTo pos (starEach as env)) []=true:=by
  unfold methodCallForm
  have z:(backTo pos (starEach as env)).all (!·.1)=true:=by
   have:=hZ (pos:=pos) (env:=env) hp
   rw[List.all_eq_not_any_not]
   simp only [Bool.not_not]
   rw[this];rfl
  rw[z]
  simp
  exact Nat.le_of_ble_eq_true h2
 unfold methodCall calleeOf methodCallPos
 rw[few]
 simp only [Bool.not_true,Bool.false_or,hb,if_true,pure_bind]
end
end
section
section
variable {prog:Program}{w:World}{T:Nat→V}{base:Heap}{c:ck}{K:Frag}{E:Ev}{n:Nat}
theorem aM.adopt{P:Pm}{h:Heap}{H:HP}{ρ:List Addr}{frs:aJ}{ob ob':Tr}{d:Addr}{φ:Fp}{x:O}(I:aM P base H ρ ((d,φ)::frs) ob h)(hob:∀i,ob'.get i=if i=ρ.length then some x else ob.get i)
  (hx:cX P H (ρ++[d]) h d x):aM P base H (ρ++[d]) frs ob' h:=by
 have J:=I.leave
 have nR:d∉ρ:=fun q=>I.rf d q (.head _)
 have nF:d∉frs.map (·.1):=by
  have:=I.frDup
  rw[List.map_cons,List.nodup_cons]at this
  exact this.1
 have⟨nb,nH⟩:=I.frNew _ (.head _)
 refine aq (I.frNs _ (.head _)) fun o ho _=>?_
 refine{J with own:=?_,dup:=?_,there:=?_,rf:=?_}
 ·intro i y e
  rw[hob]at e
  by_cases q:i=ρ.length
  ·subst q
   rw[if_pos rfl]at e
   cases e
   exact⟨d,by simp,hx,fun _=>⟨nb,nH,nF⟩⟩
  ·rw[if_neg q]at e
   refine cJ (J.own i y e) fun a h1 h2 h3=>?_
   exact⟨a,bN.more _ _ h1,h2.mono (fun _ _ x=>x) .more (fun _ x=>x),h3⟩
 ·exact List.nodup_append.mpr ⟨I.dup,List.nodup_cons.mpr ⟨by simp,List.nodup_nil⟩,fun a ha b hb e=>by
   rw[List.mem_singleton.mp hb]at e
   exact nR (e▸ha)⟩
 ·intro a ha
  rcases List.mem_append.mp ha with q|q
  ·exact J.there a q
  ·rw[List.mem_singleton.mp q];exact⟨_,ho⟩
 ·intro a ha
  rcases List.mem_append.mp ha with q|q
  ·exact J.rf a q
  ·rw[List.mem_singleton.mp q];exact nF
theorem az.adopt{P:Pm}{cx:Cx}{H:HP}{ρ:List Addr}{σ:St}{frs:aJ}{h:Heap}{d:Addr}{φ:Fp}{x:O}{Q:V→St→Prop}(N:az P base cx H ρ σ ((d,φ)::frs) h)(hm:fc cx frs)(hx:cX P H (ρ++[d]) h d x)(q:wz σ x Q) :
  ∃v σ',az P base cx H (ρ++[d]) σ' frs h∧ag P H (ρ++[d]) v (.ref d)∧Q v σ':=by
 refine aB q fun y e q=>?_
 refine aW N.inv fun m mc I F=>?_
 have I2:aM P base H ρ ((d,φ)::(cx.L,aK m)::(aC cx.cs mc++frs)) σ.ob.tr h:=I.perm ((List.Perm.cons _ List.perm_middle).trans (List.Perm.swap _ _ _))
 refine⟨_,⟨σ.fm,⟨σ.ob.tr.ins σ.ob.nx x,σ.ob.nx+1⟩⟩,⟨⟨m,mc,I2.adopt ?_ hx,F.mono (fun _ _ e=>e) .more⟩,by rw[List.length_append,←N.len];rfl,hm.outer,hm.self⟩,.ref ?_,q⟩
 ·rw[N.len]
  exact Tr.get_ins x σ.ob.tr σ.ob.nx (by rw[e];rfl)
 ·rw[←N.len];exact List.getElem?_concat_length
structure MW(P:Pm)(H:HP)(ρ:List Addr)(l:List (V×V))(rs:List (Value×Value)):Prop where
 k:ai P H ρ (l.map (·.1)) (rs.map (·.1))
 v:ai P H ρ (l.map (·.2)) (rs.map (·.2))
noncomputable def f7(env:Env)(pos:Pos):List Expr→List Expr→List (Sem Value×Sem Value)
  |[],_=>[]
  | k::ks,l=>match l with
    |[]=>[]
    |v::vs=>(eval k env,do let x ←eval v env;standAt pos;pure x)::f7 env pos ks vs
theorem Ds{env:Env}{pos:Pos}{os:List (Option Expr)}{ks:List Expr}(vs:List Expr)(h:jv os=some ks) :
    (evalEachOpt os env).zip ((evalEach vs env).map fun v=>do let x ←v;standAt pos;pure x)=(f7 env pos ks vs).map fun p=>(some p.1,p.2):=by
  induction os generalizing ks vs with
  |nil=>rw[←ae h];rfl
  | cons o r ih=>
    refine au h fun e eo h=>au h fun l el h=>?_
    rw[eo,←ae h]
    cases vs with
    |nil=>rfl
    |cons v vs=>exact congrArg (_::·) (ih vs el)
theorem Az(S:de prog w T base c.R E n){cx:Cx}{pos:Pos}(O:cx.Ok n){EE:Value→Shared→Prop}{frs:aJ}(ks:List Expr):∀(vs:List Expr) σ Q,lB E cx.sc ks vs σ Q→∀H ρ s (Q':List (Value×Value)→Shared→Prop),az (pm w T) base cx H ρ σ frs s.heap→eY prog w base c.R cx frs H s EE→
    (∀l rs σ' H' ρ' s',az (pm w T) base cx H' ρ' σ' frs s'.heap→aH base H ρ s H' ρ' s'→MW (pm w T) H' ρ' l rs→Q l σ'→Q' rs s')→wpAny (model prog w) cx.A (evalPairs (f7 cx.env pos ks vs)) Q' EE s:=by
  induction ks with
  |nil=>exact fun vs σ Q h H ρ s Q' N X a=>a8 h fun _ h=>evalPairs_nil (a _ _ _ _ _ _ N .refl ⟨.nil,.nil⟩ h)
  | cons k ks ih=>
    intro vs σ Q h H ρ s Q' N X a
    cases vs with
    |nil=>exact h.elim
    | cons v vs=>
      show wpAny _ _ (evalPairs ((eval k cx.env,_)::f7 cx.env pos ks vs)) _ _ _
      (with_reducible refine evalPairs_cons ?_)
      refine S.ex cx _ _ _ O h _ _ _ _ _ _ N X fun v₁ r₁ σ₁ H₁ ρ₁ s₁ N₁ L₁ R₁ h₁=>?_
      refine wpAny_bind ?_
      refine S.ex cx _ _ _ O h₁ _ _ _ _ _ _ N₁ (X.later L₁) fun v₂ r₂ σ₂ H₂ ρ₂ s₂ N₂ L₂ R₂ h₂=>wpAny_bind (wpAny_standAt (wpAny_pure ?_))
      refine ih vs _ _ h₂ _ _ _ _ N₂ (X.later (L₁.trans L₂)) fun l rs σ₃ H₃ ρ₃ s₃ N₃ L₃ R₃ h₃=>?_
      exact a ((v₁,v₂)::l) _ _ _ _ _ N₃ ((L₁.trans L₂).trans L₃) ⟨.cons (R₁.mono (L₂.trans L₃).le (L₂.trans L₃).grows) R₃.k,.cons (R₂.mono L₃.le L₃.grows) R₃.v⟩ h₃
noncomputable def jP(P:Pm)(H:HP)(ρ:List Addr)(kvs:List (V×V))(o:Obj):Prop:=∃es n,o=dictOf es n∧bF P H ρ kvs es
theorem Cq{k v:V}(l:List (V×V)):(fo k v l).length≤l.length+1:=by
  induction l with
  |nil=>exact Nat.le_refl _
  | cons p r ih=>
    show(bX (bu k p.1) ((p.1,v)::r) (p::fo k v r)).length≤_
    cases bu k p.1 with
    |true=>exact Nat.le_succ _
    |false=>exact Nat.succ_le_succ ih
theorem y9{cx:Cx}{EE:Value→Shared→Prop}{frs:aJ}{H:HP}{ρ:List Addr}{σ:St}{d:Addr}(hm:fc cx frs)(hu:cx.A.units < cLine)(low:(d==sysModules)=false){A':Around}(hA:A'.units=cx.A.units)(l:List (V×V)):∀(rs:List (Value×Value)) (acc es:List (V×V)) (s:Shared) (Q:PUnit→Shared→Prop),
    qL acc l=some es→MW (pm w T) H ρ l rs→ba acc→az (pm w T) base cx H ρ σ ((d,gi (jP (pm w T) H ρ acc))::frs) s.heap→acc.length+l.length≤15→
    (∀h' tk,ba es→az (pm w T) base cx H ρ σ ((d,gi (jP (pm w T) H ρ es))::frs) h'→Q PUnit.unit {s with heap:=h',toks:=tk})→
    wpAny (model prog w) A' (forIn rs PUnit.unit fun(x:Value×Value) (_:PUnit)=>(do dictSet d x.1 x.2;pure (ForInStep.yield PUnit.unit):Sem (ForInStep PUnit))) Q EE s:=by
  induction l with
  | nil=>
    intro rs acc es s Q e R ap N _ q
    rw[←ae e]at q
    cases rs with
    |nil=>rw[List.forIn_nil];exact wpAny_pure (q _ s.toks ap N)
    |cons _ _=>exact R.k.nil' fun e=>nomatch e
  | cons p l ih=>
    intro rs acc es s Q e R ap N hl q
    cases rs with
    |nil=>exact R.k.cons' fun _ _ _ _ e=>nomatch e
    | cons r rs=>
      refine bQ e fun hb e=>ar hb fun ik ok=>R.k.cons' fun _ _ k1 k2 ek=>R.v.cons' fun _ _ v1 v2 ev=>?_
      refine a7 (List.cons.inj ek) fun rq0 rq1=>?_;subst rq0;subst rq1
      refine a7 (List.cons.inj ev) fun rq0 rq1=>?_;subst rq0;subst rq1
      refine aW N.inv fun m mc I F=>?_
      obtain⟨o,ho,es₀,n₀,rfl,hr⟩:=I.frNs (d,gi (jP (pm w T) H ρ acc)) (List.mem_cons_of_mem _ (List.mem_append_right _ (.head _)))
      have D:cf (pm w T) H ρ s.heap d acc:=⟨⟨_,_,ho,hr⟩,low,ap⟩
      rw[List.length_cons]at hl
      rw[List.forIn_cons]
      refine wpAny_bind (wpAny_bind (lL rfl I D ok ik k1 v1 (by lia) (by rw[sizeLine_eq];lia) fun h' tk D' hs=>wpAny_pure ?_))
      refine aW D'.obj fun es' n' b1 b2=>?_
      have N':az (pm w T) base cx H ρ σ ((d,gi (jP (pm w T) H ρ (fo p.1 p.2 acc)))::frs) h':=N.iter hm (fun b o q1 e=>(hs.2 b q1).trans e) ⟨_,b1,es',n',rfl,b2⟩
      have:=Cq (k:=p.1) (v:=p.2) acc
      exact ih rs (fo p.1 p.2 acc) es {s with heap:=h',toks:=tk} Q e ⟨k2,v2⟩ D'.apart N' (by lia) fun h'' tk' a' N''=>q h'' tk' a' N''
theorem Fz{env:Env}{pos:Pos}{ks:List Expr}:∀{vs:List Expr},ks.length=vs.length→(f7 env pos ks vs).length=ks.length:=by
  induction ks with
  |nil=>exact fun _=>rfl
  | cons k ks ih=>intro vs h;cases vs with
    |nil=>cases h
    |cons v vs=>exact congrArg (·+1) (ih (Nat.succ.inj h))
theorem Ad(G:aI prog w T c K base){h:Heap}(k:∀b o,base.get? b=some o→h.get? b=some o):(h.objs.size==sysModules)=false:=by
 refine bz G.low fun so hso=>?_
 exact beq_eq_false_iff_ne.mpr (Nat.ne_of_gt (Heap.lt_size (k _ _ hso)))
noncomputable abbrev Q9:Obj:={cls:=.type "dict",data:=.dict #[]}
theorem rI{cx:Cx}{H:HP}{ρ:List Addr}{frs:aJ}{s:Shared}{σ:St}(N:az (pm w T) base cx H ρ σ frs s.heap):az (pm w T) base cx H ρ σ ((s.heap.objs.size,gi fun o=>o=dictOf [] 0)::frs) (s.heap.push Q9):=
 N.enter ⟨_,Heap.get?_push_size _ rfl,rfl⟩ fun b o e=>Heap.get?_push_of_some _ e
theorem B3(G:aI prog w T c K base)(S:de prog w T base c.R E n){cx:Cx}{p:Pos}{os:List (Option Expr)}{ks:List Expr}{vs:List Expr}(O:cx.Ok (n+1))(eo:jv os=some ks)(h0:f7 cx.env p ks vs≠[])(hl:(f7 cx.env p ks vs).length≤15)
  {σ:St} {Q:V→St→Prop} (h:lB E cx.sc ks vs σ fun l σ₁=>xk l σ₁ Q) {H:HP} {ρ:List Addr} {frs:aJ} {s:Shared} {Q':Value→Shared→Prop} {EE:Value→Shared→Prop} (N:az (pm w T) base cx H ρ σ frs s.heap) (X:eY prog w base c.R cx frs H s EE) (a:c5 w T base cx frs H ρ s Q Q') :
  wpAny (model prog w) cx.A (eval (.Dict os vs p) cx.env) Q' EE s:=by
 rw[arm_eval_Dict,Ds vs eo,dictDisplay_pairs _ h0 (by lia)]
 refine wpAny_bind (wpAny_standAt (wpAny_bind ?_))
 unfold subDict
 refine wpAny_bind (wpAny_alloc ?_)
 refine wpAny_bind (wpAny_holding ?_)
 rw[if_pos hl]
 have low:=Ad G N.keep
 have N':=rI N
 refine wpAny_bind ?_
 refine Az S O.less ks vs σ _ h H ρ _ _ N' (X.more.later (H:=H) (ρ:=ρ) (H':=H) (ρ':=ρ) ⟨fun _ _ e=>e,fun _ _ e=>.inl e,.refl,rfl,rfl,rfl⟩) fun l rs σ₁ H₁ ρ₁ s₁ N₁ L₁ R₁ h₁=>?_
 refine a8 h₁ fun hb h₁=>aB h₁ fun es ee h₁=>?_
 have hb:=Nat.le_of_ble_eq_true hb
 refine wpAny_holding ?_
 have N₁':az (pm w T) base cx H₁ ρ₁ σ₁ ((s.heap.objs.size,gi (jP (pm w T) H₁ ρ₁ []))::frs) s₁.heap:=by
  refine aW N₁.inv fun m mc I F=>?_
  refine aq (I.frNs (s.heap.objs.size,gi fun o=>o=dictOf [] 0) (by simp)) fun o ho hh=>?_
  exact N₁.iter N.home (fun _ _ _ e=>e) ⟨o,ho,[],0,hh,.nil⟩
 refine wpAny_bind (y9 N.home (by have:=O.units;lia) low rfl l rs [] es s₁ _ ee R₁ (List.Pairwise.nil) N₁' (by simpa using hb) fun h' tk ap N₂=>wpAny_pure (wpAny_pure ?_))
 refine aW N₂.inv fun m mc I F=>?_
 obtain⟨o,ho,es',n',rfl,hr⟩:=I.frNs (s.heap.objs.size,gi (jP (pm w T) H₁ ρ₁ es)) (by simp)
 refine c9 (N₂.adopt N.home (.dict ho low ap (hr.mono (fun _ _ e=>e) .more)) h₁) fun v σ' N₃ R₃ q₃=>?_
 exact wpAny_pure<|a v _ σ' H₁ (ρ₁++[s.heap.objs.size]) {s₁ with heap:=h',toks:=tk} N₃ ⟨L₁.le,L₁.new,L₁.grows.trans .more,L₁.gens,L₁.drawn,L₁.os⟩ R₃ q₃
theorem E4(G:aI prog w T c K base)(S:de prog w T base c.R E n){cx:Cx}{p:Pos}{os:List (Option Expr)}{vs:List Expr}(O:cx.Ok (n+1)){σ:St}{Q:V→St→Prop}(h:(C0 E os vs cx.sc).run σ Q){H:HP}{ρ:List Addr}{frs:aJ}{s:Shared}{Q':Value→Shared→Prop}{EE:Value→Shared→Prop}(N:az (pm w T) base cx H ρ σ frs s.heap)(X:eY prog w base c.R cx frs H s EE)(a:c5 w T base cx frs H ρ s Q Q') :
    wpAny (model prog w) cx.A (eval (.Dict os vs p) cx.env) Q' EE s:=by
  refine i9 h fun ks eo h=>?_
  cases ks with
  | nil=>
    refine g9 h fun e1 h=>?_
    have e0:os=[]:=by
      cases os with
      |nil=>rfl
      |cons x r=>exact au eo fun e _ h=>au h fun l _ h=>nomatch ae h
    rw[e0,bU e1]
    (with_reducible refine wpAny_Dict_empty ?_)
    refine c9 ((rI N).adopt N.home (.dict (Heap.get?_push_size _ rfl) (Ad G N.keep) .nil .nil) h) fun v σ' N₃ R₃ q₃=>?_
    exact a v _ σ' H (ρ++[s.heap.objs.size]) _ N₃ ⟨fun _ _ e=>e,fun _ _ e=>.inl e,.more,rfl,rfl,rfl⟩ R₃ q₃
  | cons k ks=>
    refine g9 h fun hb h=>ar hb fun h1 h2=>?_
    have h1:=Nat.eq_of_beq_eq_true h1
    have h2:=Nat.le_of_ble_eq_true h2
    have l:=Fz (env:=cx.env) (pos:=p) h1
    exact B3 G S O eo (fun e=>by rw[e]at l;cases l) (by rw[l];exact h2) h N X a
end
end
section
section
variable {prog:Program}{w:World}{T:Nat→V}{base:Heap}{c:ck}{K:Frag}{E:Ev}{n:Nat}
theorem j8{P:Pm}{cx:Cx}{H:HP}{ρ:List Addr}{frs:aJ}{ob:Tr}{h:Heap}{m mc:bG}{x:Str}{a:Addr}(I:aM P base H ρ ((cx.L,aK m)::(aC cx.cs mc++frs)) ob h)(ha:(x,a)∈cx.cs):∃o,h.get? a=some o∧o.data=.cell (mc x):=
 I.frNs (a,dC (mc x)) (.tail _ (List.mem_append_left _ (List.mem_map.mpr ⟨(x,a),ha,rfl⟩)))
theorem vb{P:Pm}{H:HP}{ρ:List Addr}{cx:Cx}{fm:List (Str×V)}{m mc:bG}{x:Str}{v:V}{r:Value}(F:iC P H ρ cx fm m mc)(hx:cx.sc.names.lookup x=some .local)(hd:(x==("__debug__":Str))=false)(hv:ag P H ρ v r) :
  iC P H ρ cx (put x v fm) (fun y=>if y=x then some r else m y) mc:=by
 intro y u e
 rw[D6]at e
 by_cases q:y=x
 ·rw[if_pos q]at e
  cases e
  subst q
  exact⟨hd,r,.inl ⟨hx,if_pos rfl⟩,hv⟩
 ·rw[if_neg q]at e
  obtain⟨h2,r',h3,h4⟩:=F y u e
  refine⟨h2,r',?_,h4⟩
  rcases h3 with⟨a,b⟩|b
  ·exact .inl ⟨a,(if_neg q).trans b⟩
  ·exact .inr b
theorem yL{P:Pm}{H:HP}{ρ:List Addr}{cx:Cx}{fm:List (Str×V)}{m mc:bG}{x:Str}{v:V}{r:Value}{a:Addr}(F:iC P H ρ cx fm m mc)(hx:cx.sc.names.lookup x=some .cell)(ha:cx.cl.lookup x=some a)(hd:(x==("__debug__":Str))=false)(hv:ag P H ρ v r) :
  iC P H ρ cx (put x v fm) m (fun y=>if y=x then some r else mc y):=by
 intro y u e
 rw[D6]at e
 by_cases q:y=x
 ·rw[if_pos q]at e
  cases e
  subst q
  exact⟨hd,r,.inr (.inl ⟨hx,⟨a,ha⟩,if_pos rfl⟩),hv⟩
 ·rw[if_neg q]at e
  obtain⟨h2,r',h3,h4⟩:=F y u e
  refine⟨h2,r',?_,h4⟩
  rcases h3 with b|⟨b,d,e⟩|b
  ·exact .inl b
  ·exact .inr (.inl ⟨b,d,(if_neg q).trans e⟩)
  ·exact .inr (.inr b)
theorem sP{P:Pm}{cx:Cx}{H:HP}{ρ:List Addr}{σ:St}{frs:aJ}{h h':Heap}{m mc:bG}{x:Str}{v:V}{r:Value}(N:az P base cx H ρ σ frs h)(I:aM P base H ρ ((cx.L,aK m)::(aC cx.cs mc++frs)) σ.ob.tr h)(F:iC P H ρ cx σ.fm m mc)
  (hx:cx.sc.names.lookup x=some .local) (hd:(x==("__debug__":Str))=false) (hv:ag P H ρ v r) (hn:h'.Ns cx.L (fun y=>if y=x then some r else m y)) (hs:Heap.SameBut cx.L h h'):az P base cx H ρ ⟨put x v σ.fm,σ.ob⟩ frs h':=
 ⟨⟨_,mc,I.store hs (cw.mpr hn),vb F hx hd hv⟩,N.len,N.outer,N.self⟩
theorem qH{cs:List (Str×Addr)}{mc:bG}{x:Str}{a:Addr}(hm:(x,a)∈cs)(hn:(cs.map (·.1)).Nodup)(r:Option Value) :
  ∃l1 l2,aC cs mc=l1++(a,dC (mc x))::l2∧aC cs (fun y=>if y=x then r else mc y)=l1++(a,dC r)::l2:=by
 refine iB (List.append_of_mem hm) fun p q rq2=>?_;subst rq2
 refine⟨aC p mc,aC q mc,by simp[aC],?_⟩
 rw[List.map_append,List.map_cons,List.nodup_append]at hn
 refine jD hn fun _ h2 h3=>?_
 rw[List.nodup_cons]at h2
 have e1:∀(l:List (Str×Addr)),(∀y∈l,y.1≠x)→aC l (fun y=>if y=x then r else mc y)=aC l mc:=fun l hl=>by
  unfold aC
  apply List.map_congr_left
  intro y hy
  show(y.2,dC (if y.1=x then r else mc y.1))=_
  rw[if_neg (hl y hy)]
 have ep:=e1 p fun y hy e=>h3 y.1 (List.mem_map.mpr ⟨y,hy,rfl⟩) x (.head _) e
 have eq:=e1 q fun y hy e=>h2.1 (e▸List.mem_map.mpr ⟨y,hy,rfl⟩)
 unfold aC at ep eq ⊢
 rw[List.map_append,List.map_cons,ep,eq]
 show _++(a,dC (if x=x then r else mc x))::_=_
 rw[if_pos rfl]
theorem eU {cx:Cx} {H:HP} {ρ:List Addr} {σ:St} {frs:aJ} {s:Shared} {x:Str} {v:V} {r:Value} {n:Nat} {Q:Unit→Shared→Prop} {EE:Value→Shared→Prop} (O:cx.Ok n) (N:az (pm w T) base cx H ρ σ frs s.heap) (hx:bB cx.sc x=true) (hv:ag (pm w T) H ρ v r)
    (q:∀h' tk,az (pm w T) base cx H ρ ⟨put x v σ.fm,σ.ob⟩ frs h'→Q () {s with heap:=h',toks:=tk}):wpAny (model prog w) cx.A (storeName cx.env x r) Q EE s:=by
  refine a7 (mi hx) fun hl hd=>?_
  refine c9 N.ns fun m mc I F hn=>?_
  rcases hl with hl|hl
  · refine wpAny_storeName_local hl hn (fun h' hn' hs=>q h' _ (sP N I F hl hd hv hn' hs)) ?_
    show(cx.sc.kind==.class||_)=false
    rw[O.kind];rfl
  · refine bz (O.cells _ hl) fun a ha=>?_
    have hm:=O.kept _ _ hl ha
    refine aq (j8 I hm) fun o ho hdo=>?_
    refine wpAny_storeName_cell O.kind hl ha ⟨o,ho,hdo⟩ fun h' hv' hs=>q h' s.toks ?_
    refine aW (qH (mc:=mc) hm O.names (some r)) fun l1 l2 e1 e2=>?_
    refine⟨⟨m,fun y=>if y=x then some r else mc y,?_,yL F hl ha hd hv⟩,N.len,N.outer,N.self⟩
    rw[e1]at I
    rw[e2]
    have p:∀φ:Fp,(((cx.L,aK m)::(l1++(a,φ)::l2++frs):aJ)).Perm ((a,φ)::(cx.L,aK m)::(l1++l2++frs)):=fun φ=>by
      have:((l1++(a,φ)::l2++frs:aJ)).Perm ((a,φ)::(l1++l2++frs)):=by
        rw[List.append_assoc,List.append_assoc,List.cons_append]
        exact List.perm_middle
      exact(this.cons _).trans (List.Perm.swap ..)
    refine((I.perm (p _)).store hs ?_).perm (p _).symm
    refine aq hv' fun o' ho' hd'=>?_
    exact⟨o',ho',hd'⟩
theorem fC{P:Pm}{H:HP}{ρ:List Addr}{vs:List V}{rs:List Value}{i:Nat}{r:Value}(h:ai P H ρ vs rs)(e:rs[i]?=some r):∃u,vs[i]?=some u∧ag P H ρ u r:=by
  induction vs generalizing rs i with
  |nil=>exact h.nil' fun er=>by rw[er]at e;cases e
  | cons v vs ih=>
    refine h.cons' fun _ l a b er=>?_
    rw[er]at e
    cases i with
    |zero=>exact⟨v,rfl,ae e▸a⟩
    |succ i=>exact(ih b e:∃u,vs[i]?=some u∧_)
theorem wZ(n:Nat):∀(i:Int),(ER n i).length=n:=by
 induction n with
 |zero=>exact fun _=>rfl
 |succ n ih=>exact fun i=>congrArg (·+1) (ih (i+1))
theorem Hd(n:Nat):∀(i:Int) (j:Nat),j < n→(ER n i)[j]?=some (.int true (i+j)):=by
  induction n with
  |zero=>exact fun _ _ h=>absurd h (Nat.not_lt_zero _)
  | succ n ih=>
    intro i j h
    cases j with
    |zero=>show some (V.int true i)=_;rw[Int.ofNat_zero,Int.add_zero]
    |succ j=>exact(ih (i+1) j (Nat.lt_of_succ_lt_succ h)).trans (congrArg (fun x=>some (V.int true x)) (by lia))
theorem fk{iter:Expr}(h:i5 iter=true)(env:Env)(x:Value):foldedSetIterable iter env x=pure x:=
 mV (b:=i5 iter) (by cases iter <;> first|rfl|trivial) h
theorem lZ(k:Nat):Builtin.Range.rangeSize 0 (Int.ofNat k) 1=(k:Int):=by
 unfold Builtin.Range.rangeSize
 simp
 lia
theorem sa{k:Nat}(h:k≤1000):Builtin.Range.small 0 (Int.ofNat k) 1=true:=by
 unfold Builtin.Range.small
 rw[lZ]
 simp[Builtin.Range.rangeFitsLong]
 lia
structure Ce(prog:Program)(w:World)(T:Nat→V)(base:Heap)(cx:Cx)(H:HP)(ρ:List Addr)(s:Shared)(frs:aJ)(fm:List (Str×V))(ob:aR)(vs:List V)(I:Addr)(fp:List Addr)(Pi:Nat→Value→Prop)(St:Nat→Heap→Prop)(h':Heap)(oI:Obj)(H':HP):Prop where
 walks:Walks prog w cx.A I fp [I] vs.length Pi St
 fp:∀b∈fp,b=I∨∃o,H' b o
 tells:∀i v,i < vs.length→Pi i v→∃u,vs[i]?=some u∧ag (pm w T) H' ρ u v
 there:∀i h,St i h→∃o,h.get? I=some o
 starts:St 0 h'
 now:az (pm w T) base cx H' ρ ⟨fm,ob⟩ ((I,gi (·=oI))::frs) h'
 later:aH base H ρ s H' ρ {s with heap:=h'}
 new:I=s.heap.objs.size
 keep:∀b o,s.heap.get? b=some o→h'.get? b=some o
theorem zf{xs:List Int}:∀{j:Nat},(bM xs)[j]?=(xs[j]?).map (V.int false):=by
 induction xs with
 |nil=>exact rfl
 |cons x r ih=>intro j;cases j with|zero=>rfl|succ j=>exact ih
theorem j7(xs:List Int):(bM xs).length=xs.length:=by
 induction xs with
 |nil=>rfl
 |cons x r ih=>exact congrArg (·+1) ih
theorem iL{P:Pm}{H:HP}{ρ:List Addr}{rs:List Value}{xs:List Int}(h:IntsAre rs xs):ai P H ρ (bM xs) rs:=by
 induction h with
 |nil=>exact .nil
 |cons _ _ _ ih=>exact .cons .int ih
theorem lS{G:Prop}{cx:Cx}{H:HP}{ρ:List Addr}{frs:aJ}{σ:St}{s:Shared}{v:V}{r:Value}{p:List V×aR}(N:az (pm w T) base cx H ρ σ frs s.heap)(R:ag (pm w T) H ρ v r)(eo:qi σ.ob v=some p)
  (g:∀ax rs k H₂,r=.ref ax→s.heap.get? ax=some (aA rs k)→az (pm w T) base cx H₂ ρ ⟨σ.fm,p.2⟩ frs s.heap→aH base H ρ s H₂ ρ s→H₂ ax (aA rs k)→ai (pm w T) H₂ ρ p.1 rs→G):G:=by
 refine c9 N.ns fun m mc I F hn=>?_
 refine cP eo (fun vs e1 e=>R.cL e1 fun rs ax k a b er=>?_) fun _ e=>au e fun i ei e=>R.cR ei fun ax ha er=>cP e (fun vs e1 e=>(I.at (iI e1) ha).list' fun rs k t1 t2=>?_) fun _ e=>au e fun u e1 e=>au e fun vs e2 e=>(I.at (Ag e1) ha).frz' fun q=>q.cL e2 fun rs ax' k a b ea=>?_
 all_goals rw[←ae e]at g
 ·exact g ax rs k H er (I.frz _ _ a) N .refl a b
 ·have I₂:=I.freeze (v:=.list vs) (iI e1) rfl ha t1 (Tr.get_set (some (.frz (.list vs))) _ _ · (by rw[iI e1];rfl)) (.list HP.new (t2.mono HP.le .refl))
  exact g ax rs k _ er t1 ⟨⟨m,mc,I₂,F.mono HP.le .refl⟩,N.len,N.outer,N.self⟩ ⟨fun _ _ e=>.inl e,fun b y e=>e.elim .inl fun⟨q,_⟩=>.inr (q▸(I.apart (iI e1) rfl ha).nb),.refl,rfl,rfl,rfl⟩ HP.new (t2.mono HP.le .refl)
 ·cases ea
  exact g ax rs k H er (I.frz _ _ a) N .refl a b
section
variable {cx:Cx}{H H₂:HP}{ρ:List Addr}{frs:aJ}{fm fm':List (Str×V)}{ob ob':aR}{s:Shared}{vs:List V}{ax:Addr}{rs:List Value}{k:Nat}{Q:Value→Shared→Prop}{EE:Value→Shared→Prop}
theorem dz{h:Heap}(o:Obj)(b:Addr)(o':Obj)(e:h.get? b=some o'):(h.push o).get? b=some o':=Heap.get?_push_of_some _ e
theorem uN{h:Heap}{a:Addr}{o:Obj}(e:h.get? a=some o):a≠h.objs.size:=Nat.ne_of_lt (Heap.lt_size e)
theorem Bc{I a:Addr}{H:HP}{o:Obj}(h:H a o)(b:Addr)(hb:b∈[I,a]):b=I∨∃o,H b o:=by
 rcases List.mem_cons.mp hb with e|hb
 ·exact .inl e
 ·rw[List.mem_singleton.mp hb];exact .inr ⟨_,h⟩
theorem kn(hh:cx.A.handled=none)(t1:s.heap.get? ax=some (aA rs k))(N₂:az (pm w T) base cx H₂ ρ ⟨fm,ob⟩ frs s.heap)(L₂:aH base H ρ s H₂ ρ s)(hax:H₂ ax (aA rs k))(hv:ai (pm w T) H₂ ρ vs rs)
  (q:∀I fp Pi St h' oI H',Ce prog w T base cx H ρ s frs fm ob vs I fp Pi St h' oI H'→Q (.ref I) {s with heap:=h'}):wpAny (model prog w) cx.A (pyIter (.ref ax)) Q EE s:=by
 have hl:rs.toArray.size=vs.length:=by rw[List.size_toArray];exact(aN hv).symm
 have W:=Walks.list (prog:=prog) (w:=w) hh s.heap.objs.size ax (uN t1) rs.toArray
 rw[hl]at W
 exact wpAny_pyIter_list (l:=ax) (items:=rs.toArray) ⟨_,t1,rfl,_,rfl⟩ (q _ _ _ _ _ _ H₂ ⟨W,Bc hax,fun i v hi hp=>fC hv (by rw[←List.getElem?_toArray];exact hp),fun i h st=>st.1.imp fun _ e=>e.1,⟨⟨_,Heap.get?_push_size _ rfl,rfl,rfl⟩,_,Heap.get?_push_of_some _ t1,rfl,_,rfl⟩,
  N₂.enter ⟨_,Heap.get?_push_size _ rfl,rfl⟩ (dz _),⟨L₂.le,L₂.new,L₂.grows,rfl,rfl,rfl⟩,rfl,dz _⟩)
theorem DS(hh:cx.A.handled=none)(t1:s.heap.get? ax=some (eO rs))(N:az (pm w T) base cx H ρ ⟨fm,ob⟩ frs s.heap)(hax:H ax (eO rs))(hv:ai (pm w T) H ρ vs rs)
  (q:∀I fp Pi St h' oI H',Ce prog w T base cx H ρ s frs fm ob vs I fp Pi St h' oI H'→Q (.ref I) {s with heap:=h'}):wpAny (model prog w) cx.A (pyIter (.ref ax)) Q EE s:=by
 have hl:rs.toArray.size=vs.length:=by rw[List.size_toArray];exact(aN hv).symm
 have W:=Walks.tuple (prog:=prog) (w:=w) hh s.heap.objs.size ax (uN t1) rs.toArray
 rw[hl]at W
 exact wpAny_pyIter_tuple (t:=ax) (items:=rs.toArray) ⟨_,t1,rfl,_,rfl⟩ (q _ _ _ _ _ _ H ⟨W,Bc hax,fun i v hi hp=>fC hv (by rw[←List.getElem?_toArray];exact hp),fun i h st=>st.1.imp fun _ e=>e.1,⟨⟨_,Heap.get?_push_size _ rfl,rfl,rfl⟩,_,Heap.get?_push_of_some _ t1,rfl,_,rfl⟩,
  N.enter ⟨_,Heap.get?_push_size _ rfl,rfl⟩ (dz _),⟨fun _ _ e=>e,fun _ _ e=>.inl e,.refl,rfl,rfl,rfl⟩,rfl,dz _⟩)
theorem ug{b:Array UInt8}{t:Tok}(hh:cx.A.handled=none)(N:az (pm w T) base cx H ρ ⟨fm,ob⟩ frs s.heap)
  (q:∀I fp Pi St h' oI H',Ce prog w T base cx H ρ s frs fm ob (bM (aw b)) I fp Pi St h' oI H'→Q (.ref I) {s with heap:=h'}):wpAny (model prog w) cx.A (pyIter (.bytes b t)) Q EE s:=by
 have W:=KBw.walks (prog:=prog) (w:=w) hh s.heap.objs.size b t
 have hl:b.size=(bM (aw b)).length:=by rw[j7];unfold aw;rw[List.length_map,Array.length_toList]
 rw[hl]at W
 refine KBw.pyIter_bytes (q _ _ _ _ _ _ H ⟨W,fun b hb=>.inl (List.mem_singleton.mp hb),fun i v hi hp=>?_,fun i h st=>st.imp fun _ e=>e.1,⟨_,Heap.get?_push_size _ rfl,rfl,rfl⟩,
  N.enter ⟨_,Heap.get?_push_size _ rfl,rfl⟩ (dz _),⟨fun _ _ e=>e,fun _ _ e=>.inl e,.refl,rfl,rfl,rfl⟩,rfl,dz _⟩)
 refine aW hp fun ch u e1 e=>?_
 refine⟨.int false (ch.toNat:Int),?_,e▸.int⟩
 rw[zf]
 unfold aw
 rw[List.getElem?_map,Array.getElem?_toList,e1]
 rfl
theorem vO{ra:Addr}{n:Nat}{t u v:Tok}(hh:cx.A.handled=none)(hr:s.heap.get? ra=some (i0 (Int.ofNat n) t u v))(hn:n≤1000)(N:az (pm w T) base cx H ρ ⟨fm,ob⟩ frs s.heap)
  (q:∀I fp Pi St h' oI H',Ce prog w T base cx H ρ s frs fm ob (ER n 0) I fp Pi St h' oI H'→Q (.ref I) {s with heap:=h'}):wpAny (model prog w) cx.A (pyIter (.ref ra)) Q EE s:=by
 have hrange:IsRange s.heap ra 0 (Int.ofNat n) 1 t u v:=hr
 refine wpAny_pyIter_range hrange (sa hn) ?_
 rw[lZ n]
 have W:=Walks.range (prog:=prog) (w:=w) hh s.heap.objs.size 0 1 n
 have hl:n=(ER n 0).length:=(wZ n 0).symm
 have W':Walks prog w cx.A s.heap.objs.size [s.heap.objs.size] [s.heap.objs.size] (ER n 0).length (fun i v=>∃t,v=.int (0+i*1) t) (fun i h=>IsRangeIter h s.heap.objs.size (0+(i:Nat)*1) ((n:Int) - (i:Nat)) 1):=hl▸W
 refine q _ _ _ _ _ _ H ⟨W',fun b hb=>.inl (List.mem_singleton.mp hb),fun i v hi ⟨t,e⟩=>?_,fun i h st=>⟨_,st⟩,(by simpa using Heap.get?_push_size _ rfl),N.enter ⟨_,Heap.get?_push_size _ rfl,rfl⟩ (dz _),⟨fun _ _ e=>e,fun _ _ e=>.inl e,.refl,rfl,rfl,rfl⟩,rfl,dz _⟩
 refine⟨_,Hd n 0 i (by rw[wZ]at hi;exact hi),?_⟩
 rw[e,Int.mul_one]
 exact .int
theorem xu {σ:St} {v:V} {r:Value} {p:List V×aR} (hh:cx.A.handled=none)
    (N:az (pm w T) base cx H ρ σ frs s.heap) (R:ag (pm w T) H ρ v r) (eo:pC σ.ob v=some p)
    (q:∀I fp Pi St h' oI H',Ce prog w T base cx H ρ s frs σ.fm p.2 p.1 I fp Pi St h' oI H'→Q (.ref I) {s with heap:=h'}):wpAny (model prog w) cx.A (pyIter r) Q EE s:=by
  refine aW N.inv fun m mc I F=>?_
  refine cP eo (fun vs e1 e=>?_) fun _ e=>lS N R e fun ax rs k H₂ er t1 N₂ L₂ hax hv=>er▸kn hh t1 N₂ L₂ hax hv q
  rw[←ae e]at q
  cases v with
  |rng k x=>exact R.rng' fun ra t u v a er=>au e1 fun n en e=>uF en fun _ en=>bQ e fun hn e=>by
                rw[←ae e]at q
                rw[show x=Int.ofNat n from en]at a
                rw[er];exact vO hh (I.frz _ _ a) (Nat.le_of_ble_eq_true hn) N q
  |tup=>rw[←ae e1]at q;exact R.tup' fun rs a h1 h2 er=>er▸DS hh (I.frz _ _ h1) N h1 h2 q
  |list=>rw[←ae e1]at q;exact R.list' fun rs a k h1 h2 er=>er▸kn hh (I.frz _ _ h1) N .refl h1 h2 q
  |irow=>rw[←ae e1]at q;exact R.irow' fun rs a k h1 h2 er=>er▸kn hh (I.frz _ _ h1) N .refl h1 (iL h2) q
  |bytes=>rw[←ae e1]at q;exact R.bytes' fun b t er eb=>by rw[eb]at q;rw[er];exact ug hh N q
  |_=>cases e1
end
end
end
section
section
variable {prog:Program}{w:World}{T:Nat→V}{base:Heap}{c:ck}{K:Frag}{E:Ev}{n:Nat}
theorem um{all:List (Str×NameKind)}{l:List (Str×NameKind)}(h:jK all l=true):∀x∈l,x.2≠.free∧x.2≠.cell∧(x.2=.local→all.lookup x.1=some .local):=by
  induction l with
  |nil=>exact fun _ m=>absurd m List.not_mem_nil
  | cons p r ih=>
    obtain⟨y,k⟩:=p
    rw[List.forall_mem_cons]
    cases k with
    |«local»=>exact ar (b:=jK all r) h fun a b=>⟨⟨fun e=>NameKind.noConfusion e,fun e=>NameKind.noConfusion e,fun _=>by rw[←eH];exact gU a⟩,ih b⟩
    |free=>cases h
    |cell=>cases h
    |_=>exact⟨⟨fun e=>NameKind.noConfusion e,fun e=>NameKind.noConfusion e,fun e=>NameKind.noConfusion e⟩,ih h⟩
theorem Cw(e:Expr):oX (dX e) (fun p=>e=.Name p.1 p.2) True:=by cases e <;> first|rfl|trivial
theorem j0{α:Type}{q:Option α}{x:α}{e:Expr}{f:α→Expr}(h:oX q (fun p=>e=f p) True)(eq:q=some x):e=f x:=by cases eq;exact h
theorem dc{e:Expr}{p}(h:dX e=some p):e=.Name p.1 p.2:=j0 (f:=fun p=>.Name p.1 p.2) (Cw e) h
theorem Kx{e:Expr}{p}(h:Mz e=some p):e=.Compare p.1 p.2.1 p.2.2.1 p.2.2.2:=j0 (f:=fun p=>.Compare p.1 p.2.1 p.2.2.1 p.2.2.2) (by cases e <;> first|rfl|trivial) h
theorem D4{l:List Expr}{e}(h:x1 l=some e):l=[e]:=by
 cases l with
 |nil=>cases h
 |cons a r=>exact bQ h fun b h=>by rw[bU b,ae h]
theorem qf{k n i:Nat}(e:k=n+1 - i)(h:i < n):n+1 - (i+1) < k:=by
 rw[e,Nat.add_sub_add_right,Nat.succ_sub (Nat.le_of_lt h)]
 exact Nat.lt_succ_self _
theorem vC {G:Prop} {ops:List CmpOp} {rs:List Expr} {p} (h:Hc ops rs=some p) (k1:p.2.2=none→ops=[p.1]→rs=[p.2.1]→G) (k2:∀q,p.2.2=some q→ops=[p.1,q.1]→rs=[p.2.1,q.2]→G):G:=by
  cases ops with
  |nil=>cases h
  | cons op ops=>cases rs with
    |nil=>cases h
    | cons r rs=>cases ops with
      |nil=>exact bQ (b:=iJ rs) h fun a h=>by rw[←ae h]at k1;exact k1 rfl rfl (by rw[bU a])
      | cons op₂ ops=>cases rs with
        |nil=>cases h
        |cons r₂ rs=>exact bQ (b:=ay (iJ ops) (iJ rs)) h fun a h=>ar a fun a b=>by rw[←ae h]at k2;exact k2 _ rfl (by rw[bU a]) (by rw[bU b])
theorem Jc{op:CmpOp}(h:LV op=true):op=.NotEq:=by cases op <;> first|rfl|cases h
theorem NP{e:Expr}{q}(h:Ss e=some q):∃p1 p2 p3,e=.Compare (.Name q.1 p1) [.NotEq] [.Name q.2 p2] p3:=
 au h fun p ep h=>au h fun a ea h=>au h fun r er h=>bQ h fun hb h=>ar hb fun b1 b2=>au h fun b eb h=>vC er (fun _ e1 e2=>⟨a.2,b.2,p.2.2.2,by rw[Kx ep,dc ea,e1,Jc b2,e2,dc eb,←ae h]⟩)
  fun q e _ _=>by rw[e]at b1;cases b1
theorem GD{gens:List Comprehension}{p}(h:H3 gens=some p):∃px,gens=[⟨.Name p.1 px,p.2.1,p.2.2,0⟩]:=by
  cases gens with
  |nil=>cases h
  | cons g r=>
    obtain⟨tg,it,ifs,as⟩:=g
    exact bQ h fun hb h=>ar hb fun b1 b2=>au h fun q eq h=>⟨q.2,by rw[bU b1,←ae h,show as=0 from Iw b2,show tg=_ from dc eq]⟩
theorem Dq{sc:Scope}(h:isFn sc=true):sc.kind=.function:=by
 unfold isFn at h
 cases e:sc.kind <;> rw[e]at h <;> first|rfl|cases h
noncomputable abbrev Cx.comp(cx:Cx)(csc:Scope)(C:Addr):Cx:={cx with sc:=csc,L:=C,cl:=[],fn:=none,cs:=[]}
theorem nK {csc:Scope} {env:Env} (h:∀x∈csc.names,x.2≠.free):relabel csc env=csc:=by
  unfold relabel
  have:csc.names.map (fun(n,k)=>if(k==NameKind.free&&env.scope.kind==.function&&env.kindOf n==some .cell)then(n,NameKind.cell)else(n,k))=csc.names:=by
    have:∀l:List (Str×NameKind),(∀x∈l,x.2≠NameKind.free)→l.map (fun(n,k)=>if(k==NameKind.free&&env.scope.kind==.function&&env.kindOf n==some .cell)then(n,NameKind.cell)else(n,k))=l:=by
      intro l
      induction l with
      |nil=>intro _;rfl
      | cons x r ih=>
        intro h
        have e:(x.2==NameKind.free)=false:=beq_eq_false_iff_ne.mpr (h x List.mem_cons_self)
        rw[List.map_cons,ih fun y m=>h y (List.mem_cons_of_mem _ m)]
        simp[e]
    exact this _ h
  rw[this]
theorem az.noFm{P:Pm}{cx:Cx}{H:HP}{ρ:List Addr}{fm:List (Str×V)}{ob:aR}{frs:aJ}{h:Heap}(N:az P base cx H ρ ⟨fm,ob⟩ frs h):az P base cx H ρ ⟨[],ob⟩ frs h:=
 let ⟨m,mc,I,F⟩:=N.inv
 ⟨⟨m,mc,I,fun _ _ e=>by cases e⟩,N.len,N.outer,N.self⟩
theorem gS{m:bG}:cy (aK m) where
 nf:=fun _ o ⟨es,ep,e,_⟩ vs q=>by rw[e]at q;cases q
 dat:=fun _ _ o o' e ⟨es,ep,h1,h2⟩=>⟨es,ep,e.trans h1,h2⟩
theorem fc.into{cx:Cx}{frs:aJ}(x:fc cx frs){csc:Scope}{C:Addr}{m mc:bG}:fc (cx.comp csc C) ((cx.L,aK m)::(aC cx.cs mc++frs)):=by
 refine⟨f5 (fun _ h=>.tail _ (List.mem_append_right _ h)) x.outer,?_⟩
 ·refine .inr ?_
  rcases x.self with e|⟨φ,h1,h2⟩
  ·exact⟨aK m,by show(cx.L0,_)∈_;rw[e];exact .head _,gS⟩
  ·exact⟨φ,.tail _ (List.mem_append_right _ h1),h2⟩
theorem az.permF{P:Pm}{cx:Cx}{H:HP}{ρ:List Addr}{σ:St}{frs frs':aJ}{h:Heap}(N:az P base cx H ρ σ frs h)(p:frs.Perm frs'):az P base cx H ρ σ frs' h:=by
 refine aW N.inv fun m mc I F=>?_
 refine⟨⟨m,mc,I.perm ((List.Perm.append_left _ p).cons _),F⟩,N.len,f5 (fun _ h=>p.mem_iff.mp h) N.outer,?_⟩
 ·exact N.self.imp id fun⟨φ,h1,h2⟩=>⟨φ,p.mem_iff.mp h1,h2⟩
theorem az.into{P:Pm}{cx:Cx}{H:HP}{ρ:List Addr}{fm:List (Str×V)}{ob:aR}{frs:aJ}{h:Heap}{csc:Scope}{C:Addr}{m mc m':bG}(N:az P base cx H ρ ⟨fm,ob⟩ frs h)(I:aM P base H ρ ((cx.L,aK m)::(aC cx.cs mc++frs)) ob.tr h)
  {h':Heap} (hn:∃o,h'.get? C=some o∧vF m' o) (hC:h.objs.size=C) (k:∀b o,h.get? b=some o→h'.get? b=some o) :
  az P base (cx.comp csc C) H ρ ⟨[],ob⟩ ((cx.L,aK m)::(aC cx.cs mc++frs)) h':=by
 subst hC
 exact⟨⟨m',fun _=>none,I.enter hn k,fun _ _ e=>by cases e⟩,N.len,N.home.into.outer,N.home.into.self⟩
theorem Cx.Ok.comp{cx:Cx}{k:Nat}(O:cx.Ok k){csc:Scope}{C:Addr}(hk:csc.kind=.function)(hp:∀x∈csc.names,x.2≠.cell):(cx.comp csc C).Ok k:=
 ⟨O.frames,O.handled,hk,O.kind0,O.depth,O.units,fun x a _ e=>(by cases e),List.nodup_nil,fun x e=>(by
  have q:csc.names.lookup x=some .cell:=e
  refine aW (List.lookup_eq_some_iff.mp q) fun l1 l2 q _=>?_
  exact absurd rfl (hp (x,.cell) (by rw[q];exact List.mem_append_right _ (.head _)))),fun l _ e=>(by
  have q:csc.names.lookup l.key=some .cell:=e
  refine aW (List.lookup_eq_some_iff.mp q) fun l1 l2 q _=>?_
  exact absurd rfl (hp (l.key,.cell) (by rw[q];exact List.mem_append_right _ (.head _))))⟩
noncomputable abbrev gC(rs:List Value):Obj:=aA rs rs.length
noncomputable def AR(T:Nat→V)(w:World)(base:Heap)(E:Ev)(elt:Expr)(x:Str)(cc:Cx)(D I:Addr)(rest:aJ)(vs:List V)(St:Nat→Heap→Prop)(QQ:List V→aR→Prop)(H₂:HP)(ρ₁:List Addr)(s₁:Shared)(k:Nat)(s':Shared):Prop:=
  ∃ i ob' H' ρ' oI rs ys,k=vs.length+1 - i∧i≤vs.length∧St i s'.heap∧(q9 E elt cc.sc [] x (vs.drop i) ob' fun zs ob''=>QQ (ys++zs) ob'')∧
    az (pm w T) base cc H' ρ' ⟨[],ob'⟩ ((D,gi (·=gC rs))::(I,gi (·=oI))::rest) s'.heap∧rs.length=i∧ai (pm w T) H' ρ' ys rs∧aH base H₂ ρ₁ s₁ H' ρ' s'
section
variable {cx cc:Cx}{elt:Expr}{x:Str}{C D I:Addr}{rest:aJ}{vs:List V}{fp:List Addr}{Pi:Nat→Value→Prop}{Sw:Nat→Heap→Prop}{QQ:List V→aR→Prop}{H₂:HP}{ρ₁:List Addr}{s₁:Shared}{EE:Value→Shared→Prop}
theorem ye{H' H₄:HP}{ρ' ρ₄:List Addr}{σ₄:St}{rs:List Value}{ys:List V}{y:V}{r:Value}{i:Nat}{oI':Obj}{h₁:Heap}{ob':aR}{s₄:Shared}(O':cc.Ok n)(eA:cc.A=cx.A)(hm:fc cc rest)(W:Walks prog w cx.A I fp [I] vs.length Pi Sw)(hfp:∀b∈fp,b=I∨∃o,H' b o)(hf:vs.length≤1000)
  (hl:rs.length=i) (lt:i < vs.length) (hst₁:Sw (i+1) h₁) (hI':h₁.get? I=some oI') (N₁:az (pm w T) base cc H' ρ' ⟨[],ob'⟩ ((I,gi (·=oI'))::(D,gi (·=gC rs))::rest) h₁)
  (hv:ai (pm w T) H' ρ' ys rs) (h₄:q9 E elt cc.sc [] x (vs.drop (i+1)) σ₄.ob fun zs ob''=>QQ (ys++y::zs) ob'')
  (N₄:az (pm w T) base cc H₄ ρ₄ σ₄ ((I,gi (·=oI'))::(D,gi (·=gC rs))::rest) s₄.heap) (L₄:∀a o,H' a o→H₄ a o) (G₄:bN ρ' ρ₄) (LL:∀h tk,aH base H₂ ρ₁ s₁ H₄ ρ₄ {s₄ with heap:=h,toks:=tk}) (R₄:ag (pm w T) H₄ ρ₄ y r) :
  wpAny (model prog w) cx.A (call (.builtin "list.append") [.ref D,r]) (fun _ s₅=>∃m,m < vs.length+1 - i∧AR T w base E elt x cc D I rest vs Sw QQ H₂ ρ₁ s₁ m s₅) EE s₄:=by
 refine aW N₄.inv fun m₄ mc₄ I₄ F₄=>?_
 refine aq (I₄.frNs (D,gi (·=gC rs)) (List.mem_cons_of_mem _ (List.mem_append_right _ (.tail _ (.head _))))) fun oD hoD eD=>?_
 rw[show oD=gC rs from eD]at hoD
 refine append_at hoD (fun h₅ hs₅ hD₅=>?_) (by rw[List.size_toArray,hl,sizeLine_eq];lia)
 have N₅:az (pm w T) base cc H₄ ρ₄ ⟨[],σ₄.ob⟩ ((D,gi (·=gC (rs++[r])))::(I,gi (·=oI'))::rest) h₅:=
  (az.noFm (fm:=σ₄.fm) (N₄.permF (List.Perm.swap _ _ _))).iter hm.more (fun b o q e=>(hs₅.2 b q).trans e) ⟨_,hD₅,by show _=aA (rs++[r]) (rs++[r]).length;rw[List.length_append];simp[gC,aA,PySem.W.listOf]⟩
 refine⟨_,qf rfl lt,i+1,σ₄.ob,H₄,ρ₄,oI',rs++[r],ys++[y],rfl,lt,?_,?_,N₅,by rw[List.length_append,hl];rfl,ie (hv.mono L₄ G₄) (.cons R₄ .nil),LL _ _⟩
 ·refine aW N₅.inv fun _ _ I₅ _=>?_
  refine aW N₁.inv fun _ _ I₁ _=>?_
  refine W.frame _ _ _ hst₁ fun b hb o e=>(hfp b hb).elim (fun q=>?_) fun⟨y,hy⟩=>?_
  ·refine aq (I₅.frNs (I,gi (·=oI')) (List.mem_cons_of_mem _ (List.mem_append_right _ (.tail _ (.head _))))) fun o' e' z=>?_
   rw[q]at e ⊢
   rw[hI']at e
   rw[←ae e,←show o'=oI' from z];exact e'
  ·rw[I₁.frz _ _ hy]at e
   rw[←ae e]
   exact I₅.frz _ _ (L₄ _ _ hy)
 ·simp only [List.append_assoc,List.singleton_append]
  exact h₄
theorem yt(S:de prog w T base c.R E n){iter:Expr}{px pos:Pos}{s₃:Shared}{ob:aR}{oI:Obj}{RR:Result→Shared→Prop}{csc:Scope}(hc:cc=cx.comp csc C)(hf:vs.length≤1000)(O':cc.Ok n)(hx':bB cc.sc x=true)(hm:fc cc rest)
  (W:Walks prog w cx.A I fp [I] vs.length Pi Sw) (hfp:∀b∈fp,b=I∨∃o,H₂ b o) (tells:∀i v,i < vs.length→Pi i v→∃u,vs[i]?=some u∧ag (pm w T) H₂ ρ₁ u v) (there:∀i h,Sw i h→∃o,h.get? I=some o)
  (st:Sw 0 s₃.heap) (h:q9 E elt cc.sc [] x vs ob QQ) (N₃:az (pm w T) base cc H₂ ρ₁ ⟨[],ob⟩ ((D,gi (·=gC []))::(I,gi (·=oI))::rest) s₃.heap) (L:aH base H₂ ρ₁ s₁ H₂ ρ₁ s₃)
  (fin:∀H' ρ' ob' rs ys s',az (pm w T) base cc H' ρ' ⟨[],ob'⟩ ((D,gi (·=gC rs))::rest) s'.heap→ai (pm w T) H' ρ' ys rs→aH base H₂ ρ₁ s₁ H' ρ' s'→QQ ys ob'→RR (.ok .next) s') :
  codeAny (model prog w) cx.A (.compLoop (.ListComp elt [⟨.Name x px,iter,[],0⟩] csc pos) 0 (.ref I) (.ref D) cc.env) RR s₃:=by
 refine codeAny_compLoop_tests (AR T w base E elt x cc D I rest vs Sw QQ H₂ ρ₁ s₁) ?_ (vs.length+1) ⟨0,ob,H₂,ρ₁,oI,[],[],rfl,Nat.zero_le _,st,h,N₃,rfl,.nil,L⟩
 rintro k s' ⟨i,ob',H',ρ',oI,rs,ys,rfl,hi,hst',h',N',hl,hv,L'⟩
 have hfp':∀b∈fp,b=I∨∃o,H' b o:=fun b hb=>(hfp b hb).imp id fun⟨o,e⟩=>⟨o,L'.le _ _ e⟩
 rcases Nat.lt_or_eq_of_le hi with lt|ei
 ·refine W.item i s' _ _ lt hst' fun v h₁ tk hv₁ hst₁ hk₁=>?_
  refine aq (tells i v lt hv₁) fun u hu R=>?_
  have R:=R.mono L'.le L'.grows
  refine bz (there _ _ hst₁) fun oI' hI'=>?_
  have N₁:az (pm w T) base cc H' ρ' ⟨[],ob'⟩ ((I,gi (·=oI'))::(D,gi (·=gC rs))::rest) h₁:=(N'.permF (List.Perm.swap _ _ _)).iter hm.more (fun b o q e=>hk₁ b o (fun z=>q (List.mem_singleton.mp z)) e) ⟨oI',hI',rfl⟩
  have hd:vs.drop i=u::vs.drop (i+1):=by
   rw[List.drop_eq_getElem_cons lt,Option.some.inj ((List.getElem?_eq_getElem lt).symm.trans hu)]
  rw[hd]at h'
  subst hc
  (with_reducible refine wpAny_assign_Name ?_)
  refine eU (s:={s' with heap:=h₁,toks:=tk}) O' N₁ hx' R fun h₂ tk₂ N₂=>?_
  refine wpAny_tests_nil ?_
  rw[if_pos rfl]
  refine S.ex0 (cx.comp csc C) elt _ _ O' h' H' ρ' _ _ _ _ N₂ fun y r σ₄ H₄ ρ₄ s₄ N₄ L₄ R₄ h₄=>?_
  exact ye O' rfl hm W hfp' hf hl lt hst₁ hI' N₁ hv h₄ N₄ L₄.le L₄.grows (fun h tk=>(L'.trans .heap).trans (L₄.trans .heap)) R₄
 ·rw[ei]at hst'
  refine W.done s' _ _ hst' fun h₁ tk hk=>?_
  rw[ei,List.drop_length]at h'
  have h':QQ (ys++[]) ob':=h'
  rw[List.append_nil]at h'
  exact fin H' ρ' ob' rs ys {s' with heap:=h₁,toks:=tk} ((N'.permF (List.Perm.swap _ _ _)).past hm.more fun b o q e=>hk b o (fun z=>q (List.mem_singleton.mp z)) e) hv (L'.trans .heap) h'
end
theorem Fb{cx:Cx}{m mc:bG}{frs:aJ}(p q:Addr×Fp):((cx.L,aK m)::(aC cx.cs mc++(p::q::frs)):aJ).Perm (p::q::(cx.L,aK m)::(aC cx.cs mc++frs)):=by
 have p1:(aC cx.cs mc++(p::q::frs):aJ).Perm (p::(aC cx.cs mc++(q::frs))):=List.perm_middle
 have p2:(aC cx.cs mc++(q::frs):aJ).Perm (q::(aC cx.cs mc++frs)):=List.perm_middle
 exact(p1.cons _).trans ((List.Perm.swap _ _ _).trans (List.Perm.cons _ ((p2.cons _).trans (List.Perm.swap _ _ _))))
theorem D8{cx:Cx}{csc:Scope}{C D:Addr}{m mc:bG}{H H₂ H':HP}{ρ ρ₁ ρ':List Addr}{frs:aJ}{s s₁ s':Shared}{ob':aR}{fm:List (Str×V)}{rs:List Value}{ys:List V}{Q:V→St→Prop}{Q':Value→Shared→Prop}{EE:Value→Shared→Prop}(hm:fc cx frs)(L₁:aH base H ρ s H₂ ρ₁ s₁)(F₂:iC (pm w T) H₂ ρ₁ cx fm m mc)
  (N':az (pm w T) base (cx.comp csc C) H' ρ' ⟨[],ob'⟩ ((D,gi (·=gC rs))::(cx.L,aK m)::(aC cx.cs mc++frs)) s'.heap) (hv:ai (pm w T) H' ρ' ys rs) (L':aH base H₂ ρ₁ s₁ H' ρ' s') (h':bo ob' (.list ys) fun v o=>Q v ⟨fm,o⟩) (a:c5 w T base cx frs H ρ s Q Q') :
  compPost (model prog w) cx.A EE none Q' (.ref D) C (.ok .next) s':=by
 refine aW N'.inv fun m₄ mc₄ I₄ F₄=>?_
 refine aq (I₄.frNs (C,aK m₄) (.head _)) fun oC hoC hnC=>?_
 show ∃m,Heap.Ns s'.heap C m∧∀h',Heap.SameBut C s'.heap h'→_
 refine⟨m₄,cw.mp ⟨oC,hoC,hnC⟩,fun h₅ hs₅=>?_⟩
 have I₅:aM (pm w T) base H' ρ' ((D,gi (·=gC rs))::(cx.L,aK m)::(aC cx.cs mc++frs)) ob'.tr h₅:=aM.past (I₄.perm (List.Perm.swap _ _ _)) fun b o q e=>(hs₅.2 b q).trans e
 refine aq (I₅.frNs (D,gi (·=gC rs)) (.head _)) fun oD hoD eD=>?_
 rw[show oD=gC rs from eD]at hoD
 have N₅:az (pm w T) base cx H' ρ' ⟨fm,ob'⟩ ((D,gi (·=gC rs))::frs) h₅:=⟨⟨m,mc,I₅.perm ((List.Perm.swap _ _ _).trans (List.Perm.cons _ List.perm_middle.symm)),F₂.mono L'.le L'.grows⟩,N'.len,hm.more.outer,hm.more.self⟩
 refine c9 (N₅.adopt hm (x:=.list ys) (.list hoD (hv.mono (fun _ _ e=>e) .more)) h') fun v σ' N₆ R₆ q₆=>?_
 exact a v _ σ' H' (ρ'++[D]) _ N₆ (L₁.trans ⟨L'.le,L'.new,L'.grows.trans .more,L'.gens,L'.drawn,L'.os⟩) R₆ q₆
theorem Df(S:de prog w T base c.R E n){cx:Cx}{pos px:Pos}{elt iter:Expr}{x:Str}{csc:Scope}(O:cx.Ok n)(hit:i5 iter=true)(hx:bB csc x=true)
  {σ:St} {Q:V→St→Prop} (h:(AZ E elt iter x csc cx.sc).run σ Q) {H:HP} {ρ:List Addr} {frs:aJ} {s:Shared} {Q':Value→Shared→Prop} {EE:Value→Shared→Prop} (N:az (pm w T) base cx H ρ σ frs s.heap) (X:eY prog w base c.R cx frs H s EE) (a:c5 w T base cx frs H ρ s Q Q') :
  wpAny (model prog w) cx.A (eval (.ListComp elt [⟨.Name x px,iter,[],0⟩] csc pos) cx.env) Q' EE s:=by
 refine g9 h fun hb h=>ar hb fun hk hp=>?_
 have hk:=Dq hk
 have hp:=um hp
 have hfree:∀y∈csc.names,y.2≠.free:=fun y m=>(hp y m).1
 have hcell:∀y∈csc.names,y.2≠.cell:=fun y m=>(hp y m).2.1
 rw[eval_ListComp]
 refine wpAny_comprehension_free (use:=none) rfl (fk hit cx.env) (closureFor_none hfree) hk (fun y m e=>(hp y m).2.2 e) ?_
 refine S.ex cx iter σ _ O h _ _ _ _ _ _ N X fun v₁ r₁ σ₁ H₁ ρ₁ s₁ N₁ L₁ R₁ h₁=>aB h₁ fun p eo h₁=>a8 h₁ fun hf h₁=>?_
 refine xu O.handled N₁ R₁ eo fun I fp Pi St h₂ oI H₂ Z=>?_
 refine wpAny_newObj_type (wpAny_newFunctionEnv hcell (by intro y hy;exact absurd hy List.not_mem_nil) (fun h₃ hns₃ hsb₃=>?_) hk)
 rw[nK hfree]
 have hD:(h₂.push {cls:=.type "list",dict:=none,data:=.seq ([]:List Value).toArray}).get? h₂.objs.size=some (gC []):=Heap.get?_push_size _ rfl
 have up₃:∀b o,(h₂.push {cls:=.type "list",dict:=none,data:=.seq ([]:List Value).toArray}).get? b=some o→h₃.get? b=some o:=fun b o e=>hsb₃.extBut b o (uN e) (dz _ _ _ e)
 have N₂:=Z.now.enter ⟨_,hD,rfl⟩ (φ:=gi (·=gC [])) (dz _)
 refine aW N₂.inv fun m mc I₂ F₂=>?_
 have N₃:=(N₂.into I₂ (cw.mpr hns₃) rfl up₃ (csc:=csc)).permF (Fb _ _)
 have st:=Z.walks.frame _ _ _ Z.starts fun b _ o e=>up₃ _ _ (dz _ _ _ e)
 have loop:=yt (s₃:={s₁ with heap:=h₃,toks:=s₁.toks+([]:List (Str×Value)).length}) (RR:=compPost (model prog w) cx.A EE none Q' (.ref h₂.objs.size) _) (elt:=elt) (iter:=iter) (px:=px) (pos:=pos) (s₁:={s₁ with heap:=h₂}) S rfl (Nat.le_of_ble_eq_true hf) (O.comp hk hcell) hx N₁.home.into Z.walks Z.fp Z.tells Z.there st h₁ N₃ .heap
  fun H' ρ' ob' rs ys s' N' hv L' q=>D8 N₁.home (L₁.trans Z.later) F₂ N' hv L' q a
 exact codeAny_compStart_list loop (Z.walks.self 0 _ _ _ st loop)
theorem rt{y:Str}{all:List (Str×NameKind)}{l:List (Str×NameKind)}(h:eE y all l=true):∀x∈l,(x.2=.free→x.1=y)∧x.2≠.cell∧(x.2=.local→all.lookup x.1=some .local):=by
  induction l with
  |nil=>exact fun _ m=>absurd m List.not_mem_nil
  | cons p r ih=>
    obtain⟨z,k⟩:=p
    rw[List.forall_mem_cons]
    cases k with
    |«local»=>exact ar (b:=eE y all r) h fun a b=>⟨⟨fun e=>NameKind.noConfusion e,fun e=>NameKind.noConfusion e,fun _=>by rw[←eH];exact gU a⟩,ih b⟩
    |free=>exact ar (b:=eE y all r) h fun a b=>⟨⟨fun _=>bj.mp a,fun e=>NameKind.noConfusion e,fun e=>NameKind.noConfusion e⟩,ih b⟩
    |cell=>cases h
    |_=>exact⟨⟨fun e=>NameKind.noConfusion e,fun e=>NameKind.noConfusion e,fun e=>NameKind.noConfusion e⟩,ih h⟩
theorem te {csc:Scope} {env:Env} {y:Str} {ad:Addr} (hc:env.cells.lookup y=some ad) (h:∀x∈csc.names,x.2=.free→x.1=y) (hy:(y,NameKind.free)∈csc.names):∃cl,closureFor csc env=pure cl∧cl.lookup y=some ad:=by
  have hco:cellOf env y=pure ad:=by unfold cellOf;rw[hc]
  have key:∀(l:List (Str×NameKind)) (cs:List (Str×Addr)),(∀x∈l,x.2=NameKind.free→x.1=y)→∃cl,(forIn l cs fun(x:Str×NameKind) (cs:List (Str×Addr))=>(match x with
      |(name,kind)=>if(kind==NameKind.free)=true then do let r ←cellOf env name;pure (ForInStep.yield ((name,r)::cs))else pure (ForInStep.yield cs):Sem _))=pure cl∧(cs.lookup y=some ad∨(y,NameKind.free)∈l→cl.lookup y=some ad):=by
    intro l
    induction l with
    |nil=>intro cs _;exact⟨cs,rfl,fun q=>q.elim id fun q=>by cases q⟩
    | cons x r ih=>
      intro cs h
      obtain⟨z,k⟩:=x
      rw[List.forIn_cons]
      by_cases e:k=.free
      · subst e
        have ez:z=y:=h _ List.mem_cons_self rfl
        subst ez
        refine aq (ih ((z,ad)::cs) fun u m=>h u (List.mem_cons_of_mem _ m)) fun cl e1 e2=>?_
        refine⟨cl,?_,fun _=>e2 (.inl (by simp))⟩
        have:((NameKind.free==NameKind.free)=true):=rfl
        simp only [this,if_true,hco]
        exact e1
      · have e':(k==NameKind.free)=false:=beq_eq_false_iff_ne.mpr e
        refine aq (ih cs fun u m=>h u (List.mem_cons_of_mem _ m)) fun cl e1 e2=>?_
        refine⟨cl,?_,fun q=>e2 (q.imp id fun q=>?_)⟩
        · simp only [e',Bool.false_eq_true,if_false]
          exact e1
        · rcases List.mem_cons.mp q with q|q
          · cases q;exact absurd rfl e
          · exact q
  refine aq (key csc.names [] h) fun cl e1 e2=>?_
  refine⟨cl,?_,e2 (.inr hy)⟩
  unfold closureFor
  exact(congrArg (fun(z:Sem (List (Str×Addr)))=>z >>= fun cs=>pure cs) e1).trans (pure_bind _ _)
theorem tT(o:Int)(xs:List Int):lX o xs=xs.filter (· != o):=by
 induction xs with
 |nil=>rfl
 |cons x r ih=>rw[List.filter_cons,←ih];show bX (x==o) (lX o r) (x::lX o r)=if(!(x==o))=true then _ else _;cases x==o <;> rfl
noncomputable def Se(o:Int)(v:Value):Bool:=match v with
 |.int i _=>i != o
 |_=>true
theorem tS{o:Int}{rs:List Value}{xs:List Int}(h:IntsAre rs xs):IntsAre (rs.filter (Se o)) (xs.filter (· != o)):=by
  induction h with
  |nil=>exact .nil
  | cons a t x ih=>
    rw[List.filter_cons,List.filter_cons]
    show IntsAre (if(a != o)=true then _ else _) (if(a != o)=true then _ else _)
    cases a != o with
    |true=>exact .cons _ _ ih
    |false=>exact ih
theorem zM{l₁ l₂:List Value}(h:Paired Eq l₁ l₂):l₁=l₂:=by
 induction h with
 |nil=>rfl
 |cons e _ ih=>rw[e,ih]
theorem iD{env:Env}{y:Str}(hk:env.scope.kind=.function)(hc:env.kindOf y=some .cell){names:List (Str×NameKind)}(h:names.lookup y=some .free) :
    (names.map fun(n,k)=>if(k==NameKind.free&&env.scope.kind==.function&&env.kindOf n==some .cell)then(n,NameKind.cell)else(n,k)).lookup y=some .cell:=by
  induction names with
  |nil=>cases h
  | cons p r ih=>
    obtain⟨n,k⟩:=p
    have one (k':NameKind) (l:List (Str×NameKind)):List.lookup y ((n,k')::l)=if y==n then some k' else List.lookup y l:=by rw[List.lookup_cons];cases y==n <;> rfl
    show List.lookup y ((if(k==NameKind.free&&env.scope.kind==.function&&env.kindOf n==some .cell)=true then(n,NameKind.cell)else(n,k))::_)=_
    rw[one]at h
    cases hy:y==n with
    | true=>
      rw[hy,if_pos rfl]at h
      rw[ae h,←eq_of_beq hy,hk,hc,if_pos (by rfl),List.lookup_cons,beq_self_eq_true]
    | false=>
      rw[hy,if_neg Bool.false_ne_true]at h
      rw[←apply_ite (fun b=>(n,b)),one,hy,if_neg Bool.false_ne_true]
      exact ih h
theorem sM{rs:List Value}{xs:List Int}{i:Nat}{v:Value}(h:IntsAre rs xs)(e:rs[i]?=some v):∃a t,v=.int a t:=by
  induction h generalizing i with
  |nil=>cases e
  | cons a t x ih=>cases i with
    |zero=>exact⟨a,t,(ae e).symm⟩
    |succ i=>exact ih e
theorem zH (S:de prog w T base c.R E n) {cx:Cx} {pos px p1 p2 p3:Pos} {elt iter:Expr} {x x₁ y:Str} {csc:Scope} (O:cx.Ok n) (hit:i5 iter=true) (hx:bB csc x=true)
    {σ:St} {Q:V→St→Prop} (h:(rG E elt iter x x₁ y csc cx.sc).run σ Q) {H:HP} {ρ:List Addr} {frs:aJ} {s:Shared} {Q':Value→Shared→Prop} {EE:Value→Shared→Prop} (N:az (pm w T) base cx H ρ σ frs s.heap) (X:eY prog w base c.R cx frs H s EE) (a:c5 w T base cx frs H ρ s Q Q') :
    wpAny (model prog w) cx.A (eval (.ListComp elt [⟨.Name x px,iter,[.Compare (.Name x₁ p1) [.NotEq] [.Name y p2] p3],0⟩] csc pos) cx.env) Q' EE s:=by
  refine i9 h fun q eq h=>g9 h fun hb h=>ar hb fun hb1 hb2=>ar hb1 fun hk hp=>ar hb2 fun e1 hb3=>ar hb3 fun e2 e3=>g9 h fun hb hh=>ar hb fun hy1 hy2=>?_
  have e1:=bj.mp e1
  have e2:=bj.mp e2
  obtain⟨x₂,px₂⟩:=q
  have e2:x=x₂:=e2
  subst e1 e2
  rw[dc eq]
  have hk:=Dq hk
  have hp:=rt hp
  have hcell:∀z∈csc.names,z.2≠.cell:=fun z m=>(hp z m).2.1
  have hy1:=mO hy1
  have hy2:=hO hy2
  rw[eH]at hy1 hy2
  refine bz (O.cells y hy2) fun ad had=>?_
  have hmem:(y,NameKind.free)∈csc.names:=by
    refine aW (List.lookup_eq_some_iff.mp hy1) fun l1 l2 q _=>?_
    rw[q];exact List.mem_append_right _ (.head _)
  refine aq (te (env:=cx.env) had (fun z m e=>(hp z m).1 e) hmem) fun cl hcl hcy=>?_
  refine a7 (mi hx) fun hxl hxd=>?_
  have hxl:csc.names.lookup x=some .local:=by
    rcases hxl with q|q
    · exact q
    · refine aW (List.lookup_eq_some_iff.mp q) fun l1 l2 q _=>?_
      exact absurd rfl (hcell (x,.cell) (by rw[q];exact List.mem_append_right _ (.head _)))
  rw[eval_ListComp]
  refine wpAny_comprehension_free (use:=none) rfl (fk hit cx.env) hcl hk (fun z m e=>(hp z m).2.2 e) ?_
  refine S.ex cx iter σ _ O hh _ _ _ _ _ _ N X fun v₁ r₁ σ₁ H₁ ρ₁ s₁ N₁ L₁ R₁ h₁=>?_
  refine aB h₁ fun p er h₁=>aB h₁ fun u ey h₁=>aB h₁ fun ko eo h₁=>cg h₁ fun hf h₁=>?_
  obtain⟨o,xs,hxp⟩:∃o xs,o=ko.2∧xs=p.2:=⟨_,_,rfl,rfl⟩
  have hf:=Nat.le_of_ble_eq_true hf
  refine aW N₁.inv fun m mc I₁ F₁=>?_
  obtain⟨hyd,ry,hna,hry⟩:=F₁ y _ ey
  refine wg I₁ R₁ er fun ax rs k' era ho hxs=>hry.cI eo fun ty ery=>?_
  rw[ery]at hna
  rw[←hxp.1,←hxp.2]at h₁
  rw[←hxp.2]at hf hxs
  rw[←hxp.1]at hna
  rw[era]
  have hmc:mc y=some (.int o ty):=by
    refine hna.elim (fun⟨q,_⟩=>?_) fun q=>q.elim (fun⟨_,_,q⟩=>?_) fun⟨q,_⟩=>?_
    · have q:cx.sc.names.lookup y=some .local:=q
      rw[hy2]at q;cases q
    · exact q
    · have q:cx.sc.names.lookup y=some .free:=q
      rw[hy2]at q;cases q
  refine aq (j8 I₁ (O.kept _ _ hy2 had)) fun oc hoc hdc=>?_
  rw[hmc]at hdc
  have ne:ax≠s₁.heap.objs.size:=fun e=>by
    have:=Heap.lt_size ho
    rw[e]at this;exact absurd this (Nat.lt_irrefl _)
  have W:=Walks.list (prog:=prog) (w:=w) O.handled s₁.heap.objs.size ax ne rs.toArray
  have hl:rs.toArray.size=xs.length:=by rw[List.size_toArray];exact hxs.length
  rw[hl]at W
  have up:∀(o:Obj) b o',s₁.heap.get? b=some o'→(s₁.heap.push o).get? b=some o':=fun o b o' e=>Heap.get?_push_of_some _ e
  have lts:∀b o',s₁.heap.get? b=some o'→b∉[s₁.heap.objs.size]:=fun b o' e q=>by
    rw[List.mem_singleton.mp q]at e
    exact absurd (Heap.lt_size e) (Nat.lt_irrefl _)
  refine wpAny_pyIter_list (l:=ax) (items:=rs.toArray) ⟨_,ho,rfl,_,rfl⟩ ?_
  refine comp_block_walkC (RR:=fun acc C=>compPost (model prog w) cx.A EE none Q' acc C) W (by rw[sizeLine_eq];lia) (Se o) Eq hcell hk hxl ⟨⟨_,Heap.get?_push_size _ rfl,rfl,rfl⟩,_,Heap.get?_push_of_some _ ho,rfl,_,rfl⟩ ?_ ⟨?_,?_⟩ ?_
  · intro b hb
    rw[Heap.size_push]
    rcases List.mem_cons.mp hb with rfl|hb
    · exact Nat.lt_succ_self _
    · rw[List.mem_singleton.mp hb];exact Nat.lt_succ_of_lt (Heap.lt_size ho)
  · intro C i v s₃ m₃ E' _ hv hn hm hk₃ _
    refine iB (sM hxs (by simpa using hv)) fun iv tv rq2=>?_;subst rq2
    refine wpAny_tests_one ?_
    (with_reducible refine wpAny_isTrue_Compare1 ?_ rfl)
    (with_reducible refine wpAny_Name ?_ hxd)
    refine wpAny_loadName_local (v:=_) hk (lookup_relabel_local hxl) hn hm ?_
    (with_reducible refine wpAny_Name ?_ hyd)
    refine wpAny_loadName_cell (c:=ad) (v:=.int o ty) hk (iD (env:=cx.env) O.kind hy2 hy1) hcy ⟨oc,hk₃ _ _ (lts _ _ hoc) (up _ _ _ hoc),hdc⟩ ?_
    (with_reducible refine ne_int ?_)
    (with_reducible refine wpAny_truthy_bool ?_)
    exact⟨rfl,_,_,rfl,fun _ _ e=>e⟩
  · intro C i v s₃ m₃ E' _ hv _ hn hm hk₃ _
    (with_reducible refine wpAny_Name ?_ hxd)
    refine wpAny_loadName_local (v:=_) hk (lookup_relabel_local hxl) hn hm ?_
    exact⟨rfl,_,_,rfl,fun _ _ e=>e⟩
  · intro D C h' tk m' ys vs hD hC hDC hn hl' hpl hlen hP hF hk'
    refine⟨m',hn,fun h'' hs''=>?_⟩
    have hDs:s₁.heap.get? D=none:=by
      cases q:s₁.heap.get? D with
      |none=>rfl
      |some o'=>rw[up _ _ _ q]at hD;cases hD
    have keep:∀b o',s₁.heap.get? b=some o'→h''.get? b=some o':=fun b o' e=>by
      refine(hs''.2 b fun q=>?_).trans (hk' _ _ (lts _ _ e) (up _ _ _ e))
      rw[←q,up _ _ _ e]at hC;cases hC
    refine bz hpl fun nD hDo=>?_
    have hDo:h''.get? D=some {cls:=.type "list",data:=.seq ys nD}:=(hs''.2 D hDC).trans hDo
    refine a7 (ic (tk:=tk) N₁ (fun b o' _ e=>keep b o' e) (fun m hm=>let ⟨o,e,f⟩:=cw.mpr hm;cw.mp ⟨o,keep _ _ e,f⟩) hDs hDo) fun N₅ L₅=>?_
    have evs:vs=rs:=by
      refine List.ext_getElem? fun j=>?_
      by_cases hj:j < vs.length
      · have:=hP j vs[j] (List.getElem?_eq_getElem hj)
        rw[List.getElem?_eq_getElem hj]
        simpa using this.symm
      · rw[List.getElem?_eq_none (by lia),List.getElem?_eq_none (by rw[hxs.length];lia)]
    have eys:=zM hF
    rw[evs]at eys
    have hints:IntsAre ys.toList (lX o xs):=by
      rw[←eys,tT]
      exact tS hxs
    refine a (.irow false (lX o xs)) _ σ₁ _ ρ₁ _ N₅ (L₁.trans L₅) (.irow (rs:=ys.toList) (n:=nD) ?_ hints) h₁
    show H₁.and D _ D (aA ys.toList nD)
    rw[show aA ys.toList nD={cls:=.type "list",data:=.seq ys nD} by simp[aA,PySem.W.listOf]]
    exact HP.new
theorem E9(S:de prog w T base c.R E n){cx:Cx}{pos:Pos}{elt:Expr}{gens:List Comprehension}{csc:Scope}(O:cx.Ok n)
  {σ:St} {Q:V→St→Prop} (h:(LC E elt gens csc cx.sc).run σ Q) {H:HP} {ρ:List Addr} {frs:aJ} {s:Shared} {Q':Value→Shared→Prop} {EE:Value→Shared→Prop} (N:az (pm w T) base cx H ρ σ frs s.heap) (X:eY prog w base c.R cx frs H s EE) (a:c5 w T base cx frs H ρ s Q Q') :
  wpAny (model prog w) cx.A (eval (.ListComp elt gens csc pos) cx.env) Q' EE s:=by
 refine i9 h fun p ep h=>?_
 refine bz (GD ep) fun px e=>?_
 rw[e]
 refine g9 h fun hb h=>ar hb fun hit hx=>Nr h (fun ei h=>?_) fun _ h=>i9 h fun e1 ee h=>i9 h fun q eq h=>?_
 ·rw[bU ei];exact Df S O hit hx h N X a
 ·refine Qj (NP eq) fun p1 p2 p3 e=>?_
  rw[D4 ee,e];exact zH S O hit hx h N X a
end
end
section
section
variable {prog:Program}{w:World}{T:Nat→V}{base:Heap}{c:ck}{K:Frag}{E:Ev}{n:Nat}
theorem G7{α:Type}(x:Str)(v:α)(l:List (Str×α)):(put x v l).length≤l.length+1:=by
  induction l with
  |nil=>exact Nat.le_refl _
  | cons p r ih=>
    show(bX (aE x p.1) ((p.1,v)::r) (p::put x v r)).length≤_
    cases aE x p.1 with
    |true=>exact Nat.le_succ _
    |false=>exact Nat.succ_le_succ ih
noncomputable def dq(prog:Program)(w:World)(T:Nat→V)(base:Heap)(R:Addr→Prop)(cx:Cx)(e:Expr)(a:bw V):Prop:=
 ∀σ Q,a.run σ Q→∀H ρ frs s Q' EE,az (pm w T) base cx H ρ σ frs s.heap→eY prog w base R cx frs H s EE→c5 w T base cx frs H ρ s Q Q'→wpAny (model prog w) cx.A (eval e cx.env) Q' EE s
theorem dq.bad{R:Addr→Prop}{cx:Cx}{e:Expr}:dq prog w T base R cx e .bad:=fun _ _ h=>h.elim
theorem dq.b{R:Addr→Prop}{cx:Cx}{e:Expr}{b:Bool}{a:bw V}(k:b=true→dq prog w T base R cx e a):dq prog w T base R cx e (bA b a):=fun σ Q h=>g9 h fun eb h=>k eb σ Q h
theorem dq.o{R:Addr→Prop}{cx:Cx}{e:Expr}{α:Type}{o:Option α}{f:α→bw V}(k:∀x,o=some x→dq prog w T base R cx e (f x)):dq prog w T base R cx e (oA o f):=fun σ Q h=>i9 h fun x eo h=>k x eo σ Q h
theorem dq.x{R:Addr→Prop}{cx:Cx}{e:Expr}{α:Type}{o:Option α}{f:α→bw V}{a:bw V}(k:∀x,o=some x→dq prog w T base R cx e (f x))(l:o=none→dq prog w T base R cx e a):dq prog w T base R cx e (oX o f a):=fun σ Q h=>Ig h (fun x eo h=>k x eo σ Q h) fun eo h=>l eo σ Q h
theorem ML{P:Pm}{H:HP}{ρ:List Addr}{v:V}{r:Value}{σ:St}{Q:V→St→Prop}(q:M6 Q v σ)(R:ag P H ρ v r):∃v',ag P H ρ v' r∧Q v' σ:=
 du q (fun x e q=>au e fun p ep e=>bQ e fun _ e=>R.cI ep fun t er=>q.1.elim (fun h=>⟨.int true 0,by rw[er,ae e,h];exact .int,q.2.1 h⟩) fun h=>⟨.int true 1,by rw[er,ae e,h];exact .int,q.2.2 h⟩) fun _ q=>⟨v,R,q⟩
theorem qc{R:Addr→Prop}{cx:Cx}{e:Expr}{p:Pos}{a:bw V}(x:dq prog w T base R cx e a):dq prog w T base R cx e (lI c p a):=by
  refine .x (fun t _=>?_) fun _=>x
  intro σ Q h H ρ frs s Q' EE N X an
  cases t with
  | int=>
    refine aq h fun J h1 h2=>?_
    refine x σ _ h1 H ρ frs s Q' EE N X fun v r σ' H' ρ' s' N' L' R' q=>?_
    obtain⟨rfl,k,y,rfl,hj⟩:=q
    exact R'.int' fun t e=>an (.int false y) _ _ _ _ _ N' L' (e▸.int) (h2 y hj)
  | bool=>
    refine aq h fun J h1 h2=>?_
    refine x σ _ h1 H ρ frs s Q' EE N X fun v r σ' H' ρ' s' N' L' R' q=>?_
    obtain⟨rfl,k,y,rfl,hj⟩:=q
    exact R'.bool' fun e=>an (.bool false y) _ _ _ _ _ N' L' (e▸.bool) (h2 y hj)
  | str=>
    refine aq h fun J h1 h2=>?_
    refine x σ _ h1 H ρ frs s Q' EE N X fun v r σ' H' ρ' s' N' L' R' q=>?_
    obtain⟨rfl,k,y,rfl,hj⟩:=q
    exact R'.str' fun t hs e=>an (.str false y) _ _ _ _ _ N' L' (e▸.str hs) (h2 y hj)
  | bit=>
    refine x σ _ h H ρ frs s Q' EE N X fun v r σ' H' ρ' s' N' L' R' q=>?_
    refine aq (ML q R') fun v' hv hq=>?_
    exact an v' _ _ _ _ _ N' L' hv hq
  |_=>exact x σ _ h H ρ frs s Q' EE N X an
theorem AG{t:Option JT}{cx:Cx}{H:HP}{ρ:List Addr}{frs:aJ}{σ:St}{s:Shared}{o i:V}{ro ri:Value}{value slice:Expr}{Kq:V→Prop}{Q:Value→Shared→Prop}{EE:Value→Shared→Prop}{mm:Nat}(O:cx.Ok (mm+1))
  (N:az (pm w T) base cx H ρ σ frs s.heap) (hs:fK slice=true) (ho:ag (pm w T) H ρ o ro) (hi:ag (pm w T) H ρ i ri) (h:IX t (AU σ.ob.tr o i) Kq)
  (q:∀v r tk,ag (pm w T) H ρ v r→Kq v→Q r {s with toks:=tk}):wpAny (model prog w) cx.A (subscriptTail value slice ro ri) Q EE s:=by
 rcases t with _|(_|_|_|_|_|_)
 case some.itemI=>
  refine aq h fun J h1 h2=>?_
  exact qG O N hs ho hi h1 fun v r tk hv hk=>aB hk fun p ep hk=>hv.cI ep fun t er=>q (.int false _) _ tk (er▸.int) (h2 _ hk)
 case some.itemS=>
  refine aq h fun J h1 h2=>?_
  exact qG O N hs ho hi h1 fun v r tk hv hk=>aB hk fun p ep hk=>hv.cS ep fun t hz er=>q (.str false _) _ tk (er▸.str hz) (h2 _ hk)
 all_goals exact qG O N hs ho hi h q
noncomputable def pz(prog:Program)(w:World)(T:Nat→V)(base:Heap)(c:ck)(E:Ev)(n:Nat):Prop:=
 ∀(cx:Cx) f g gas lsc lpos fpos gp gpos p,cx.Ok (n+1)→dq prog w T base c.R cx (.Call (.Name f fpos) [.Lambda ⟨[],[],none,[],[],none,[]⟩ (.Call (.Name g gp) gas [] gpos) lsc lpos] [] p) (wR c E f g gas lsc lpos cx.sc)
theorem GU{e:Expr}{p}(h:Ia e=some p):e=.Call p.1 p.2.1 p.2.2.1 p.2.2.2:=j0 (f:=fun p=>.Call p.1 p.2.1 p.2.2.1 p.2.2.2) (by cases e <;> first|rfl|trivial) h
theorem Lg{e:Expr}{p}(h:OB e=some p):e=.Lambda p.1 p.2.1 p.2.2.1 p.2.2.2:=j0 (f:=fun p=>.Lambda p.1 p.2.1 p.2.2.1 p.2.2.2) (by cases e <;> first|rfl|trivial) h
theorem xy{e:Expr}{p}(h:EJ e=some p):e=.Attribute p.1 p.2.1 p.2.2:=j0 (f:=fun p=>.Attribute p.1 p.2.1 p.2.2) (by cases e <;> first|rfl|trivial) h
theorem CZ{e:Expr}{p}(h:pI e=some p):e=.Slice p.1 p.2.1 p.2.2.1 p.2.2.2:=j0 (f:=fun p=>.Slice p.1 p.2.1 p.2.2.1 p.2.2.2) (by cases e <;> first|rfl|trivial) h
theorem Ff(e:Expr):oX (pW e) (fun p=>∃a b,e=.Tuple p a b) True:=by cases e <;> first|exact⟨_,_,rfl⟩|trivial
theorem pX{e:Expr}{p}(h:pW e=some p):∃a b,e=.Tuple p a b:=by have q:=Ff e;rw[h]at q;exact q
theorem ue{e:Expr}(h:pI e=none):fK e=true:=mV (b:=k9 (pI e)) (by cases e <;> first|rfl|trivial) (by rw[h];rfl)
theorem DV{a:Arguments}(h:EH a=true):a=⟨[],[],none,[],[],none,[]⟩:=by
 obtain⟨x1,x2,x3,x4,x5,x6,x7⟩:=a
 exact ar h fun a b=>ar a fun a1 a2=>ar b fun b c=>ar b fun b1 b2=>ar c fun c d=>ar d fun d e=>by
  rw[bU (l:=x1) a1,bU (l:=x2) a2,bU (l:=x4) b1,bU (l:=x7) b2,bU (l:=x5) c,ja (o:=x3) d,ja (o:=x6) e]
theorem lO{e:Expr}{p}(h:qq e=some p):∃pos,e=.Call (.Name p.1 p.2.1) p.2.2 [] pos:=
 au h fun q eq h=>au h fun x ex h=>bQ h fun b h=>⟨q.2.2.2,by rw[GU eq,dc ex,bU b,←ae h]⟩
theorem zr{as:List Expr}{q:Str×List Expr×Scope×Pos}(h:Dg as=some q):∃gp gpos,as=[.Lambda ⟨[],[],none,[],[],none,[]⟩ (.Call (.Name q.1 gp) q.2.1 [] gpos) q.2.2.1 q.2.2.2]:=
 au h fun e ee h=>au h fun p ep h=>bQ h fun b h=>au h fun c ec h=>by
  refine bz (lO ec) fun pos e'=>?_
  exact⟨c.2.1,pos,by rw[D4 ee,Lg ep,DV b,e',←ae h]⟩
section
variable {cx:Cx}
theorem Hw(G:aI prog w T c K base)(S:de prog w T base c.R E n)(HD:pz prog w T base c E n){f:Expr}{p:Pos}{as:List Expr}(O:cx.Ok (n+1)):dq prog w T base c.R cx (.Call f as [] p) (IK c E f as p cx.sc):=by
 have O':=O.less
 refine .b fun hp=>.x (fun q eq=>.x (fun q e=>?_) fun _=>?_) fun _=>.o fun q eq=>.b fun hb=>?_
 ·refine iB (zr e) fun gp gpos e=>?_
  rw[e,dc eq]
  exact HD cx _ _ _ _ _ _ _ _ p O
 ·intro σ Q h H ρ frs s Q' EE N X a
  rw[dc eq]
  refine Call_ ?_
  refine S.ex cx _ _ _ O' h _ _ _ _ _ _ N X fun v₁ r₁ σ₁ H₁ ρ₁ s₁ N₁ L₁ R₁ h₁=>?_
  exact kL G S O' hp R₁ .nil h₁ N₁ (X.later L₁) fun v r σ' H' ρ' s' N' L' R' q=>a v r σ' H' ρ' s' N' (L₁.trans L') R' q
 ·intro σ Q h H ρ frs s Q' EE N X a
  rw[xy eq]
  refine iN hb hp fun pl=>?_
  refine S.ex cx _ _ _ O' h _ _ _ _ _ _ N X fun v₁ r₁ σ₁ H₁ ρ₁ s₁ N₁ L₁ R₁ h₁=>aB h₁ fun p e h₁=>?_
  refine F7 G N₁ R₁ e fun rg rf tk hg hf=>?_
  exact kL (s:={s₁ with toks:=tk}) G S O' hp hg hf h₁ N₁ ((X.later L₁).later (H:=H₁) (ρ:=ρ₁) .toks) fun v r σ' H' ρ' s' N' L' R' q=>a v r σ' H' ρ' s' N' ((L₁.trans (.toks (tk:=tk))).trans L') R' q
theorem zY(G:aI prog w T c K base){x:Str}{p:Pos}{m:Nat}(O:cx.Ok m):dq prog w T base c.R cx (.Name x p) (s8 c x cx.sc):=by
 refine .b fun hg=>.o fun v e=>?_
 intro σ Q h H ρ frs s Q' EE N X a
 refine a7 (hB hg) fun g1 g2=>?_
 refine c9 G.g fun mg mb n1 n2 g3=>?_
 refine aq (g3 x v e) fun r hr hm=>?_
 have q:Q' r s:=a v r σ H ρ s N .refl (hr _ _ _) h
 have n1:=n1.keeps N.keep
 have n2:=n2.keeps N.keep
 (with_reducible refine Name_function_global ?_ ?_ ?_ g2)
 ·exact O.kind
 ·exact g1
 ·exact hm.elim (fun hm=>by with_reducible exact loadGlobal_global n1 hm q) fun⟨hm,hb⟩=>by with_reducible exact loadGlobal_builtin n1 hm n2 hb q
theorem G6(G:aI prog w T c K base){x:Str}{p:Pos}{m:Nat}(O:cx.Ok m):dq prog w T base c.R cx (.Name x p) (BD c x cx.sc):=by
 intro σ Q h H ρ frs s Q' EE N X a
 refine du h (fun v e h=>?_) fun _ h=>zY G O σ Q h H ρ frs s Q' EE N X a
 refine c9 N.ns fun m mc I F hn=>?_
 obtain⟨h2,r,h3,h4⟩:=F x v e
 have q:Q' r s:=a v r σ H ρ s N .refl h4 h
 (with_reducible refine wpAny_Name ?_ h2)
 refine h3.elim (fun⟨h1,h3⟩=>?_) fun h3=>h3.elim (fun⟨h1,⟨ad,had⟩,h3⟩=>?_) fun⟨h1,h1',ad,o,had,hH,hd⟩=>?_
 ·(with_reducible refine wpAny_loadName_local ?_ ?_ hn h3 q)
  ·exact O.kind
  ·exact h1
 ·refine aq (j8 I (O.kept _ _ h1 had)) fun o ho hd=>?_
  exact wpAny_loadName_cell O.kind h1 had ⟨o,ho,by rw[hd,h3]⟩ q
 ·exact wpAny_loadName_free O.kind h1 had ⟨o,I.frz _ _ hH,hd⟩ q h1'
theorem jQ{H:HP}{ρ:List Addr}{frs:aJ}{σ:St}{s:Shared}{op:CmpOp}{x y:V}{rx ry:Value}{Q:V→St→Prop}{Q':Value→Shared→Prop}{EE:Value→Shared→Prop}{m:Nat}(O:cx.Ok (m+1))(N:az (pm w T) base cx H ρ σ frs s.heap)
  (hx:ag (pm w T) H ρ x rx) (hy:ag (pm w T) H ρ y ry) (h:ji op x y σ Q) (a:∀k b tk,Q (.bool k b) σ→Q' (.bool b) {s with toks:=tk}):wpAny (model prog w) cx.A (compareOp op rx ry) Q' EE s:=
 aB h fun p e h=>by
  refine aW N.inv fun m mc I F=>?_
  exact Gg rfl I (by have:=O.units;lia) e hx hy fun tk=>a p.1 p.2 tk h
theorem Bv{k:Const}{q:Nat}{p:Pos}{R:Addr→Prop}:dq prog w T base R cx (.Constant k q p) (xD k):=by
  cases k with
  | none=>
    intro σ Q h H ρ frs s Q' EE N X a
    (with_reducible rw[eval_Constant])
    exact wpAny_pure (a _ _ σ H ρ s N .refl .none h)
  | bool b=>
    intro σ Q h H ρ frs s Q' EE N X a
    (with_reducible rw[eval_Constant])
    exact wpAny_pure (a _ _ σ H ρ s N .refl .bool h)
  | int i=>
    intro σ Q h H ρ frs s Q' EE N X a
    (with_reducible refine wpAny_Constant_int ?_)
    exact a _ _ σ H ρ _ N .toks .int h
  | str x=>
    refine .b fun hs=>?_
    intro σ Q h H ρ frs s Q' EE N X a
    (with_reducible refine Constant_str ?_)
    exact a _ _ σ H ρ _ N .toks (.str (qj hs)) h
  |_=>exact .bad
theorem Bw(S:de prog w T base c.R E n)(O:cx.Ok n){l r:Expr}{op:Operator}{p:Pos}:dq prog w T base c.R cx (.BinOp l op r p) (IT E l op r cx.sc):=by
 intro σ Q h H ρ frs s Q' EE N X a
 (with_reducible refine wpAny_BinOp ?_)
 refine S.ex cx _ _ _ O h _ _ _ _ _ _ N X fun v₁ r₁ σ₁ H₁ ρ₁ s₁ N₁ L₁ R₁ h₁=>?_
 refine S.ex cx _ _ _ O h₁ _ _ _ _ _ _ N₁ (X.later L₁) fun v₂ r₂ σ₂ H₂ ρ₂ s₂ N₂ L₂ R₂ h₂=>?_
 exact Kf N₂ (R₁.mono L₂.le L₂.grows) R₂ h₂ fun v r σ' H' ρ' s' N' L' R' q=>a v r σ' H' ρ' s' N' ((L₁.trans L₂).trans L') R' q
theorem OL(S:de prog w T base c.R E n)(O:cx.Ok n){op:UnaryOp}{x:Expr}{p:Pos}:dq prog w T base c.R cx (.UnaryOp op x p) (Mt E op x cx.sc):=by
  cases op with
  | Not=>
    intro σ Q h H ρ frs s Q' EE N X a
    (with_reducible refine UnaryOp_ ?_)
    refine S.ex cx _ _ _ O h _ _ _ _ _ _ N X fun v₁ r₁ σ₁ H₁ ρ₁ s₁ N₁ L₁ R₁ h₁=>?_
    (with_reducible refine not_of ?_)
    refine dN N₁ R₁ h₁ fun b σ₂ H₂ ρ₂ s₂ N₂ L₂ h₂=>?_
    refine a (.bool true (!b)) _ σ₂ H₂ ρ₂ s₂ N₂ (L₁.trans L₂) .bool ?_
    rw[wk]at h₂;exact h₂
  | USub=>
    intro σ Q h H ρ frs s Q' EE N X a
    (with_reducible refine UnaryOp_ ?_)
    refine S.ex cx _ _ _ O h _ _ _ _ _ _ N X fun v₁ r₁ σ₁ H₁ ρ₁ s₁ N₁ L₁ R₁ h₁=>aB h₁ fun p ep h₁=>R₁.cI ep fun t er=>?_
    rw[er]
    (with_reducible refine neg_int ?_)
    exact a _ _ σ₁ H₁ ρ₁ _ N₁ (L₁.trans .toks) .int h₁
  |_=>exact .bad
theorem M9(S:de prog w T base c.R E n)(O:cx.Ok n){t b o:Expr}{p:Pos}:dq prog w T base c.R cx (.IfExp t b o p) (Ma c E t b o p cx.sc):=by
 refine qc ?_
 intro σ Q h H ρ frs s Q' EE N X a
 (with_reducible refine IfExp_ ?_)
 refine S.tr cx _ _ _ O h _ _ _ _ _ _ _ (.inl rfl) N X fun b σ₁ H₁ ρ₁ s₁ N₁ L₁ h₁=>?_
 cases b with
 |true=>exact S.ex cx _ _ _ O h₁ _ _ _ _ _ _ N₁ (X.later L₁) fun v₂ r₂ σ₂ H₂ ρ₂ s₂ N₂ L₂ R₂ h₂=>a _ _ _ _ _ _ N₂ (L₁.trans L₂) R₂ h₂
 |false=>exact S.ex cx _ _ _ O h₁ _ _ _ _ _ _ N₁ (X.later L₁) fun v₂ r₂ σ₂ H₂ ρ₂ s₂ N₂ L₂ R₂ h₂=>a _ _ _ _ _ _ N₂ (L₁.trans L₂) R₂ h₂
theorem Hh(S:de prog w T base c.R E n)(O:cx.Ok (n+1)){l r:Expr}{op:CmpOp}{p:Pos}:dq prog w T base c.R cx (.Compare l [op] [r] p) (EA E l op r cx.sc):=by
 have O':=O.less
 refine .b fun hm=>?_
 have hm:=bS hm
 intro σ Q h H ρ frs s Q' EE N X a
 (with_reducible refine wpAny_Compare1 ?_ hm)
 refine S.ex cx _ _ _ O' h _ _ _ _ _ _ N X fun v₁ r₁ σ₁ H₁ ρ₁ s₁ N₁ L₁ R₁ h₁=>?_
 refine S.ex cx _ _ _ O' h₁ _ _ _ _ _ _ N₁ (X.later L₁) fun v₂ r₂ σ₂ H₂ ρ₂ s₂ N₂ L₂ R₂ h₂=>?_
 exact jQ O N₂ (R₁.mono L₂.le L₂.grows) R₂ h₂ fun k b tk q=>a _ _ σ₂ H₂ ρ₂ _ N₂ ((L₁.trans L₂).trans (.toks (tk:=tk))) .bool q
theorem Hz(S:de prog w T base c.R E n)(O:cx.Ok (n+1)){l r₁ r₂:Expr}{op₁ op₂:CmpOp}{p:Pos}:dq prog w T base c.R cx (.Compare l [op₁,op₂] [r₁,r₂] p) (CX E l op₁ op₂ r₁ r₂ cx.sc):=by
  have O':=O.less
  refine .b fun hm=>?_
  have hm:=bS hm
  intro σ Q h H ρ frs s Q' EE N X a
  (with_reducible refine Compare_chain ?_ hm)
  refine S.ex cx _ _ _ O' h _ _ _ _ _ _ N X fun v₁ r₁ σ₁ H₁ ρ₁ s₁ N₁ L₁ R₁ h₁=>?_
  (with_reducible refine chain_link ?_)
  refine S.ex cx _ _ _ O' h₁ _ _ _ _ _ _ N₁ (X.later L₁) fun v₂ r₂ σ₂ H₂ ρ₂ s₂ N₂ L₂ R₂ h₂=>?_
  refine jQ O N₂ (R₁.mono L₂.le L₂.grows) R₂ h₂ fun k b tk h₂=>?_
  have N₂':az (pm w T) base cx H₂ ρ₂ σ₂ frs ({s₂ with toks:=tk}:Shared).heap:=N₂
  have L₂':=(L₁.trans L₂).trans (.toks (H:=H₂) (ρ:=ρ₂) (tk:=tk))
  refine ij N₂' .bool h₂ fun b' hb h₃=>?_
  cases b' with
  |false=>exact a _ _ _ _ _ _ N₂' L₂' hb h₃
  | true=>
    refine chain_last ?_
    refine S.ex cx _ _ _ O' h₃ _ _ _ _ _ _ N₂' (X.later L₂') fun v₄ r₄ σ₄ H₄ ρ₄ s₄ N₄ L₄ R₄ h₄=>?_
    exact jQ O N₄ (R₂.mono L₄.le L₄.grows) R₄ h₄ fun k b tk q=>a _ _ _ _ _ _ N₄ ((L₂'.trans L₄).trans (.toks (tk:=tk))) .bool q
theorem FW(S:de prog w T base c.R E n)(O:cx.Ok n){op:BoolOp}{l:List Expr}{p:Pos}:dq prog w T base c.R cx (.BoolOp op l p) (CG c E op l p cx.sc):=by
  rcases l with _|⟨x,_|⟨y,r⟩⟩
  · exact .bad
  · intro σ Q h H ρ frs s Q' EE N X a
    (with_reducible refine BoolOp_one ?_)
    exact S.ex cx _ _ _ O h _ _ _ _ _ _ N X a
  · refine qc ?_
    cases op with
    | And=>
      intro σ Q h H ρ frs s Q' EE N X a
      (with_reducible refine BoolOp_and ?_)
      refine S.ex cx _ _ _ O h _ _ _ _ _ _ N X fun v₁ r₁ σ₁ H₁ ρ₁ s₁ N₁ L₁ R₁ h₁=>ij N₁ R₁ h₁ fun b hb h₂=>?_
      cases b with
      |true=>exact S.ex cx _ _ _ O h₂ _ _ _ _ _ _ N₁ (X.later L₁) fun v₃ r₃ σ₃ H₃ ρ₃ s₃ N₃ L₃ R₃ h₃=>a _ _ _ _ _ _ N₃ (L₁.trans L₃) R₃ h₃
      |false=>exact a _ _ _ _ _ _ N₁ L₁ hb h₂
    | Or=>
      intro σ Q h H ρ frs s Q' EE N X a
      (with_reducible refine BoolOp_or ?_)
      refine S.ex cx _ _ _ O h _ _ _ _ _ _ N X fun v₁ r₁ σ₁ H₁ ρ₁ s₁ N₁ L₁ R₁ h₁=>ij N₁ R₁ h₁ fun b hb h₂=>?_
      cases b with
      |true=>exact a _ _ _ _ _ _ N₁ L₁ hb h₂
      |false=>exact S.ex cx _ _ _ O h₂ _ _ _ _ _ _ N₁ (X.later L₁) fun v₃ r₃ σ₃ H₃ ρ₃ s₃ N₃ L₃ R₃ h₃=>a _ _ _ _ _ _ N₃ (L₁.trans L₃) R₃ h₃
theorem K2(S:de prog w T base c.R E n)(O:cx.Ok n){es:List Expr}{q:Nat}{p:Pos}:dq prog w T base c.R cx (.Tuple es q p) (Ij E es cx.sc):=by
 intro σ Q h H ρ frs s Q' EE N X a
 (with_reducible refine Tuple_ ?_)
 refine S.es cx _ _ _ O h _ _ _ _ _ _ _ N X fun vs rs σ₁ H₁ ρ₁ s₁ N₁ L₁ R₁ h₁=>a8 h₁ fun hf h₁=>?_
 have hl:rs.length≤sizeLine:=by rw[←aN R₁];exact dB hf
 (with_reducible refine wpAny_newTuple ?_ hl)
 exact a _ _ σ₁ _ ρ₁ _ (N₁.push (eO rs)) (L₁.trans (N₁.later _)) (.tup HP.new (R₁.mono HP.le .refl)) h₁
theorem JX(S:de prog w T base c.R E n)(O:cx.Ok n){es:List Expr}{p:Pos}:dq prog w T base c.R cx (.List es p) (B6 E es cx.sc):=by
 intro σ Q h H ρ frs s Q' EE N X a
 (with_reducible refine List_ ?_)
 refine S.es cx _ _ _ O h _ _ _ _ _ _ _ N X fun vs rs σ₁ H₁ ρ₁ s₁ N₁ L₁ R₁ h₁=>a8 h₁ fun hf h₁=>?_
 have hl:rs.length≤sizeLine:=by rw[←aN R₁];exact dB hf
 (with_reducible refine wpAny_newList ?_ hl)
 refine mA (fS N₁ R₁ h₁) fun v₂ σ₂ H₂ ρ₂ N₂ L₂ R₂ h₂=>?_
 exact a _ _ _ _ _ _ N₂ (L₁.trans L₂) R₂ h₂
theorem G8(G:aI prog w T c K base)(S:de prog w T base c.R E n)(O:cx.Ok n){o:Expr}{name:Str}{p:Pos}:dq prog w T base c.R cx (.Attribute o name p) (Dv c E o name cx.sc):=by
 refine .b fun hb=>?_
 intro σ Q h H ρ frs s Q' EE N X a
 refine qz hb ?_
 refine S.ex cx _ _ _ O h _ _ _ _ _ _ N X fun v₁ r₁ σ₁ H₁ ρ₁ s₁ N₁ L₁ R₁ h₁=>?_
 exact vr G N₁ R₁ h₁ fun u ru tk hr hq=>a _ _ σ₁ H₁ ρ₁ _ N₁ (L₁.trans .toks) hr hq
theorem Ku(S:de prog w T base c.R E n)(O:cx.Ok (n+1)){value slice:Expr}{p:Pos}:dq prog w T base c.R cx (.Subscript value slice p) (H0 c E value slice p cx.sc):=by
 have O':=O.less
 refine .x (fun q eq=>.b fun e=>?_) fun hs=>?_
 ·intro σ Q h H ρ frs s Q' EE N X a
  rw[CZ eq,ja e]
  (with_reducible refine Subscript_ ?_)
  refine S.ex cx _ _ _ O' h _ _ _ _ _ _ N X fun v₁ r₁ σ₁ H₁ ρ₁ s₁ N₁ L₁ R₁ h₁=>?_
  refine wpAny_Slice ?_
  refine w6 S O' h₁ N₁ (X.later L₁) fun p₂ r₂ σ₂ H₂ ρ₂ s₂ N₂ L₂ R₂ h₂=>?_
  refine w6 S O' h₂ N₂ (X.later (L₁.trans L₂)) fun p₃ r₃ σ₃ H₃ ρ₃ s₃ N₃ L₃ R₃ h₃=>?_
  refine evalPart_none_step ?_
  exact BC N₃ (R₁.mono (fun a o e=>L₃.le a o (L₂.le a o e)) (L₂.grows.trans L₃.grows)) R₂ R₃ h₃ fun v r σ' H' ρ' s' N' L' R' q=>a v r σ' H' ρ' s' N' ((L₁.trans (L₂.trans L₃)).trans L') R' q
 ·intro σ Q h H ρ frs s Q' EE N X a
  (with_reducible refine Subscript_ ?_)
  refine S.ex cx _ _ _ O' h _ _ _ _ _ _ N X fun v₁ r₁ σ₁ H₁ ρ₁ s₁ N₁ L₁ R₁ h₁=>?_
  refine S.ex cx _ _ _ O' h₁ _ _ _ _ _ _ N₁ (X.later L₁) fun v₂ r₂ σ₂ H₂ ρ₂ s₂ N₂ L₂ R₂ h₂=>?_
  exact AG O N₂ (ue hs) (R₁.mono L₂.le L₂.grows) R₂ h₂ fun v r tk hv hk=>a v r σ₂ H₂ ρ₂ _ N₂ ((L₁.trans L₂).trans .toks) hv hk
theorem Ml(G:aI prog w T c K base)(S:de prog w T base c.R E n)(HD:pz prog w T base c E n):∀(cx:Cx) e,cx.Ok (n+1)→dq prog w T base c.R cx e (A0 c E e cx.sc):=by
  intro cx e O
  have O':=O.less
  cases e with
  |Constant=>exact Bv
  |Name=>exact G6 G O
  |BinOp=>exact Bw S O'
  |UnaryOp=>exact OL S O'
  |IfExp=>exact M9 S O'
  | Compare=>
    refine .o fun p ep=>vC ep (fun e e1 e2=>?_) fun q e e1 e2=>?_
    · rw[e,e1,e2];exact Hh S O
    · rw[e,e1,e2];exact Hz S O
  |BoolOp=>exact FW S O'
  |Tuple=>exact K2 S O'
  |List=>exact JX S O'
  |Dict=>exact fun σ Q h H ρ frs s Q' EE N X a=>E4 G S O h N X a
  |Attribute=>exact G8 G S O'
  |Call=>exact .b fun e=>by rw[bU e];exact qc (Hw G S HD O)
  |Subscript=>exact Ku S O
  |ListComp=>exact fun σ Q h H ρ frs s Q' EE N X a=>E9 S O.less h N X a
  |_=>exact .bad
end
end
end
section
section
variable {prog:Program}{w:World}{T:Nat→V}{base:Heap}{c:ck}{K:Frag}{E:Ev}{n:Nat}
theorem Fv(S:de prog w T base c.R E n){cx:Cx}{e:Expr}{σ:St}{Kq:Bool→St→Prop}{H:HP}{ρ:List Addr}{frs:aJ}{s:Shared}{Q':Bool→Shared→Prop}{EE:Value→Shared→Prop}{whole:Sem Value}(O:cx.Ok n)
  (he:PySem.isTrue e cx.env whole=(do let v ←whole;standAt e.pos;holding [v] (truthy v))) (hw:whole=eval e cx.env) (h:(Be E e cx.sc).run σ Kq)
  (N:az (pm w T) base cx H ρ σ frs s.heap) (X:eY prog w base c.R cx frs H s EE) (a:C8 w T base cx frs H ρ s Kq Q'):wpAny (model prog w) cx.A (PySem.isTrue e cx.env whole) Q' EE s:=by
 refine isTrue_plain ?_ he
 rw[hw]
 refine S.ex cx _ _ _ O h _ _ _ _ _ _ N X fun v₁ r₁ σ₁ H₁ ρ₁ s₁ N₁ L₁ R₁ h₁=>?_
 exact dN N₁ R₁ h₁ fun b σ₂ H₂ ρ₂ s₂ N₂ L₂ h₂=>a b σ₂ H₂ ρ₂ s₂ N₂ (L₁.trans L₂) h₂
noncomputable def mX(prog:Program)(w:World)(T:Nat→V)(base:Heap)(R:Addr→Prop)(cx:Cx)(e:Expr)(whole:Sem Value)(a:bw Bool):Prop:=
 ∀σ Kq,a.run σ Kq→∀H ρ frs s Q' EE,az (pm w T) base cx H ρ σ frs s.heap→eY prog w base R cx frs H s EE→C8 w T base cx frs H ρ s Kq Q'→wpAny (model prog w) cx.A (PySem.isTrue e cx.env whole) Q' EE s
section
variable {cx:Cx}{whole:Sem Value}
theorem mX.b{R:Addr→Prop}{e:Expr}{b:Bool}{a:bw Bool}(k:b=true→mX prog w T base R cx e whole a):mX prog w T base R cx e whole (bA b a):=fun σ Q h=>g9 h fun eb h=>k eb σ Q h
theorem mX.o{R:Addr→Prop}{e:Expr}{α:Type}{o:Option α}{f:α→bw Bool}(k:∀x,o=some x→mX prog w T base R cx e whole (f x)):mX prog w T base R cx e whole (oA o f):=fun σ Q h=>i9 h fun x eo h=>k x eo σ Q h
theorem zw(S:de prog w T base c.R E n)(O:cx.Ok n){op:BoolOp}{l:List Expr}{p:Pos}:mX prog w T base c.R cx (.BoolOp op l p) whole (DE E op l p cx.sc):=by
  intro σ Kq h H ρ frs s Q' EE N X a
  cases l with
  | nil=>cases op with
    |And=>(with_reducible refine isTrue_and_nil ?_);exact a _ _ _ _ _ N .refl h
    |Or=>(with_reducible refine isTrue_or_nil ?_);exact a _ _ _ _ _ N .refl h
  | cons x r=>cases op with
    | And=>
      (with_reducible refine isTrue_and ?_)
      refine S.tr cx _ _ _ O h _ _ _ _ _ _ _ (.inl rfl) N X fun b σ₁ H₁ ρ₁ s₁ N₁ L₁ h₁=>?_
      cases b with
      |true=>exact S.tr cx _ _ _ O h₁ _ _ _ _ _ _ _ (.inr ⟨_,_,_,rfl⟩) N₁ (X.later L₁) fun b σ₂ H₂ ρ₂ s₂ N₂ L₂ h₂=>a _ _ _ _ _ N₂ (L₁.trans L₂) h₂
      |false=>exact a _ _ _ _ _ N₁ L₁ h₁
    | Or=>
      (with_reducible refine isTrue_or ?_)
      refine S.tr cx _ _ _ O h _ _ _ _ _ _ _ (.inl rfl) N X fun b σ₁ H₁ ρ₁ s₁ N₁ L₁ h₁=>?_
      cases b with
      |true=>exact a _ _ _ _ _ N₁ L₁ h₁
      |false=>exact S.tr cx _ _ _ O h₁ _ _ _ _ _ _ _ (.inr ⟨_,_,_,rfl⟩) N₁ (X.later L₁) fun b σ₂ H₂ ρ₂ s₂ N₂ L₂ h₂=>a _ _ _ _ _ N₂ (L₁.trans L₂) h₂
theorem zc(S:de prog w T base c.R E n)(O:cx.Ok (n+1)){l r:Expr}{op:CmpOp}{p:Pos}:mX prog w T base c.R cx (.Compare l [op] [r] p) whole (AY E l op r cx.sc):=by
 have O':=O.less
 refine .b fun hm=>?_
 have hm:=bS hm
 intro σ Kq h H ρ frs s Q' EE N X a
 (with_reducible refine wpAny_isTrue_Compare1 ?_ hm)
 refine S.ex cx _ _ _ O' h _ _ _ _ _ _ N X fun v₁ r₁ σ₁ H₁ ρ₁ s₁ N₁ L₁ R₁ h₁=>?_
 refine S.ex cx _ _ _ O' h₁ _ _ _ _ _ _ N₁ (X.later L₁) fun v₂ r₂ σ₂ H₂ ρ₂ s₂ N₂ L₂ R₂ h₂=>?_
 refine jQ O N₂ (R₁.mono L₂.le L₂.grows) R₂ h₂ fun k b tk q=>?_
 have N₂':az (pm w T) base cx H₂ ρ₂ σ₂ frs ({s₂ with toks:=tk}:Shared).heap:=N₂
 exact dN N₂' .bool q fun b σ₃ H₃ ρ₃ s₃ N₃ L₃ h₃=>a _ _ _ _ _ N₃ (((L₁.trans L₂).trans .toks).trans L₃) h₃
theorem zj(S:de prog w T base c.R E n)(O:cx.Ok (n+1)){l r₁ r₂:Expr}{op₁ op₂:CmpOp}{p:Pos}:mX prog w T base c.R cx (.Compare l [op₁,op₂] [r₁,r₂] p) whole (DD E l op₁ op₂ r₁ r₂ cx.sc):=by
  have O':=O.less
  refine .b fun hm=>?_
  have hm:=bS hm
  intro σ Kq h H ρ frs s Q' EE N X a
  (with_reducible refine isTrue_chain ?_ hm)
  refine S.ex cx _ _ _ O' h _ _ _ _ _ _ N X fun v₁ r₁ σ₁ H₁ ρ₁ s₁ N₁ L₁ R₁ h₁=>?_
  (with_reducible refine test_link ?_)
  refine S.ex cx _ _ _ O' h₁ _ _ _ _ _ _ N₁ (X.later L₁) fun v₂ r₂ σ₂ H₂ ρ₂ s₂ N₂ L₂ R₂ h₂=>?_
  refine jQ O N₂ (R₁.mono L₂.le L₂.grows) R₂ h₂ fun k b tk q=>?_
  have N₂':az (pm w T) base cx H₂ ρ₂ σ₂ frs ({s₂ with toks:=tk}:Shared).heap:=N₂
  have L₂':=(L₁.trans L₂).trans (.toks (H:=H₂) (ρ:=ρ₂) (tk:=tk))
  refine dN N₂' .bool q fun b σ₃ H₃ ρ₃ s₃ N₃ L₃ h₃=>?_
  cases b with
  |false=>exact a _ _ _ _ _ N₃ (L₂'.trans L₃) h₃
  | true=>
    refine test_last ?_
    refine S.ex cx _ _ _ O' h₃ _ _ _ _ _ _ N₃ (X.later (L₂'.trans L₃)) fun v₄ r₄ σ₄ H₄ ρ₄ s₄ N₄ L₄ R₄ h₄=>?_
    refine jQ O N₄ ((R₂.mono L₃.le L₃.grows).mono L₄.le L₄.grows) R₄ h₄ fun k b tk q=>?_
    have N₄':az (pm w T) base cx H₄ ρ₄ σ₄ frs ({s₄ with toks:=tk}:Shared).heap:=N₄
    exact dN N₄' .bool q fun b σ₅ H₅ ρ₅ s₅ N₅ L₅ h₅=>a _ _ _ _ _ N₅ ((((L₂'.trans L₃).trans L₄).trans .toks).trans L₅) h₅
theorem K3(S:de prog w T base c.R E n){e:Expr}(O:cx.Ok (n+1))(hw:whole=eval e cx.env∨∃op l p,e=.BoolOp op l p):mX prog w T base c.R cx e whole (vX E e cx.sc):=by
  have O':=O.less
  have plain {e:Expr} (hw:whole=eval e cx.env∨∃op l p,e=.BoolOp op l p) (ne:∀op l p,e≠.BoolOp op l p) (he:∀whole,PySem.isTrue e cx.env whole=(do let v ←whole;standAt e.pos;holding [v] (truthy v))):mX prog w T base c.R cx e whole (Be E e cx.sc):=
    fun σ Kq h H ρ frs s Q' EE N X a=>hw.elim (fun hw=>Fv S O' (he _) hw h N X a) fun⟨_,_,_,hw⟩=>(ne _ _ _ hw).elim
  cases e with
  |BoolOp=>exact zw S O'
  | UnaryOp op=>cases op with
    | Not=>
      intro σ Kq h H ρ frs s Q' EE N X a
      (with_reducible refine isTrue_not ?_)
      refine S.tr cx _ _ _ O' h _ _ _ _ _ _ _ (.inl rfl) N X fun b σ₁ H₁ ρ₁ s₁ N₁ L₁ h₁=>?_
      exact a _ _ _ _ _ N₁ L₁ (by rw[←wk];exact h₁)
    |_=>exact fun _ _ h=>h.elim
  | Compare=>
    refine .o fun p ep=>vC ep (fun e e1 e2=>?_) fun q e e1 e2=>?_
    · rw[e,e1,e2];exact zc S O
    · rw[e,e1,e2];exact zj S O
  |Name=>exact plain hw (fun _ _ _ e=>Expr.noConfusion e) fun _=>rfl
  |Call=>exact plain hw (fun _ _ _ e=>Expr.noConfusion e) fun _=>rfl
  |Attribute=>exact plain hw (fun _ _ _ e=>Expr.noConfusion e) fun _=>rfl
  |_=>exact fun _ _ h=>h.elim
theorem Nv(S:de prog w T base c.R E n):∀(cx:Cx) e σ Kq,cx.Ok (n+1)→(vX E e cx.sc).run σ Kq→∀whole H ρ frs s Q' EE,(whole=eval e cx.env∨∃op l p,e=.BoolOp op l p)→az (pm w T) base cx H ρ σ frs s.heap→eY prog w base c.R cx frs H s EE→C8 w T base cx frs H ρ s Kq Q'→
  wpAny (model prog w) cx.A (PySem.isTrue e cx.env whole) Q' EE s:=
 fun _ _ σ Kq O h _ H ρ frs s Q' EE hw N X a=>K3 S O hw σ Kq h H ρ frs s Q' EE N X a
end
theorem NA(S:de prog w T base c.R E n):∀(cx:Cx) l σ Q,cx.Ok (n+1)→(Cv E l cx.sc).run σ Q→∀pos H ρ frs s Q' EE,az (pm w T) base cx H ρ σ frs s.heap→eY prog w base c.R cx frs H s EE→JA w T base cx frs H ρ s Q Q'→
    wpAny (model prog w) cx.A (spliced (backTo pos (starEach l cx.env))) Q' EE s:=by
  intro cx l σ Q O h pos H ρ frs s Q' EE N X a
  have O':=O.less
  cases l with
  |nil=>exact spliced_nil (a [] [] σ H ρ s N .refl .nil h)
  | cons e r=>
    refine g9 h fun hs h=>?_
    rw[dp e cx.env r (bS hs)]
    refine spliced_cons (x:=eval e cx.env) ?_
    refine S.ex cx _ _ _ O' h _ _ _ _ _ _ N X fun v₁ r₁ σ₁ H₁ ρ₁ s₁ N₁ L₁ R₁ h₁=>?_
    refine S.es cx _ _ _ O' h₁ _ _ _ _ _ _ _ N₁ (X.later L₁) fun v₂ r₂ σ₂ H₂ ρ₂ s₂ N₂ L₂ R₂ h₂=>?_
    exact a _ _ _ _ _ _ N₂ (L₁.trans L₂) (.cons (R₁.mono L₂.le L₂.grows) R₂) h₂
theorem Aw{e:Expr}(h:bT e=true){x:Str}{p:Pos}{k:Nat}{env:Env}:swapsWith e (some (.Name x p)) k env=pure false:=by
 exact mV (b:=bT e) (by cases e <;> first|rfl|trivial) h
theorem zZ{e o:Expr}(h:bT e=true){x:Str}{p:Pos}{k:Nat}{env:Env}:swapsWith e (some (.Attribute o x p)) k env=pure false:=by
 exact mV (b:=bT e) (by cases e <;> first|rfl|trivial) h
theorem zO{e:Expr}(h:uf e=true){k:Nat}{env:Env}:swapsWith e none k env=pure false:=by
 exact mV (b:=uf e) (by cases e <;> first|rfl|trivial) h
end
end
section
section
variable {prog:Program}{w:World}{T:Nat→V}{base:Heap}{c:ck}{K:Frag}{E:Ev}{n:Nat}
theorem az.turn{P:Pm}{cx:Cx}{H:HP}{ρ:List Addr}{fm:List (Str×V)}{ob:aR}{frs:aJ}{h h':Heap}{i:Nat}{a:Addr}{x y:O}(N:az P base cx H ρ ⟨fm,ob⟩ frs h)(e:ob.tr.get i=some x)(hl:x.live=true)(ha:ρ[i]?=some a)
  (hs:∀b o,b≠a→b≠cx.L→h.get? b=some o→h'.get? b=some o) (hn:∀m,h.Ns cx.L m→h'.Ns cx.L m) (hy:cX P H ρ h' a y) (ht:∃o,h'.get? a=some o):az P base cx H ρ ⟨fm,bZ ob i y⟩ frs h':=by
 refine c9 N.ns fun m mc I F hn'=>?_
 exact⟨⟨m,mc,I.turn e hl ha hs (cw.mpr (hn m hn')) (Tr.get_set _ _ _ · (by rw[show ob.tr.get i=_ from e];rfl)) hy ht,F⟩,N.len,N.outer,N.self⟩
theorem az.apart{P:Pm}{cx:Cx}{H:HP}{ρ:List Addr}{fm:List (Str×V)}{ob:aR}{frs:aJ}{h:Heap}{i:Nat}{a:Addr}{x:O}(N:az P base cx H ρ ⟨fm,ob⟩ frs h)(e:ob.tr.get i=some x)(hl:x.live=true)(ha:ρ[i]?=some a):a≠cx.L:=
 let ⟨_,_,I,_⟩:=N.inv;fun q=>(I.apart e hl ha).nf (by rw[q];exact .head _)
theorem Dx(G:aI prog w T c K base){cx:Cx}{H:HP}{ρ:List Addr}{frs:aJ}{σ:St}{s:Shared}{ov v:V}{r rv:Value}{name:Str}{Kq:St→Prop}{Q:Unit→Shared→Prop}{EE:Value→Shared→Prop}
  (N:az (pm w T) base cx H ρ σ frs s.heap) (hv:ag (pm w T) H ρ ov r) (hr:ag (pm w T) H ρ v rv) (h:uj c ov name v σ Kq)
  (q:∀σ' s',az (pm w T) base cx H ρ σ' frs s'.heap→aH base H ρ s H ρ s'→Kq σ'→Q () s'):wpAny (model prog w) cx.A (setAttr r name rv) Q EE s:=by
 refine c9 N.ns fun m mc I F hn=>?_
 refine aB h fun i ei h=>aB h fun p ep h=>a8 h fun ec h=>aB h fun fs ed h=>a8 h fun hf h=>?_
 have ec:=AI ec
 have ed:=Ht ed
 refine hv.cR ei fun a ha er=>(I.at (Kv ep) ha).inst' fun dx a1 a2=>(I.at ed a2).ns' fun es k b1 b2=>?_
 rw[er]
 have O:=G.cm _ _ _ ec
 have nL:dx≠cx.L:=N.apart (ob:=σ.ob) ed rfl a2
 have X:=G.kin.keeps I.keep
 have fp:=D9 (name:=name) (t:=s.toks+1) hr b2
 refine set_plain (ox:=instObj p.1 dx) (od:=some (dictOf es k)) X ⟨a1,rfl,rfl,b1⟩ O.set ?_
 refine osa_dict (s:={s with toks:=s.toks+1}) (pre:=[]) (od':=dictOf (putL name (PyData.keyHash w.params name) (.str name (s.toks+1)) rv es) (putN name es k)) (dK hn) (h8 b1 nL) X ⟨a1,rfl,rfl,b1⟩ rfl O.over O.taker O.dict
  (by rw[lookIn_dict];exact yS b2) (fun p hp=>by cases hp) (fun p hp e=>(cj.mp (show(p.1,p.2)∈_ from hp)).1 (by rw[show p.1=dx from e];exact .head _)) (putName_dict ..) rfl ?_ fun h' F' N'=>?_
 ·rw[Bb fp]
  have:(put name v fs).length≤fs.length+1:=G7 ..
  exact Nat.le_trans this (Nat.le_of_ble_eq_true hf)
 ·refine a7 (iu N') fun k1 k2=>?_
  exact q ⟨σ.fm,bZ σ.ob p.2 (.ns (put name v fs))⟩ _ (N.turn (fm:=σ.fm) (ob:=σ.ob) ed rfl a2 k2 (ia hn F') (.ns k1 fp) ⟨_,k1⟩) .heap h
theorem JJ{cx:Cx}{H:HP}{ρ:List Addr}{frs:aJ}{σ:St}{s:Shared}{ov key v:V}{r rk rv:Value}{Kq:St→Prop}{Q:Unit→Shared→Prop}{EE:Value→Shared→Prop}{mm:Nat}(O:cx.Ok (mm+1))
  (N:az (pm w T) base cx H ρ σ frs s.heap) (hv:ag (pm w T) H ρ ov r) (hk:ag (pm w T) H ρ key rk) (hr:ag (pm w T) H ρ v rv) (h:El ov key v σ Kq)
  (q:∀σ' s',az (pm w T) base cx H ρ σ' frs s'.heap→aH base H ρ s H ρ s'→Kq σ'→Q () s'):wpAny (model prog w) cx.A (setItem r rk rv) Q EE s:=by
 refine c9 N.ns fun m mc I F hn=>?_
 refine aB h fun i ei h=>aB h fun es eo h=>a8 h fun hb h=>ar hb fun h1 hb=>ar hb fun h2 h3=>ar h1 fun ik ok=>?_
 have eo:=Jk eo
 refine hv.cR ei fun d ha er=>(I.at eo ha).dict' fun es₀ n₀ a1 a2 a3 a4=>?_
 rw[er]
 have D:cf (pm w T) H ρ s.heap d es:=⟨⟨_,_,a1,a4⟩,a2,a3⟩
 have hT:s.TypeIs (.ref d) "dict":=⟨_,a1,rfl⟩
 unfold setItem
 try with_reducible refine wpAny_holding ?_
 refine wpAny_bind (wpAny_sequenceKey hT (by decide) ?_)
 refine wpAny_bind (wpAny_callSpecial?_slot (name:=Str.ofString "__setitem__") hT slot_dict_setitem
  (wpAny_call_entry slot_dict_setitem hT entry_dict_setitem ?_ (args_dict_setitem _ _ _)))
 show wpAny _ _ (Builtin.Dict.notOrdered "__setitem__" ⟨[.ref d,rk,rv],[]⟩ >>= _) _ _ s
 refine wpAny_bind (wpAny_notOrdered_dict hT ?_)
 show wpAny _ _ (dictSet d rk rv >>= _) _ _ s
 refine wpAny_bind (lL rfl I D ok ik hk hr (by show cx.A.units+_ < _;have:=O.units;lia) (dB h3) fun h' tk D' hs=>wpAny_pure ⟨.none,rfl,wpAny_pure ?_⟩)
 refine aW D'.obj fun es' k' b1 b2=>?_
 have nL:=N.apart (fm:=σ.fm) (ob:=σ.ob) eo rfl ha
 exact q ⟨σ.fm,bZ σ.ob i (.dict (fo key v es))⟩ _ (N.turn (fm:=σ.fm) (ob:=σ.ob) eo rfl ha (fun b o q1 _ e=>(hs.2 b q1).trans e) (fun m hm=>hm.sameBut hs nL.symm) (.dict b1 D'.low D'.apart b2) ⟨_,b1⟩) .heap h
noncomputable def eN(P:Nat→Shared→Prop)(k:Nat)(Q':Flow→Shared→Prop)(f:Flow)(s:Shared):Prop:=match f with
 |.next=>∃m,m < k∧P m s
 |.cont=>∃m,m < k∧P m s
 |.brk=>Q' .next s
 |.ret v=>Q' (.ret v) s
noncomputable def qx(T:Nat→V)(w:World)(base:Heap)(E:Ev)(x:Str)(body:List Stmt)(cx:Cx)(I:Addr)(frs:aJ)(vs:List V)(Sw:Nat→Heap→Prop)(Q:Fl→St→Prop)(H:HP)(ρ:List Addr)(s:Shared)(k:Nat)(s':Shared):Prop:=
 ∃i σ' H' ρ' o,k=vs.length+1 - i∧i≤vs.length∧Sw i s'.heap∧qN E x body cx.sc (vs.drop i) σ' Q∧az (pm w T) base cx H' ρ' σ' ((I,gi (·=o))::frs) s'.heap∧aH base H ρ s H' ρ' s'
section
variable {cx:Cx}{x:Str}{body:List Stmt}{vs:List V}{Q:Fl→St→Prop}{H:HP}{ρ:List Addr}{frs:aJ}{s:Shared}{Q':Flow→Shared→Prop}{EE:Value→Shared→Prop}{I:Addr}{fp:List Addr}{Pi:Nat→Value→Prop}{Sw:Nat→Heap→Prop}
theorem zN(S:de prog w T base c.R E n)(O:cx.Ok n)(W:Walks prog w cx.A I fp [I] vs.length Pi Sw)(hm:fc cx frs)(a:jg w T base cx frs H ρ s Q Q'){i:Nat}{H':HP}{ρ':List Addr}{σ':St}{oI':Obj}{h₁:Heap}{s₂:Shared}{k:Nat}(ek:k=vs.length+1 - i)(hfp':∀b∈fp,b=I∨∃o,H' b o)(lt:i < vs.length)(hst₁:Sw (i+1) h₁)(hI':h₁.get? I=some oI')(frz:∀b o,H' b o→h₁.get? b=some o)
  (h':(E.ss body cx.sc).run σ' fun f σ₁=>yx f (qN E x body cx.sc (vs.drop (i+1)) σ₁ Q) (Q .next σ₁) (fun v=>Q (.ret v) σ₁)) (N₂:az (pm w T) base cx H' ρ' σ' ((I,gi (·=oI'))::frs) s₂.heap) (X':eY prog w base c.R cx frs H' s₂ EE) (LL:aH base H ρ s H' ρ' s₂) :
  wpAny (model prog w) cx.A (execs body cx.env) (eN (qx T w base E x body cx I frs vs Sw Q H ρ s) k Q') EE s₂:=by
 refine S.ss cx body _ _ O h' H' ρ' _ _ (eN (qx T w base E x body cx I frs vs Sw Q H ρ s) k Q') EE N₂ X'.more fun f r σ₃ H₃ ρ₃ s₃ N₃ L₃ R₃ h₃=>?_
 have L₃':aH base H ρ s H₃ ρ₃ s₃:=LL.trans L₃
 have N₃':az (pm w T) base cx H₃ ρ₃ σ₃ frs s₃.heap:=N₃.leave hm
 have nx (h₃:qN E x body cx.sc (vs.drop (i+1)) σ₃ Q):∃m,m < k∧qx T w base E x body cx I frs vs Sw Q H ρ s m s₃:=by
  refine⟨_,qf ek lt,i+1,σ₃,H₃,ρ₃,oI',rfl,lt,?_,h₃,N₃,L₃'⟩
  refine aW N₃.inv fun _ _ I₃ _=>?_
  refine W.frame _ _ _ hst₁ fun b hb o e=>(hfp' b hb).elim (fun q=>?_) fun⟨y,hy⟩=>?_
  ·refine aq (I₃.frNs (I,gi (·=oI')) (.tail _ (List.mem_append_right _ (.head _)))) fun o' e' z=>?_
   rw[q]at e ⊢
   rw[hI']at e
   rw[←ae e,←show o'=oI' from z];exact e'
  ·rw[frz _ _ hy]at e
   rw[←ae e]
   exact I₃.frz _ _ (L₃.le _ _ hy)
 cases R₃ with
 |next=>exact nx h₃
 |cont=>exact nx h₃
 |brk=>exact a .next .next _ _ _ _ N₃' L₃' .next h₃
 |ret q=>exact a _ _ _ _ _ _ N₃' L₃' (.ret q) h₃
theorem F1(S:de prog w T base c.R E n){px:Pos}{σ:St}(O:cx.Ok n)
  (W:Walks prog w cx.A I fp [I] vs.length Pi Sw) (hfp:∀b∈fp,b=I∨∃o,H b o) (hP:∀i v,i < vs.length→Pi i v→∃u,vs[i]?=some u∧ag (pm w T) H ρ u v)
  (hI:∀i h,Sw i h→∃o,h.get? I=some o) (hx:bB cx.sc x=true) (h:qN E x body cx.sc vs σ Q) {oI:Obj} (hst:Sw 0 s.heap) (N:az (pm w T) base cx H ρ σ ((I,gi (·=oI))::frs) s.heap) (hm:fc cx frs) (X:eY prog w base c.R cx frs H s EE)
  (a:jg w T base cx frs H ρ s Q Q') :
  codeAny (model prog w) cx.A (.forLoop (.Name x px) (.ref I) body [] cx.env) (fun r s'=>match r with|.ok f=>Q' f s'|.error e=>cameBackBy (model prog w) cx.A cx.env EE e s') s:=by
 refine codeAny_forLoop (qx T w base E x body cx I frs vs Sw Q H ρ s) ?_ (vs.length+1) ⟨0,σ,H,ρ,oI,rfl,Nat.zero_le _,hst,h,N,.refl⟩
 refine fun k s' hL=>cps fun G kk=>?_
 refine QM hL fun i σ' H' ρ' o ek hi hst' h' N' L'=>?_
 rcases Nat.lt_or_eq_of_le hi with lt|ei
 ·refine kk ?_
  refine W.item i s' _ _ lt hst' fun v h₁ tk hv hst₁ hk=>?_
  refine aq (hP i v lt hv) fun u hu R=>?_
  refine bz (hI _ _ hst₁) fun oI' hI'=>?_
  have N₁:az (pm w T) base cx H' ρ' σ' ((I,gi (·=oI'))::frs) h₁:=N'.iter hm (fun b o q e=>hk b o (fun z=>q (List.mem_singleton.mp z)) e) ⟨oI',hI',rfl⟩
  (with_reducible refine wpAny_assign_Name ?_)
  refine eU (s:={s' with heap:=h₁,toks:=tk}) O N₁ hx (R.mono L'.le L'.grows) fun h₂ tk₂ N₂=>?_
  rw[List.drop_eq_getElem_cons lt,Option.some.inj ((List.getElem?_eq_getElem lt).symm.trans hu)]at h'
  have frz:∀b o,H' b o→h₁.get? b=some o:=fun b o y=>let ⟨_,_,I₁,_⟩:=N₁.inv;I₁.frz _ _ y
  exact wpAny_mono (zN S O W hm a ek (fun b hb=>(hfp b hb).imp id fun⟨o,e⟩=>⟨o,L'.le _ _ e⟩) lt hst₁ hI' frz h' (s₂:={s' with heap:=h₂,toks:=tk₂}) N₂ ((X.later L').later (H:=H') (ρ:=ρ') .heap) (L'.trans .heap)) (fun f _ z=>by cases f <;> exact z) (X.later L').passes
 ·rw[ei]at hst' h'
  refine kk (W.done s' _ _ hst' fun h₁ tk hk=>?_)
  (with_reducible refine wpAny_execs_nil ?_)
  rw[List.drop_length]at h'
  exact a .next .next σ' H' ρ' _ (N'.past hm fun b o q e=>hk b o (fun z=>q (List.mem_singleton.mp z)) e) (L'.trans .heap) .next h'
end
end
end
section
section
variable {prog:Program}{w:World}{T:Nat→V}{base:Heap}{c:ck}{K:Frag}{E:Ev}{n:Nat}
theorem Jp{x₀:Int}{K:Nat→Prop}(m:Nat)(h0:0≤x₀)(hr:Ea m x₀ K)(hlt:x₀ < (m:Int)):∃k,x₀=Int.ofNat k∧k < m∧K k:=by
  induction m with
  |zero=>exact absurd hlt (Int.not_lt.mpr h0)
  | succ m ih=>
    refine a7 hr fun g1 g2=>?_
    by_cases e:x₀=Int.ofNat m
    · exact⟨m,e,Nat.lt_succ_self _,g1 e⟩
    · refine cJ (ih g2 (by simp only [Int.ofNat_eq_natCast]at e;lia)) fun k e1 e2 e3=>?_
      exact⟨k,e1,Nat.lt_succ_of_lt e2,e3⟩
theorem Kc(S:de prog w T base c.R E n){cx:Cx}{x:Str}{px p:Pos}{iter:Expr}{body:List Stmt}{σ:St}{Q:Fl→St→Prop}{H:HP}{ρ:List Addr}{frs:aJ}{s:Shared}{Q':Flow→Shared→Prop}{EE:Value→Shared→Prop}(O:cx.Ok (n+1))
  (hx:bB cx.sc x=true) (hi:i5 iter=true) (h:(E.ex iter cx.sc).run σ fun v σ₁=>oE (IA v) (fun n=>0≤n∧n < 8∧Ea 8 n fun k=>qN E x body cx.sc (ER k 0) σ₁ Q) (B2 E x body v cx.sc σ₁ Q)) (N:az (pm w T) base cx H ρ σ frs s.heap) (X:eY prog w base c.R cx frs H s EE) (a:jg w T base cx frs H ρ s Q Q') :
  wpAny (model prog w) cx.A (exec (.For (.Name x px) iter body [] p) cx.env) Q' EE s:=by
 have O':=O.less
 (with_reducible refine wpAny_For ?_ (fk hi _))
 refine S.ex cx _ _ _ O' h _ _ _ _ _ _ N X fun v r σ₁ H₁ ρ₁ s₁ N₁ L₁ R₁ h₁=>?_
 have go:∀{v:V} {vs:List V} {ob:aR},ag (pm w T) H₁ ρ₁ v r→pC σ₁.ob v=some (vs,ob)→qN E x body cx.sc vs ⟨σ₁.fm,ob⟩ Q→wpAny (model prog w) cx.A (pyIter r) (fun it s'=>codeAny (model prog w) cx.A (.forLoop (.Name x px) it body [] cx.env) (fun r s'=>match r with|.ok f=>Q' f s'|.error e=>cameBackBy (model prog w) cx.A cx.env EE e s') s') EE s₁:=by
  intro v vs ob R₁ eo h₂
  refine xu O.handled N₁ R₁ eo fun I fp Pi St h' oI H' Y=>?_
  exact F1 (s:={s₁ with heap:=h'}) S O' Y.walks Y.fp Y.tells Y.there hx h₂ Y.starts Y.now N₁.home ((X.later L₁).later Y.later) fun f r σ' H' ρ' s' N' L' R' q=>a f r σ' H' ρ' s' N' ((L₁.trans Y.later).trans L') R' q
 refine du h₁ (fun x₀ e h₁=>?_) fun _ h₁=>aB h₁ fun p eo h₁=>go R₁ eo h₁
 refine jD h₁ fun h1 h2 h3=>?_
 refine cJ (Jp 8 h1 h3 h2) fun k ek hk hq=>?_
 refine au e fun q eq e=>bQ e fun _ e=>R₁.cQ eq fun ra t u v hr er=>go (v:=.rng true (Int.ofNat k)) (ob:=σ₁.ob) ?_ ?_ hq
 ·rw[show q.2=Int.ofNat k by rw[ae e,ek]]at hr
  rw[er];exact .rng hr
 ·have f:few k=true:=Nat.ble_eq_true_of_le (by lia)
  show oX (bO (few k) (some (ER k 0))) (fun vs=>some (vs,σ₁.ob)) _=_
  rw[f];rfl
noncomputable def lC(T:Nat→V)(w:World)(base:Heap)(E:Ev)(t:Expr)(body:List Stmt)(cx:Cx)(frs:aJ)(Q:Fl→St→Prop)(H:HP)(ρ:List Addr)(s:Shared)(k:Nat)(s':Shared):Prop:=
 ∃σ' H' ρ',(me E t body cx.sc k).run σ' Q∧az (pm w T) base cx H' ρ' σ' frs s'.heap∧aH base H ρ s H' ρ' s'
theorem Br (S:de prog w T base c.R E n) {cx:Cx} {t:Expr} {p:Pos} {body:List Stmt} {σ:St} {Q:Fl→St→Prop} {H:HP} {ρ:List Addr} {frs:aJ} {s:Shared} {Q':Flow→Shared→Prop} {EE:Value→Shared→Prop} (O:cx.Ok (n+1)) (k:Nat)
    (h:(me E t body cx.sc k).run σ Q) (N:az (pm w T) base cx H ρ σ frs s.heap) (X:eY prog w base c.R cx frs H s EE) (a:jg w T base cx frs H ρ s Q Q'):wpAny (model prog w) cx.A (exec (.While t body [] p) cx.env) Q' EE s:=by
  have O':=O.less
  refine wpAny_While (codeAny_whileLoop (lC T w base E t body cx frs Q H ρ s) ?_ k ⟨σ,H,ρ,h,N,.refl⟩)
  rintro k s' ⟨σ',H',ρ',h',N',L'⟩
  cases k with
  |zero=>exact h'.elim
  | succ k=>
    have X':=X.later L'
    have h':(E.tr t cx.sc).run σ' fun g σ₁=>iE g ((E.ss body cx.sc).run σ₁ fun r σ₂=>yx r ((me E t body cx.sc k).run σ₂ Q) (Q .next σ₂) (fun v=>Q (.ret v) σ₂)) (Q .next σ₁):=h'
    refine wpAny_mono (S.tr cx _ _ _ O' h' _ H' ρ' frs s' (fun b s₂=>iE b (wpAny (model prog w) cx.A (execs body cx.env) (eN (lC T w base E t body cx frs Q H ρ s) (k+1) Q') EE s₂) (Q' .next s₂)) EE (.inl rfl) N' X' fun b σ₁ H₁ ρ₁ s₁ N₁ L₁ h₁=>?_) (fun b s₂ z=>?_) X.passes
    · cases b with
      |false=>exact a .next .next _ _ _ _ N₁ (L'.trans L₁) .next h₁
      | true=>
        show wpAny (model prog w) cx.A (execs body cx.env) (eN (lC T w base E t body cx frs Q H ρ s) (k+1) Q') EE s₁
        refine S.ss cx _ _ _ O' h₁ _ _ _ _ _ _ N₁ (X'.later L₁) fun f r σ₂ H₂ ρ₂ s₂ N₂ L₂ R₂ h₂=>?_
        have L:=(L'.trans L₁).trans L₂
        cases R₂ with
        |next=>exact⟨k,Nat.lt_succ_self _,σ₂,H₂,ρ₂,h₂,N₂,L⟩
        |cont=>exact⟨k,Nat.lt_succ_self _,σ₂,H₂,ρ₂,h₂,N₂,L⟩
        |brk=>exact a .next .next _ _ _ _ N₂ L .next h₂
        |ret q=>exact a _ _ _ _ _ _ N₂ L (.ret q) h₂
    · cases b with
      | false=>
        rw[if_neg (by decide)]
        exact wpAny_execs_nil z
      | true=>
        rw[if_pos rfl]
        exact wpAny_mono (show wpAny (model prog w) cx.A (execs body cx.env) (eN (lC T w base E t body cx frs Q H ρ s) (k+1) Q') EE s₂ from z) (fun f _ e=>by cases f <;> exact e) X.passes
end
end
section
section
variable {P:Pm}{base h h':Heap}{H:HP}{ρ:List Addr}{frs:aJ}{ob:Tr}
theorem aM.iters{qs qs':aJ}(I:aM P base H ρ (qs++frs) ob h)(ha:qs'.map (·.1)=qs.map (·.1))(k:∀b o,b∉qs.map (·.1)→h.get? b=some o→h'.get? b=some o)(hJ:∀p∈qs',∃o,h'.get? p.1=some o∧p.2.φ H o):aM P base H ρ (qs'++frs) ob h':=by
 have e:(qs'++frs).map (·.1)=(qs++frs).map (·.1):=by rw[List.map_append,List.map_append,ha]
 have old:∀a∈qs.map (·.1),base.get? a=none∧∀o,¬H a o:=fun a m=>by
  refine aq (List.mem_map.mp m) fun p hp rq2=>?_;subst rq2
  exact I.frNew p (List.mem_append_left _ hp)
 have d:=I.frDup
 rw[List.map_append,List.nodup_append]at d
 have rq:∀a∈ρ,a∉qs.map (·.1):=fun a ha q=>I.rf a ha (by rw[List.map_append];exact List.mem_append_left _ q)
 refine⟨fun b o e=>k b o (fun q=>by rw[(old b q).1]at e;cases e) (I.keep b o e),fun b o e=>k b o (fun q=>(old b q).2 o e) (I.frz b o e),fun p hp=>?_,fun p hp=>?_,by rw[e];exact I.frDup,fun i o x=>?_,I.dup,fun a ha=>?_,fun a ha=>by rw[e];exact I.rf a ha⟩
 ·rcases List.mem_append.mp hp with hp|hp
  ·exact hJ p hp
  ·refine aq (I.frNs p (List.mem_append_right _ hp)) fun o x z=>?_
   exact⟨o,k _ _ (fun q=>d.2.2 _ q _ (List.mem_map.mpr ⟨p,hp,rfl⟩) rfl) x,z⟩
 ·rcases List.mem_append.mp hp with hp|hp
  ·exact old _ (by rw[←ha];exact List.mem_map.mpr ⟨p,hp,rfl⟩)
  ·exact I.frNew p (List.mem_append_right _ hp)
 ·refine cJ (I.own i o x) fun a h1 h2 h3=>?_
  exact⟨a,h1,h2.mono (fun _ _ x=>x) .refl (fun o e=>k a o (rq a (List.mem_of_getElem? h1)) e),fun l=>⟨(h3 l).nb,(h3 l).nH,by rw[e];exact(h3 l).nf⟩⟩
 ·refine bz (I.there a ha) fun o x=>?_
  exact⟨o,k a o (rq a ha) x⟩
theorem aM.pasts{qs:aJ}(I:aM P base H ρ (qs++frs) ob h)(k:∀b o,b∉qs.map (·.1)→h.get? b=some o→h'.get? b=some o):aM P base H ρ frs ob h':=by
 have old:∀a∈qs.map (·.1),base.get? a=none∧∀o,¬H a o:=fun a m=>by
  refine aq (List.mem_map.mp m) fun p hp rq2=>?_;subst rq2
  exact I.frNew p (List.mem_append_left _ hp)
 have d:=I.frDup
 rw[List.map_append,List.nodup_append]at d
 have rq:∀a∈ρ,a∉qs.map (·.1):=fun a ha q=>I.rf a ha (by rw[List.map_append];exact List.mem_append_left _ q)
 refine⟨fun b o e=>k b o (fun q=>by rw[(old b q).1]at e;cases e) (I.keep b o e),fun b o e=>k b o (fun q=>(old b q).2 o e) (I.frz b o e),fun p hp=>?_,fun p hp=>I.frNew p (List.mem_append_right _ hp),d.2.1,fun i o x=>?_,I.dup,fun a ha=>?_,fun a ha q=>I.rf a ha (by rw[List.map_append];exact List.mem_append_right _ q)⟩
 ·refine aq (I.frNs p (List.mem_append_right _ hp)) fun o x z=>?_
  exact⟨o,k _ _ (fun q=>d.2.2 _ q _ (List.mem_map.mpr ⟨p,hp,rfl⟩) rfl) x,z⟩
 ·refine cJ (I.own i o x) fun a h1 h2 h3=>?_
  exact⟨a,h1,h2.mono (fun _ _ x=>x) .refl (fun o e=>k a o (rq a (List.mem_of_getElem? h1)) e),fun l=>⟨(h3 l).nb,(h3 l).nH,fun q=>(h3 l).nf (by rw[List.map_append];exact List.mem_append_right _ q)⟩⟩
 ·refine bz (I.there a ha) fun o x=>?_
  exact⟨o,k a o (rq a ha) x⟩
theorem aM.enters{qs:aJ}(I:aM P base H ρ frs ob h)(k:∀b o,h.get? b=some o→h'.get? b=some o)(hn:(qs.map (·.1)).Nodup)(hf:∀p∈qs,h.get? p.1=none∧∃o,h'.get? p.1=some o∧p.2.φ H o):aM P base H ρ (qs++frs) ob h':=by
 have J:=I.keeps k
 have fresh:∀a∈qs.map (·.1),h.get? a=none:=fun a m=>by
  refine aq (List.mem_map.mp m) fun p hp rq2=>?_;subst rq2
  exact(hf p hp).1
 have nf:∀a∈qs.map (·.1),a∉frs.map (·.1):=fun a m q=>by
  refine aq (List.mem_map.mp q) fun p hp rq2=>?_;subst rq2
  refine aq (I.frNs p hp) fun o e _=>?_
  rw[fresh _ m]at e;cases e
 refine⟨J.keep,J.frz,fun p hp=>?_,fun p hp=>?_,?_,fun i o e=>?_,J.dup,J.there,fun a ha z=>?_⟩
 ·rcases List.mem_append.mp hp with hp|hp
  ·exact(hf p hp).2
  ·exact J.frNs p hp
 ·rcases List.mem_append.mp hp with hp|hp
  ·have f:=(hf p hp).1
   exact⟨eV I.keep f,fun o e=>by rw[I.frz _ _ e]at f;cases f⟩
  ·exact J.frNew p hp
 ·rw[List.map_append,List.nodup_append]
  exact⟨hn,J.frDup,fun a ha b hb e=>nf a ha (e▸hb)⟩
 ·refine cJ (J.own i o e) fun a h1 h2 h3=>?_
  refine⟨a,h1,h2,fun l=>⟨(h3 l).nb,(h3 l).nH,fun z=>?_⟩⟩
  rw[List.map_append]at z
  rcases List.mem_append.mp z with z|z
  ·refine bz (I.there a (List.mem_of_getElem? h1)) fun o' e'=>?_
   rw[fresh a z]at e';cases e'
  ·exact(h3 l).nf z
 ·rw[List.map_append]at z
  rcases List.mem_append.mp z with z|z
  ·refine bz (I.there a ha) fun o' e'=>?_
   rw[fresh a z]at e';cases e'
  ·exact J.rf a ha z
theorem aM.drops{qs:aJ}(I:aM P base H ρ (qs++frs) ob h):aM P base H ρ frs ob h:=by
 induction qs with
 |nil=>exact I
 |cons q r ih=>exact ih I.leave
end
section
variable {prog:Program}{w:World}{T:Nat→V}{base:Heap}{c:ck}{K:Frag}{E:Ev}{n:Nat}
noncomputable def pl(l:List (Addr×Obj)):aJ:=l.map fun p=>(p.1,gi (·=p.2))
theorem mL(l:List (Addr×Obj)):(pl l).map (·.1)=l.map (·.1):=by simp[pl,Function.comp]
theorem gR{α:Type}(a:α)(l m r:List α):(a::(l++(m++r))).Perm (m++(a::(l++r))):=by
 have p1:(l++(m++r)).Perm (m++(l++r)):=by
  rw[←List.append_assoc,←List.append_assoc]
  exact List.Perm.append_right _ List.perm_append_comm
 exact(p1.cons a).trans List.perm_middle.symm
theorem az.iters{P:Pm}{cx:Cx}{H:HP}{ρ:List Addr}{σ:St}{frs:aJ}{h h':Heap}{l:List (Addr×Obj)}(N:az P base cx H ρ σ (pl l++frs) h)(hm:fc cx frs)(k:∀b o,b∉l.map (·.1)→h.get? b=some o→h'.get? b=some o)(hJ:∀a∈l.map (·.1),∃o,h'.get? a=some o) :
    ∃l',l'.map (·.1)=l.map (·.1)∧(∀p∈l',h'.get? p.1=some p.2)∧az P base cx H ρ σ (pl l'++frs) h':=by
  have ex:∀as:List Addr,(∀a∈as,∃o,h'.get? a=some o)→∃l':List (Addr×Obj),l'.map (·.1)=as∧∀p∈l',h'.get? p.1=some p.2:=by
    intro as
    induction as with
    |nil=>intro _;exact⟨[],rfl,fun _ m=>by cases m⟩
    | cons a r ih=>
      intro q
      refine bz (q a List.mem_cons_self) fun o ho=>?_
      refine aq (ih fun b m=>q b (List.mem_cons_of_mem _ m)) fun l' e1 e2=>?_
      refine⟨(a,o)::l',by rw[List.map_cons,e1],fun p m=>?_⟩
      rcases List.mem_cons.mp m with rfl|m
      · exact ho
      · exact e2 p m
  refine aq (ex _ hJ) fun l' e1 e2=>?_
  refine aW N.inv fun m mc I F=>?_
  have I':=(I.perm (gR _ _ _ _)).iters (qs':=pl l') (by rw[mL,mL,e1]) (by rw[mL];exact k) (fun p hp=>by
    refine aq (List.mem_map.mp hp) fun q hq rq2=>?_;subst rq2
    exact⟨_,e2 q hq,rfl⟩)
  have mem:∀x∈frs,x∈pl l'++frs:=fun x hx=>List.mem_append_right _ hx
  exact⟨l',e1,e2,⟨⟨m,mc,I'.perm (gR _ _ _ _).symm,F⟩,N.len,f5 (fun _ h=>mem _ h) hm.outer,hm.self.imp id fun⟨φ,h1,h2⟩=>⟨φ,mem _ h1,h2⟩⟩⟩
theorem az.drops{P:Pm}{cx:Cx}{H:HP}{ρ:List Addr}{σ:St}{frs qs:aJ}{h:Heap}(N:az P base cx H ρ σ (qs++frs) h)(hm:fc cx frs):az P base cx H ρ σ frs h:=by
 refine aW N.inv fun m mc I F=>?_
 exact⟨⟨m,mc,(I.perm (gR _ _ _ _)).drops,F⟩,N.len,hm.outer,hm.self⟩
theorem az.pasts{P:Pm}{cx:Cx}{H:HP}{ρ:List Addr}{σ:St}{frs:aJ}{l:List (Addr×Obj)}{h h':Heap}(N:az P base cx H ρ σ (pl l++frs) h)(hm:fc cx frs)(k:∀b o,b∉l.map (·.1)→h.get? b=some o→h'.get? b=some o):az P base cx H ρ σ frs h':=by
 refine aW N.inv fun m mc I F=>?_
 exact⟨⟨m,mc,(I.perm (gR _ _ _ _)).pasts (by rw[mL];exact k),F⟩,N.len,hm.outer,hm.self⟩
theorem az.enters{P:Pm}{cx:Cx}{H:HP}{ρ:List Addr}{σ:St}{frs:aJ}{l:List (Addr×Obj)}{h h':Heap}(N:az P base cx H ρ σ frs h)(k:∀b o,h.get? b=some o→h'.get? b=some o)(hn:(l.map (·.1)).Nodup)(hf:∀p∈l,h.get? p.1=none∧h'.get? p.1=some p.2):az P base cx H ρ σ (pl l++frs) h':=by
 refine aW N.inv fun m mc I F=>?_
 have I':=I.enters (qs:=pl l) k (by rw[mL];exact hn) fun p hp=>by
  refine aq (List.mem_map.mp hp) fun q hq rq2=>?_;subst rq2
  exact⟨(hf q hq).1,_,(hf q hq).2,rfl⟩
 have mem:∀x∈frs,x∈pl l++frs:=fun x hx=>List.mem_append_right _ hx
 exact⟨⟨m,mc,I'.perm (gR _ _ _ _).symm,F⟩,N.len,f5 (fun _ h=>mem _ h) N.outer,N.self.imp id fun⟨φ,h1,h2⟩=>⟨φ,mem _ h1,h2⟩⟩
theorem az.plAt{P:Pm}{cx:Cx}{H:HP}{ρ:List Addr}{σ:St}{frs:aJ}{h:Heap}{l:List (Addr×Obj)}(N:az P base cx H ρ σ (pl l++frs) h){p:Addr×Obj}(hp:p∈l):h.get? p.1=some p.2:=by
 refine aW N.inv fun m mc I F=>?_
 refine aq (I.frNs (p.1,gi (·=p.2)) (.tail _ (List.mem_append_right _ (List.mem_append_left _ (List.mem_map.mpr ⟨p,hp,rfl⟩))))) fun o e z=>?_
 have z:o=p.2:=z
 rw[←z];exact e
theorem az.frzAt{P:Pm}{cx:Cx}{H:HP}{ρ:List Addr}{σ:St}{frs:aJ}{h:Heap}(N:az P base cx H ρ σ frs h){a:Addr}{o:Obj}(e:H a o):h.get? a=some o:=
 let ⟨_,_,I,_⟩:=N.inv;I.frz _ _ e
noncomputable def lu(T:Nat→V)(w:World)(base:Heap)(E:Ev)(x y:Str)(body:List Stmt)(cx:Cx)(l:List (Addr×Obj))(frs:aJ)(vs:List (V×V))(Sw:Nat→Heap→Prop)(Q:Fl→St→Prop)(H:HP)(ρ:List Addr)(s:Shared)(k:Nat)(s':Shared):Prop:=
 ∃i σ' H' ρ' l',k=vs.length+1 - i∧i≤vs.length∧Sw i s'.heap∧ml E x y body cx.sc (vs.drop i) σ' Q∧l'.map (·.1)=l.map (·.1)∧az (pm w T) base cx H' ρ' σ' (pl l'++frs) s'.heap∧aH base H ρ s H' ρ' s'
section
variable {cx:Cx}{x y:Str}{body:List Stmt}{vs:List (V×V)}{Q:Fl→St→Prop}{H:HP}{ρ:List Addr}{frs:aJ}{s:Shared}{Q':Flow→Shared→Prop}{EE:Value→Shared→Prop}{I:Addr}{fp wr:List Addr}{Pt:Nat→Array Value→Prop}{Sw:Nat→Heap→Prop}{Mid:Nat→Addr→Heap→Prop}{l:List (Addr×Obj)}
theorem v8(S:de prog w T base c.R E n)(O:cx.Ok n)(W:WalksT prog w cx.A I fp wr vs.length Pt Sw Mid)(hm:fc cx frs)(a:jg w T base cx frs H ρ s Q Q'){i k:Nat}{H':HP}{ρ':List Addr}{σ':St}{l₃:List (Addr×Obj)}{h₃:Heap}{s₂:Shared}(ek:k=vs.length+1 - i)(hfp':∀b∈fp,b∈l.map (·.1)∨∃o,H' b o)(lt:i < vs.length)(hst₃:Sw (i+1) h₃)(hl₃:l₃.map (·.1)=l.map (·.1))(hg₃:∀p∈l₃,h₃.get? p.1=some p.2)(frz:∀b o,H' b o→h₃.get? b=some o)
  (h':(E.ss body cx.sc).run σ' fun f σ₁=>yx f (ml E x y body cx.sc (vs.drop (i+1)) σ₁ Q) (Q .next σ₁) (fun v=>Q (.ret v) σ₁)) (N₂:az (pm w T) base cx H' ρ' σ' (pl l₃++frs) s₂.heap) (X':eY prog w base c.R cx frs H' s₂ EE) (LL:aH base H ρ s H' ρ' s₂) :
  wpAny (model prog w) cx.A (execs body cx.env) (eN (lu T w base E x y body cx l frs vs Sw Q H ρ s) k Q') EE s₂:=by
 refine S.ss cx body _ _ O h' H' ρ' _ _ (eN (lu T w base E x y body cx l frs vs Sw Q H ρ s) k Q') EE N₂ (X'.sub fun _ h=>List.mem_append_right _ h) fun f r σ₃ H₃ ρ₃ s₃ N₃ L₃ R₃ h₆=>?_
 have L₃':aH base H ρ s H₃ ρ₃ s₃:=LL.trans L₃
 have N₃':az (pm w T) base cx H₃ ρ₃ σ₃ frs s₃.heap:=N₃.drops hm
 have nx (h₆:ml E x y body cx.sc (vs.drop (i+1)) σ₃ Q):∃m,m < k∧lu T w base E x y body cx l frs vs Sw Q H ρ s m s₃:=by
  refine⟨_,qf ek lt,i+1,σ₃,H₃,ρ₃,l₃,rfl,lt,?_,h₆,hl₃,N₃,L₃'⟩
  refine W.frame _ _ _ hst₃ fun b hb o e=>(hfp' b hb).elim (fun q=>?_) fun⟨o',q⟩=>?_
  ·rw[←hl₃]at q
   refine aq (List.mem_map.mp q) fun p hp ep=>?_
   rw[←ep]at e ⊢
   rw[hg₃ p hp]at e
   rw[←ae e];exact N₃.plAt hp
  ·rw[frz _ _ q]at e
   rw[←ae e];exact N₃.frzAt (L₃.le _ _ q)
 cases R₃ with
 |next=>exact nx h₆
 |cont=>exact nx h₆
 |brk=>exact a .next .next _ _ _ _ N₃' L₃' .next h₆
 |ret q=>exact a _ _ _ _ _ _ N₃' L₃' (.ret q) h₆
theorem xi(S:de prog w T base c.R E n){px py pt:Pos}{tk:Nat}{σ:St}(O:cx.Ok n)
  (W:WalksT prog w cx.A I fp wr vs.length Pt Sw Mid) (hfp:∀b∈fp,b∈l.map (·.1)∨∃o,H b o) (hwr:∀b∈wr,b∈l.map (·.1))
  (hP:∀i vals,i < vs.length→Pt i vals→∃v0 v1 u,vals=#[v0,v1]∧vs[i]?=some u∧ag (pm w T) H ρ u.1 v0∧ag (pm w T) H ρ u.2 v1)
  (hI:∀i h,Sw i h→∀a∈l.map (·.1),∃o,h.get? a=some o) (hx:bB cx.sc x=true) (hy:bB cx.sc y=true) (h:ml E x y body cx.sc vs σ Q) (hst:Sw 0 s.heap) (N:az (pm w T) base cx H ρ σ (pl l++frs) s.heap) (hm:fc cx frs) (X:eY prog w base c.R cx frs H s EE)
  (a:jg w T base cx frs H ρ s Q Q') :
  codeAny (model prog w) cx.A (.forLoop (.Tuple [.Name x px,.Name y py] tk pt) (.ref I) body [] cx.env) (fun r s'=>match r with|.ok f=>Q' f s'|.error e=>cameBackBy (model prog w) cx.A cx.env EE e s') s:=by
 refine codeAny_forLoop_any (lu T w base E x y body cx l frs vs Sw Q H ρ s) ?_ (vs.length+1) ⟨0,σ,H,ρ,l,rfl,Nat.zero_le _,hst,h,rfl,N,.refl⟩
 refine fun k s' hL=>cps fun G kk=>?_
 refine Q2 hL fun i σ' H' ρ' l' ek hi hst' h' hl' N' L'=>?_
 have X':=X.later L'
 rcases Nat.lt_or_eq_of_le hi with lt|ei
 ·refine kk (W.item i s' _ _ lt hst' fun Tt vals h₁ tk₁ hv hT hTu hMid hk₁=>?_)
  refine nT (hP i vals lt hv) fun v0 v1 u rq3 hu R0 R1=>?_;subst rq3
  refine W.go _ tk pt i Tt _ _ _ hMid fun h₂ hst₂ hk₂=>?_
  have ht₂:h₂.IsTuple Tt #[v0,v1]:=hTu.at fun o e=>hk₂ Tt o (W.apart i Tt h₁ hMid) e
  refine wpAny_assign_Tuple O.handled ht₂ rfl rfl fun h₃ hx₃=>?_
  replace hx₃:Heap.ExtBut h₂.objs.size h₂ h₃:=hx₃
  have up₃:∀b o,h₂.get? b=some o→h₃.get? b=some o:=fun b o x=>hx₃ b o (Nat.ne_of_lt (Heap.lt_size x)) x
  have hst₃:Sw (i+1) h₃:=W.frame _ _ _ hst₂ fun b _ o e=>up₃ b o e
  obtain⟨l₃,hl₃,hg₃,N₃⟩:=N'.iters hm (h':=h₃) (fun b o q e=>by
   rw[hl']at q
   have q':b∉wr:=fun z=>q (hwr b z)
   exact up₃ _ _ (hk₂ _ _ q' (hk₁ _ _ q' e))) (by rw[hl'];exact hI _ _ hst₃)
  rw[hl']at hl₃
  show wpAny _ cx.A (do holding [v1] (assign (.Name x px) cx.env v0);do holding [] (assign (.Name y py) cx.env v1);pure ()) _ _ _
  refine wpAny_bind (wpAny_holding (wpAny_assign_Name (eU (s:={s' with heap:=h₃,toks:=tk₁}) O N₃ hx (R0.mono L'.le L'.grows) fun h₄ tk₄ N₄=>?_)))
  refine wpAny_bind (wpAny_holding (wpAny_assign_Name (eU (s:={s' with heap:=h₄,toks:=tk₄}) O N₄ hy (R1.mono L'.le L'.grows) fun h₅ tk₅ N₅=>wpAny_pure ?_)))
  rw[List.drop_eq_getElem_cons lt,Option.some.inj ((List.getElem?_eq_getElem lt).symm.trans hu)]at h'
  exact wpAny_mono (v8 S O W hm a ek (fun b hb=>(hfp b hb).imp id fun⟨o,e⟩=>⟨o,L'.le _ _ e⟩) lt hst₃ hl₃ hg₃ (fun _ _=>N₃.frzAt) h' (s₂:={s' with heap:=h₅,toks:=tk₅}) N₅ (X'.later (H:=H') (ρ:=ρ') .heap) (L'.trans .heap)) (fun f _ z=>by cases f <;> exact z) X.passes
 ·rw[ei]at hst' h'
  refine kk (W.done s' _ _ hst' fun h₁ tk hk=>?_)
  (with_reducible refine wpAny_execs_nil ?_)
  rw[List.drop_length]at h'
  exact a .next .next σ' H' ρ' _ (N'.pasts hm fun b o q e=>hk b o (fun z=>q (by rw[hl'];exact hwr b z)) e) (L'.trans .heap) .next h'
end
theorem DN(G:aI prog w T c K base)(S:de prog w T base c.R E n){cx:Cx}{p:Pos}{as:List Expr}{σ:Mine.St}{Q:List V→Mine.St→Prop}{H:HP}{ρ:List Addr}{frs:aJ}{s:Shared}{Q':Value→Shared→Prop}{EE:Value→Shared→Prop}(O:cx.Ok n)
    {rg:Value} (ha:bb dj as=true) (kp:Eu K rg) (h:(hV E as cx.sc).run σ Q)
    (N:az (pm w T) base cx H ρ σ frs s.heap) (X:eY prog w base c.R cx frs H s EE)
    (a:∀vs rs σ₂ H₂ ρ₂ s₂,az (pm w T) base cx H₂ ρ₂ σ₂ frs s₂.heap→aH base H ρ s H₂ ρ₂ s₂→ai (pm w T) H₂ ρ₂ vs rs→Q vs σ₂→wpAny (model prog w) cx.A (call rg rs []) Q' EE s₂):wpAny (model prog w) cx.A (callWith p rg [] (backTo p (starEach as cx.env)) []) Q' EE s:=by
  refine callWith_of (P:=K.In) (by rw[hZ ha];rfl) (fL kp) ?_
  have main:∀vs rs σ₂ H₂ ρ₂ s₂,az (pm w T) base cx H₂ ρ₂ σ₂ frs s₂.heap→aH base H ρ s H₂ ρ₂ s₂→ai (pm w T) H₂ ρ₂ vs rs→Q vs σ₂→K.In s₂.heap∧wpAny (model prog w) cx.A (call rg ([]++rs) []) Q' EE s₂:=fun vs rs σ₂ H₂ ρ₂ s₂ N₂ L₂ R₂ h₂=>
    ⟨G.kin.keeps N₂.keep,a vs rs σ₂ H₂ ρ₂ s₂ N₂ L₂ R₂ h₂⟩
  cases as with
  |nil=>exact evalArgs_nil3 (main [] [] σ H ρ s N .refl .nil h)
  | cons e r=>
    have q:=S.es cx (e::r) σ _ O h p H ρ frs s (fun rs s₂=>K.In s₂.heap∧wpAny (model prog w) cx.A (call rg ([]++rs) []) Q' EE s₂) EE N X main
    rw[dp e cx.env r (dH (a9 ha).1)]at q ⊢
    exact evalArgs_plain q
theorem zK{vs:List V}:∀(i:Int) (j:Nat) (v:V),vs[j]?=some v→(wF vs i)[j]?=some (.int true (i+j),v):=by
  induction vs with
  |nil=>exact fun _ _ _ h=>nomatch h
  | cons u r ih=>
    intro i j v h
    cases j with
    |zero=>rw[←ae h,Int.ofNat_zero,Int.add_zero];rfl
    |succ j=>exact(ih (i+1) j v h).trans (congrArg (fun x=>some (V.int true x,v)) (by lia))
theorem yj(vs:List V):∀(i:Int),(wF vs i).length=vs.length:=by
 induction vs with
 |nil=>exact fun _=>rfl
 |cons _ r ih=>exact fun i=>congrArg (·+1) (ih (i+1))
theorem Hj(G:aI prog w T c K base)(S:de prog w T base c.R E n){cx:Cx}{x y:Str}{px py cp tp:Pos}{tk:Nat}{as:List Expr}{body:List Stmt}{σ:Mine.St}{Q:Fl→Mine.St→Prop}{H:HP}{ρ:List Addr}{frs:aJ}{s:Shared}{Q':Flow→Shared→Prop}{EE:Value→Shared→Prop}(O:cx.Ok n)
  (hx:bB cx.sc x=true) (hy:bB cx.sc y=true) (hp:bb dj as=true) (h:xo E x y as body cx.sc σ Q) (N:az (pm w T) base cx H ρ σ frs s.heap) (X:eY prog w base c.R cx frs H s EE) (a:jg w T base cx frs H ρ s Q Q') :
  wpAny (model prog w) cx.A (callWith cp (.type "enumerate") [] (backTo cp (starEach as cx.env)) []) (fun xv s₁=>wpAny (model prog w) cx.A (pyIter xv) (fun it s₂=>codeAny (model prog w) cx.A (.forLoop (.Tuple [.Name x px,.Name y py] tk tp) it body [] cx.env) (fun r s'=>match r with|.ok f=>Q' f s'|.error e=>cameBackBy (model prog w) cx.A cx.env EE e s') s₂) EE s₁) EE s:=by
 refine DN G S O hp (.inr (.inr ⟨_,rfl⟩)) h N X fun vs rs σ₁ H₁ ρ₁ s₁ N₁ L₁ R₁ h₁=>aB h₁ fun v ev h₁=>aB h₁ fun p eo h₁=>a8 h₁ fun _ h₁=>R₁.c1 ev fun r₁ R₁ er=>lS N₁ R₁ eo fun ax rs k H₂ er₁ hax N₂ L₂ hH hvs=>?_
 rw[er,er₁]
 have lt:=Heap.lt_size hax
 have hl:rs.toArray.size=p.1.length:=by rw[List.size_toArray];exact(aN hvs).symm
 refine call_enumerate_list (l:=ax) (items:=rs.toArray) ⟨_,hax,rfl,_,rfl⟩ fun h' g1 g2 g3 g4=>?_
 (with_reducible refine wpAny_pyIter_enum g1 ?_)
 have W:=WalksT.enumerate (prog:=prog) (w:=w) O.handled (s₁.heap.objs.size+1) s₁.heap.objs.size ax (Nat.succ_ne_self _) (Nat.ne_of_lt (Nat.lt_succ_of_lt lt)) (Nat.ne_of_lt lt) rs.toArray
 rw[hl,←yj p.1 0]at W
 refine aq g2 fun oi hoi hoi'=>?_
 have fr:∀b,s₁.heap.objs.size≤b→s₁.heap.get? b=none:=fun b hb=>Heap.get?_none_of_le hb
 have N₃:az (pm w T) base cx H₂ ρ₁ ⟨σ₁.fm,p.2⟩ (pl [(s₁.heap.objs.size+1,_),(s₁.heap.objs.size,oi)]++frs) h':=N₂.enters (l:=[(s₁.heap.objs.size+1,_),(s₁.heap.objs.size,oi)]) g4 (by simp) (fun p hp=>by
  rcases List.mem_cons.mp hp with rfl|hp
  ·exact⟨fr _ (Nat.le_succ _),g1⟩
  ·rw[List.mem_singleton.mp hp];exact⟨fr _ (Nat.le_refl _),hoi⟩)
 have L₃:aH base H ρ s H₂ ρ₁ {s₁ with heap:=h'}:=(L₁.trans L₂).trans ⟨fun _ _ e=>e,fun _ _ e=>.inl e,.refl,rfl,rfl,rfl⟩
 refine xi (s:={s₁ with heap:=h'}) S O W (l:=[(s₁.heap.objs.size+1,_),(s₁.heap.objs.size,oi)]) (fun b hb=>?_) (fun b hb=>by simpa using hb) (fun i vals hi hv=>?_) (fun i h st b hb=>?_) hx hy h₁ ⟨⟨_,by simpa using g1⟩,⟨oi,hoi,hoi'⟩,⟨_,g4 _ _ hax,rfl,_,rfl⟩⟩ N₃ N₂.home (X.later L₃) fun fl r σ' H' ρ' s' N' L' R' q=>a fl r σ' H' ρ' s' N' (L₃.trans L') R' q
 ·simp only [List.mem_cons,List.not_mem_nil,or_false]at hb
  rcases hb with rfl|rfl|rfl
  ·exact .inl (by simp)
  ·exact .inl (by simp)
  ·exact .inr ⟨_,hH⟩
 ·refine aW hv fun t v e1 rq3=>?_;subst rq3
  rw[List.getElem?_toArray]at e1
  refine aq (fC hvs e1) fun u e2 R=>?_
  exact⟨_,_,(.int true (0+i),u),rfl,zK 0 i u e2,by rw[Int.zero_add];exact .int,R⟩
 ·obtain⟨⟨old,s1⟩,s2,s3⟩:=st
  simp only [List.map_cons,List.map_nil,List.mem_cons,List.not_mem_nil,or_false]at hb
  rcases hb with rfl|rfl
  ·exact⟨_,s1⟩
  ·refine aq s2 fun o ho _=>?_;exact⟨o,ho⟩
end
end
section
section
variable {prog:Program}{w:World}{A:Around}{E:Value→Shared→Prop}{s:Shared}
theorem k8{it t:Addr}{i:Nat}{items:Array Value}{x:Value}{Q:Value→Shared→Prop}(hit:s.heap.IsTupleIter it t i)(ht:s.heap.IsTuple t items)(hx:items[i]?=some x)
  (hQ:∀h',h'.IsTupleIter it t (i+1)→Heap.SameBut it s.heap h'→Q x {s with heap:=h'}):wpAny (model prog w) A (Builtin.SmallTypes.nextOf (.ref it)) Q E s:=by
 refine cJ (id hit) fun o ho hc hd=>?_
 obtain⟨ol,hol,_,nl,hdl⟩:=ht
 unfold Builtin.SmallTypes.nextOf
 refine wpAny_bind (wpAny_callSpecial?_slot (name:=Str.ofString "__next__") hit.typeIs F.slot_tuple_iterator_next
  (wpAny_call_entry F.slot_tuple_iterator_next hit.typeIs F.entry_tuple_iterator_next ?_ (F.args_tuple_iterator_next_1 _)))
 show wpAny _ _ (field (.ref it) 0 >>= _) _ _ s
 refine wpAny_bind (wpAny_field ho hd (x:=.ref t) rfl ?_)
 show wpAny _ _ (if(Value.ref t==Value.none)=true then _ else _) _ _ s
 rw[if_neg (show ¬((Value.ref t==Value.none)=true)from Bool.false_ne_true)]
 show wpAny _ _ (field (.ref it) 1 >>= _) _ _ s
 refine wpAny_bind (wpAny_field ho hd (x:=.int i 0) rfl ?_)
 show wpAny _ _ (seqItems? (.ref t) >>= _) _ _ s
 refine wpAny_bind (wpAny_seqItems hol hdl ?_)
 simp only [Int.toNat_natCast,hx]
 refine wpAny_bind (wpAny_setField ho hd (by simp) (wpAny_pure ⟨x,rfl,wpAny_pure (hQ _ ?_ (Heap.SameBut.update ..))⟩))
 exact⟨_,Heap.get?_update_self _ ho (Obj.isFreed_of_fields (Obj.data_mapFields hd _)),(Obj.cls_mapFields ..).trans hc,by
  rw[Obj.data_mapFields hd];simp[rawInt]⟩
theorem mZ{it t:Addr}{i:Nat}{items:Array Value}{Q:Value→Shared→Prop}(hh:A.handled=none)(hit:s.heap.IsTupleIter it t i)(ht:s.heap.IsTuple t items)(hx:items[i]?=none)
  (hE:∀h' e,Heap.ExtBut it s.heap h'→(∃o,h'.get? e=some o∧o.cls=.type "StopIteration")→E (.ref e) {s with heap:=h'}):wpAny (model prog w) A (Builtin.SmallTypes.nextOf (.ref it)) Q E s:=by
 refine cJ (id hit) fun o ho hc hd=>?_
 obtain⟨ol,hol,_,nl,hdl⟩:=ht
 unfold Builtin.SmallTypes.nextOf
 refine wpAny_bind (wpAny_callSpecial?_slot (name:=Str.ofString "__next__") hit.typeIs F.slot_tuple_iterator_next
  (wpAny_call_entry F.slot_tuple_iterator_next hit.typeIs F.entry_tuple_iterator_next ?_ (F.args_tuple_iterator_next_1 _)))
 show wpAny _ _ (field (.ref it) 0 >>= _) _ _ s
 refine wpAny_bind (wpAny_field ho hd (x:=.ref t) rfl ?_)
 show wpAny _ _ (if(Value.ref t==Value.none)=true then _ else _) _ _ s
 rw[if_neg (show ¬((Value.ref t==Value.none)=true)from Bool.false_ne_true)]
 show wpAny _ _ (field (.ref it) 1 >>= _) _ _ s
 refine wpAny_bind (wpAny_field ho hd (x:=.int i 0) rfl ?_)
 show wpAny _ _ (seqItems? (.ref t) >>= _) _ _ s
 refine wpAny_bind (wpAny_seqItems hol hdl ?_)
 simp only [Int.toNat_natCast,hx]
 refine wpAny_bind (wpAny_rule (wpAny_bind (wpAny_setField ho hd (by simp) ?_)))
 show wpAny _ _ (newExc (.type "StopIteration") [] >>= _) _ _ _
 refine wpAny_bind ?_
 simp only [newExc,newTuple]
 refine wpAny_bind (wpAny_newObj_type ?_ (by size_fits))
 refine wpAny_bind (m:=firstArgMember _ _) (wpAny_of_eq (a:=Value.none) (by first|rfl|(simp only [firstArgMember];rfl)) ?_)
 refine wpAny_newObj_type ?_ (by size_fits)
 simp only [raiseNew]
 refine wpAny_bind (wpAny_handled ?_)
 first|rw[show A.in1.handled=none from hh]|rw[hh]
 refine wpAny_bind (wpAny_pure (wpAny_throw ?_))
 exact hE _ _ (((Heap.SameBut.update ..).extBut.push _).push _) ⟨_,Heap.get?_push_size _ rfl,rfl⟩
structure js(z TI TO i1 i2 t l:Addr)(xs ys:Array Value)(f0:Value)(i:Nat)(h:Heap):Prop where
 z:IsZip h z TI TO f0
 TI:IsPair h TI (.ref i1) (.ref i2)
 TO:∃a b,IsPair h TO a b
 i1:h.IsTupleIter i1 t i
 i2:h.IsListIter i2 l i
 t:h.IsTuple t xs
 l:h.IsList l ys
theorem js.frame{z TI TO i1 i2 t l:Addr}{xs ys:Array Value}{f0:Value}{i:Nat}{h h':Heap}(x:js z TI TO i1 i2 t l xs ys f0 i h)(k:∀b∈[z,TI,TO,i1,i2,t,l],∀o,h.get? b=some o→h'.get? b=some o):js z TI TO i1 i2 t l xs ys f0 i h':=
 have k:=fun b=>k b
 have m1:z∈[z,TI,TO,i1,i2,t,l]:=.head _
 have m2:TI∈[z,TI,TO,i1,i2,t,l]:=.tail _ (.head _)
 have m3:TO∈[z,TI,TO,i1,i2,t,l]:=.tail _ (.tail _ (.head _))
 have m4:i1∈[z,TI,TO,i1,i2,t,l]:=.tail _ (.tail _ (.tail _ (.head _)))
 have m5:i2∈[z,TI,TO,i1,i2,t,l]:=.tail _ (.tail _ (.tail _ (.tail _ (.head _))))
 have m6:t∈[z,TI,TO,i1,i2,t,l]:=.tail _ (.tail _ (.tail _ (.tail _ (.tail _ (.head _)))))
 have m7:l∈[z,TI,TO,i1,i2,t,l]:=.tail _ (.tail _ (.tail _ (.tail _ (.tail _ (.tail _ (.head _))))))
 ⟨k z m1 _ x.z,k TI m2 _ x.TI,x.TO.imp fun _=>.imp fun _=>k TO m3 _,x.i1.at (k i1 m4),x.i2.at (k i2 m5),x.t.at (k t m6),x.l.at (k l m7)⟩
theorem Qd{c z TO i1 i2:Addr}(h:c∉[z,TO,i1,i2]):c≠z∧c≠TO∧c≠i1∧c≠i2:=
 ⟨fun e=>h (e▸.head _),fun e=>h (e▸.tail _ (.head _)),fun e=>h (e▸.tail _ (.tail _ (.head _))),fun e=>h (e▸.tail _ (.tail _ (.tail _ (.head _))))⟩
theorem M8(z TI TO i1 i2:Addr)(l:List Addr):∀c∈[z,TO,i1,i2],c∈z::TI::TO::i1::i2::l:=fun _ h=>List.Sublist.subset (.cons₂ _ (.cons _ (.cons₂ _ (.cons₂ _ (.cons₂ _ (List.nil_sublist _)))))) h
theorem Tc(q:Nat):([q+4,q+2,q+3,q,q+1]:List Nat).Nodup:=by simp
theorem vU{z TI TO i1 i2 t l:Addr}{xs ys:Array Value}{i:Nat}{x y:Value}{Q:Value→Shared→Prop}(D:ZipApart z TI TO i1 i2 t l)(Z:js z TI TO i1 i2 t l xs ys .none i s.heap)(hx:xs[i]?=some x)(hy:ys[i]?=some y)
  (hQ:∀h',js z TI TO i1 i2 t l xs ys (rawInt s.heap.objs.size) (i+1) h'→IsPair h' s.heap.objs.size x y→(∀c o,c≠z→c≠TO→c≠i1→c≠i2→s.heap.get? c=some o→h'.get? c=some o)→Q (.ref s.heap.objs.size) {s with heap:=h'}) :
  wpAny (model prog w) A (Builtin.«zip.__next__» ⟨[.ref z],[]⟩) (fun fin s'=>∃v,fin=.done (.ret v)∧Q v s') E s:=by
 obtain⟨hz,hTI,⟨a,b,hTO⟩,h1,h2,ht,hl⟩:=Z
 show wpAny _ _ (field (.ref z) 2 >>= _) _ _ _
 refine wpAny_bind (wpAny_field hz rfl (x:=.bool false) rfl ?_)
 show wpAny _ _ (field (.ref z) 3 >>= _) _ _ _
 refine wpAny_bind (wpAny_field hz rfl (x:=.ref TI) rfl ?_)
 refine wpAny_bind (wpAny_seqItems hTI rfl ?_)
 show wpAny _ _ (Builtin.SmallTypes.ownedTupleIsFree (.ref z) >>= _) _ _ _
 refine wpAny_bind ?_
 unfold Builtin.SmallTypes.ownedTupleIsFree
 refine wpAny_bind (wpAny_field hz rfl (x:=.none) rfl (wpAny_pure ?_))
 simp only [if_true]
 refine wpAny_bind (wpAny_rule ?_)
 refine wpAny_bind (wpAny_field hz rfl (x:=.ref TO) rfl ?_)
 refine wpAny_bind (wpAny_setField_rec hz (by simp) fun h₁ hz₁ hs₁=>?_)
 replace hz₁:IsZip h₁ z TI TO .ellipsis:=hz₁
 refine wpAny_bind ?_
 simp only [List.zipIdx_cons,List.zipIdx_nil,List.forIn_cons,List.forIn_nil]
 refine wpAny_bind (wpAny_bind (wpAny_onRaise ?_))
 show wpAny _ _ (Builtin.SmallTypes.nextOf (.ref i1) >>= _) _ _ _
 refine wpAny_bind (k8 (h1.extBut hs₁.extBut D.i1z) (ht.extBut hs₁.extBut D.l1z) hx fun h₂ h1₂ hs₂=>wpAny_pure ?_)
 have hTO₂:IsPair h₂ TO a b:=hs₂.extBut _ _ D.TOi1 (hs₁.extBut _ _ D.TOz hTO)
 refine wpAny_bind (wpAny_seqItems hTO₂ rfl ?_)
 refine wpAny_bind (wpAny_updateSeq_pair hTO₂ fun h₃ hTO₃ hs₃=>?_)
 replace hTO₃:IsPair h₃ TO x b:=hTO₃
 refine wpAny_bind (wpAny_letGo (wpAny_pure ?_))
 refine wpAny_bind (wpAny_bind (wpAny_onRaise ?_))
 show wpAny _ _ (Builtin.SmallTypes.nextOf (.ref i2) >>= _) _ _ _
 refine wpAny_bind (wpAny_nextOf_list_item (((h2.extBut hs₁.extBut D.i2z).extBut hs₂.extBut D.i12.symm).extBut hs₃.extBut D.TOi2.symm)
  (((hl.extBut hs₁.extBut D.l2z).extBut hs₂.extBut D.l2i1).extBut hs₃.extBut D.l2TO) hy fun h₄ h2₄ hs₄=>wpAny_pure ?_)
 have hTO₄:IsPair h₄ TO x b:=hs₄.extBut _ _ D.TOi2 hTO₃
 refine wpAny_bind (wpAny_seqItems hTO₄ rfl ?_)
 refine wpAny_bind (wpAny_updateSeq_pair hTO₄ fun h₅ hTO₅ hs₅=>?_)
 replace hTO₅:IsPair h₅ TO x y:=hTO₅
 refine wpAny_bind (wpAny_letGo (wpAny_pure (wpAny_pure ?_)))
 refine wpAny_bind (wpAny_seqItems hTO₅ rfl ?_)
 refine wpAny_bind (wpAny_newTuple ?_)
 have hsz:h₅.objs.size=s.heap.objs.size:=by rw[hs₅.1,hs₄.1,hs₃.1,hs₂.1,hs₁.1]
 have hz₅:IsZip h₅ z TI TO .ellipsis:=hs₅.extBut _ _ D.TOz.symm (hs₄.extBut _ _ D.i2z.symm (hs₃.extBut _ _ D.TOz.symm (hs₂.extBut _ _ D.i1z.symm hz₁)))
 have hk₅:∀c o,c≠z→c≠TO→c≠i1→c≠i2→s.heap.get? c=some o→h₅.get? c=some o:=fun c o c1 c2 c3 c4 e=>
  hs₅.extBut _ _ c2 (hs₄.extBut _ _ c4 (hs₃.extBut _ _ c2 (hs₂.extBut _ _ c3 (hs₁.extBut _ _ c1 e))))
 have h1₅:h₅.IsTupleIter i1 t (i+1):=((h1₂.extBut hs₃.extBut D.TOi1.symm).extBut hs₄.extBut D.i12).extBut hs₅.extBut D.TOi1.symm
 have h2₅:h₅.IsListIter i2 l (i+1):=h2₄.extBut hs₅.extBut D.TOi2.symm
 have hzlt:z < h₅.objs.size:=Heap.lt_size hz₅
 show wpAny _ _ (Builtin.SmallTypes.ownedTupleHandOut (.ref z) (.ref h₅.objs.size) >>= _) _ _ _
 refine wpAny_bind ?_
 unfold Builtin.SmallTypes.ownedTupleHandOut
 have hz₆:IsZip (h₅.push {cls:=.type "tuple",data:=.seq #[x,y]}) z TI TO .ellipsis:=Heap.get?_push_of_some _ hz₅
 refine wpAny_bind (wpAny_setField_rec hz₆ (by simp) fun h₇ hz₇ hs₇=>?_)
 replace hz₇:IsZip h₇ z TI TO (rawInt h₅.objs.size):=hz₇
 refine wpAny_setField_rec hz₇ (by simp) fun h₈ hz₈ hs₈=>?_
 replace hz₈:IsZip h₈ z TI TO (rawInt h₅.objs.size):=hz₈
 have up:∀c o,c≠z→h₅.get? c=some o→h₈.get? c=some o:=fun c o c1 e=>hs₈.extBut _ _ c1 (hs₇.extBut _ _ c1 (Heap.get?_push_of_some _ e))
 have hT₈:IsPair h₈ h₅.objs.size x y:=hs₈.extBut _ _ (Nat.ne_of_gt hzlt) (hs₇.extBut _ _ (Nat.ne_of_gt hzlt) (Heap.get?_push_size _ rfl))
 rw[hsz]at hz₈ hT₈
 refine wpAny_pure ⟨_,rfl,?_⟩
 show Q (.ref h₅.objs.size) _
 rw[hsz]
 have all:∀c o,c≠z→c≠TO→c≠i1→c≠i2→s.heap.get? c=some o→h₈.get? c=some o:=fun c o c1 c2 c3 c4 e=>up c o c1 (hk₅ c o c1 c2 c3 c4 e)
 exact hQ h₈ ⟨hz₈,all _ _ D.TIz D.TITO D.TIi1 D.TIi2 hTI,⟨_,_,up _ _ D.TOz hTO₅⟩,h1₅.at fun o e=>up _ o D.i1z e,h2₅.at fun o e=>up _ o D.i2z e,ht.at fun o e=>all _ o D.l1z D.l1TO D.l1i1 D.l1i2 e,hl.at fun o e=>all _ o D.l2z D.l2TO D.l2i1 D.l2i2 e⟩ hT₈ all
theorem zm{z TI TO i1 i2 t l:Addr}{xs ys:Array Value}{i:Nat}{Q:Fin→Shared→Prop}(hh:A.handled=none)(D:ZipApart z TI TO i1 i2 t l)(Z:js z TI TO i1 i2 t l xs ys .none i s.heap)(hx:xs[i]?=none)
  (hE:∀h' e,(∀c o,c≠z→c≠TO→c≠i1→c≠i2→s.heap.get? c=some o→h'.get? c=some o)→(∃o,h'.get? e=some o∧o.cls=.type "StopIteration")→E (.ref e) {s with heap:=h'}) :
  wpAny (model prog w) A (Builtin.«zip.__next__» ⟨[.ref z],[]⟩) Q E s:=by
 obtain⟨hz,hTI,⟨a,b,hTO⟩,h1,h2,ht,hl⟩:=Z
 show wpAny _ _ (field (.ref z) 2 >>= _) _ _ _
 refine wpAny_bind (wpAny_field hz rfl (x:=.bool false) rfl ?_)
 show wpAny _ _ (field (.ref z) 3 >>= _) _ _ _
 refine wpAny_bind (wpAny_field hz rfl (x:=.ref TI) rfl ?_)
 refine wpAny_bind (wpAny_seqItems hTI rfl ?_)
 show wpAny _ _ (Builtin.SmallTypes.ownedTupleIsFree (.ref z) >>= _) _ _ _
 refine wpAny_bind ?_
 unfold Builtin.SmallTypes.ownedTupleIsFree
 refine wpAny_bind (wpAny_field hz rfl (x:=.none) rfl (wpAny_pure ?_))
 simp only [if_true]
 refine wpAny_bind (wpAny_rule ?_)
 refine wpAny_bind (wpAny_field hz rfl (x:=.ref TO) rfl ?_)
 refine wpAny_bind (wpAny_setField_rec hz (by simp) fun h₁ hz₁ hs₁=>?_)
 replace hz₁:IsZip h₁ z TI TO .ellipsis:=hz₁
 refine wpAny_bind ?_
 simp only [List.zipIdx_cons,List.zipIdx_nil,List.forIn_cons,List.forIn_nil]
 refine wpAny_bind (wpAny_bind (wpAny_onRaise ?_))
 show wpAny _ _ (Builtin.SmallTypes.nextOf (.ref i1) >>= _) _ _ _
 refine wpAny_bind (mZ hh (h1.extBut hs₁.extBut D.i1z) (ht.extBut hs₁.extBut D.l1z) hx fun h₂ e hs₂ he=>?_)
 refine aq he fun oe hoe hce=>?_
 have hz₂:IsZip h₂ z TI TO .ellipsis:=hs₂ _ _ D.i1z.symm hz₁
 have hez:e≠z:=fun x=>by subst x;rw[hz₂]at hoe;cases hoe;simp at hce
 refine wpAny_setField_rec hz₂ (by simp) fun h₃ _ hs₃=>hE h₃ e (fun c o c1 _ c3 _ x=>hs₃.extBut _ _ c1 (hs₂ _ _ c3 (hs₁.extBut _ _ c1 x))) ⟨oe,hs₃.extBut _ _ hez hoe,hce⟩
theorem G9(hh:A.handled=none)(z TI TO i1 i2 t l:Addr)(D:ZipApart z TI TO i1 i2 t l)(xs ys:Array Value)(hn:xs.size=ys.size) :
  WalksT prog w A z [z,TI,TO,i1,i2,t,l] [z,TO,i1,i2] xs.size (fun i vals=>∃x y,xs[i]?=some x∧ys[i]?=some y∧vals=#[x,y]) (fun i h=>js z TI TO i1 i2 t l xs ys .none i h)
   (fun i T h=>js z TI TO i1 i2 t l xs ys (rawInt T) (i+1) h∧T≠z∧T≠TO∧T≠i1∧T≠i2) where
 sub:=M8 z TI TO i1 i2 [t,l]
 frame:=fun i h h' hst hk=>hst.frame hk
 item:=fun i s Q E hi hst hQ=>by
  have hT:s.TypeIs (.ref z) "zip":=⟨_,hst.z,rfl⟩
  have lt:∀{c o},s.heap.get? c=some o→s.heap.objs.size≠c:=fun e=>Nat.ne_of_gt (Heap.lt_size e)
  unfold pyNext
  refine wpAny_bind (wpAny_attempt (wpAny_callSpecial?_slot (name:=Str.ofString "__next__") hT F.slot_zip_next
   (wpAny_call_entry F.slot_zip_next hT F.entry_zip_next (vU D hst (Array.getElem?_eq_getElem hi) (Array.getElem?_eq_getElem (hn▸hi)) fun h' a1 a2 hk=>wpAny_pure ?_) (F.args_zip_next_1 _))))
  refine hQ s.heap.objs.size #[xs[i],ys[i]'(hn▸hi)] h' s.toks ⟨_,_,Array.getElem?_eq_getElem hi,Array.getElem?_eq_getElem (hn▸hi),rfl⟩ (Nat.le_refl _) ⟨_,a2,rfl,_,rfl⟩ ⟨a1,lt hst.z,?_,?_,?_⟩
   fun c o hc e=>let ⟨a,b,d,f⟩:=Qd hc;hk c o a b d f e
  ·refine iB hst.TO fun _ _ e=>?_;exact lt e
  ·refine aq hst.i1 fun _ e _=>?_;exact lt e
  ·refine aq hst.i2 fun _ e _=>?_;exact lt e
 go:=fun elts k pos i T s Q E hm hQ=>by
  refine t7 hm fun Z t1 t2 t3 t4=>?_
  refine wpAny_letOwnedTupleGo_zip Z.z fun h' hz' hs'=>hQ h' ?_ fun c o hc e=>hs'.extBut _ _ (Qd hc).1 e
  refine iB Z.TO fun a b hTO=>?_
  exact⟨hz',hs'.extBut _ _ D.TIz Z.TI,⟨a,b,hs'.extBut _ _ D.TOz hTO⟩,Z.i1.extBut hs'.extBut D.i1z,Z.i2.extBut hs'.extBut D.i2z,Z.t.extBut hs'.extBut D.l1z,Z.l.extBut hs'.extBut D.l2z⟩
 apart:=fun i T h hm hT=>by
  refine t7 hm fun _ t1 t2 t3 t4=>?_
  exact(List.mem_cons.mp hT).elim t1 fun hT=>(List.mem_cons.mp hT).elim t2 fun hT=>(List.mem_cons.mp hT).elim t3 fun hT=>t4 (List.mem_singleton.mp hT)
 done:=fun s Q E hst hQ=>by
  have hT:s.TypeIs (.ref z) "zip":=⟨_,hst.z,rfl⟩
  unfold pyNext
  refine wpAny_bind (wpAny_attempt (wpAny_callSpecial?_slot (name:=Str.ofString "__next__") hT F.slot_zip_next
   (wpAny_call_entry F.slot_zip_next hT F.entry_zip_next (zm hh D hst (Array.getElem?_eq_none (Nat.le_refl _)) fun h' e hk he=>?_) (F.args_zip_next_1 _))))
  refine aq he fun o ho hc=>?_
  refine wpAny_bind (wpAny_isInstance (T:="StopIteration") (b:=true) ⟨o,ho,hc⟩ isSubtype_stop ?_)
  exact wpAny_pure (hQ _ s.toks fun c o hc e=>let ⟨a,b,d,f⟩:=Qd hc;hk c o a b d f e)
 self:=fun i s Q E hst hQ=>wpAny_pyIter_zip hst.z hQ
noncomputable abbrev O1(h:Heap)(t:Addr):Heap:=h.push {cls:=.type "tuple_iterator",data:=.fields #[.ref t,.int 0 0]}
noncomputable abbrev OW(h:Heap)(t l:Addr):Heap:=(O1 h t).push {cls:=.type "list_iterator",data:=.fields #[.ref l,.int 0 0]}
noncomputable abbrev O6(h:Heap)(t l:Addr):Heap:=(OW h t l).push {cls:=.type "tuple",data:=.seq #[.ref h.objs.size,.ref (O1 h t).objs.size]}
noncomputable abbrev OS(h:Heap)(t l:Addr):Heap:=(O6 h t l).push {cls:=.type "tuple",data:=.seq #[.none,.none]}
noncomputable abbrev Jx(h:Heap)(t l:Addr):Heap:=(OS h t l).push {cls:=.type "zip",data:=.fields #[.none,.bool false,.bool false,.ref (OW h t l).objs.size,.ref (O6 h t l).objs.size]}
theorem FT(t l:Addr)(xs ys:Array Value) :
  Meets (Builtin.«zip.__new__» ⟨[.type "zip",.ref t,.ref l],[]⟩) (fun _ R s=>s.heap.IsTuple t xs∧s.heap.IsList l ys∧R (.ok (.ret (.ref (OS s.heap t l).objs.size))) {s with heap:=Jx s.heap t l}):=
 .of_wp fun prog w A R s h=>by
  obtain⟨hp,g,d,tk,os⟩:=s;obtain⟨hl1,hl2,h⟩:=h
  have hsub:=sub_zip
  have hL1:Heap.IsTuple (Shared.heap ⟨hp,g,d,tk,os⟩) t xs:=hl1
  have hL2:Heap.IsList (Shared.heap ⟨hp.push {cls:=.type "tuple_iterator",data:=.fields #[.ref t,.int 0 0]},g,d,tk,os⟩) l ys:=Heap.IsList.push hl2 _
  wp_walk using wpAny_pyIter_tuple hL1,wpAny_pyIter_list hL2
  exact⟨_,rfl,h⟩
theorem tW{t l:Addr}{xs ys:Array Value}{Q:Value→Shared→Prop}(ht:s.heap.IsTuple t xs)(hl:s.heap.IsList l ys)
  (h:∀h',js (s.heap.objs.size+4) (s.heap.objs.size+2) (s.heap.objs.size+3) s.heap.objs.size (s.heap.objs.size+1) t l xs ys .none 0 h'→(∀c o,s.heap.get? c=some o→h'.get? c=some o)→Q (.ref (s.heap.objs.size+4)) {s with heap:=h'}) :
  wpAny (model prog w) A (call (.type "zip") [.ref t,.ref l]) Q E s:=by
 refine callType_new F.called_zip (by decide) (F.typeCall_zip_2 _ _) (F.newCall_zip_2 _ _) (fun obj=>F.args_object_init_3 obj _ _) F.entry_zip_new
  (FT t l xs ys) ⟨ht,hl,?_⟩
 have z1:(O1 s.heap t).objs.size=s.heap.objs.size+1:=Heap.size_push ..
 have z2:(OW s.heap t l).objs.size=s.heap.objs.size+2:=by rw[Heap.size_push,z1]
 have z3:(O6 s.heap t l).objs.size=s.heap.objs.size+3:=by rw[Heap.size_push,z2]
 have z4:(OS s.heap t l).objs.size=s.heap.objs.size+4:=by rw[Heap.size_push,z3]
 have g5:(Jx s.heap t l).get? (OS s.heap t l).objs.size=some _:=Heap.get?_push_size _ rfl
 have g4:(Jx s.heap t l).get? (O6 s.heap t l).objs.size=some _:=Heap.get?_push_of_some _ (Heap.get?_push_size _ rfl)
 have g3:(Jx s.heap t l).get? (OW s.heap t l).objs.size=some _:=Heap.get?_push_of_some _ (Heap.get?_push_of_some _ (Heap.get?_push_size _ rfl))
 have g2:(Jx s.heap t l).get? (O1 s.heap t).objs.size=some _:=Heap.get?_push_of_some _ (Heap.get?_push_of_some _ (Heap.get?_push_of_some _ (Heap.get?_push_size _ rfl)))
 have g1:(Jx s.heap t l).get? s.heap.objs.size=some _:=Heap.get?_push_of_some _ (Heap.get?_push_of_some _ (Heap.get?_push_of_some _ (Heap.get?_push_of_some _ (Heap.get?_push_size _ rfl))))
 show _∧_
 rw[z2,z3,z4]at g5
 rw[z1,z2]at g3
 rw[z3]at g4
 rw[z1]at g2
 rw[z4]
 have up:∀c o,s.heap.get? c=some o→(Jx s.heap t l).get? c=some o:=fun c o x=>Heap.get?_push_of_some _ (Heap.get?_push_of_some _ (Heap.get?_push_of_some _ (Heap.get?_push_of_some _ (Heap.get?_push_of_some _ x))))
 exact⟨⟨_,g5,rfl⟩,h _ ⟨g5,g3,⟨_,_,g4⟩,⟨_,g1,rfl,rfl⟩,⟨_,g2,rfl,rfl⟩,ht.at fun o e=>up _ o e,hl.at fun o e=>up _ o e⟩ up⟩
end
section
variable {prog:Program}{w:World}{T:Nat→V}{base:Heap}{c:ck}{K:Frag}{E:Ev}{n:Nat}
theorem Ae{vs:List V}:∀(us:List V) (j:Nat) (v u:V),vs[j]?=some v→us[j]?=some u→(F5 vs us)[j]?=some (v,u):=by
  induction vs with
  |nil=>exact fun _ _ _ _ h _=>nomatch h
  | cons a r ih=>
    intro us j v u h g
    cases us with
    |nil=>exact nomatch g
    | cons b q=>cases j with
      |zero=>rw[←ae h,←ae g];rfl
      |succ j=>exact ih q j v u h g
theorem Ef{vs:List V}:∀{us:List V},vs.length=us.length→(F5 vs us).length=vs.length:=by
  induction vs with
  |nil=>exact fun _=>rfl
  | cons _ r ih=>intro us h;cases us with
    |nil=>cases h
    |cons _ q=>exact congrArg (·+1) (ih (Nat.succ.inj h))
theorem JK{q t l:Nat}(h1:t < q)(h2:l < q):ZipApart (q+4) (q+2) (q+3) q (q+1) t l:=by
 have k:∀a b:Nat,a≠b→@Ne Addr a b:=fun _ _ h=>h
 constructor <;> refine k _ _ ?_ <;> lia
theorem Jb(G:aI prog w T c K base)(S:de prog w T base c.R E n){cx:Cx}{x y:Str}{px py cp tp:Pos}{tk:Nat}{as:List Expr}{body:List Stmt}{σ:Mine.St}{Q:Fl→Mine.St→Prop}{H:HP}{ρ:List Addr}{frs:aJ}{s:Shared}{Q':Flow→Shared→Prop}{EE:Value→Shared→Prop}(O:cx.Ok n)
  (hx:bB cx.sc x=true) (hy:bB cx.sc y=true) (hp:bb dj as=true) (h:DF E x y as body cx.sc σ Q) (N:az (pm w T) base cx H ρ σ frs s.heap) (X:eY prog w base c.R cx frs H s EE) (a:jg w T base cx frs H ρ s Q Q') :
  wpAny (model prog w) cx.A (callWith cp (.type "zip") [] (backTo cp (starEach as cx.env)) []) (fun xv s₁=>wpAny (model prog w) cx.A (pyIter xv) (fun it s₂=>codeAny (model prog w) cx.A (.forLoop (.Tuple [.Name x px,.Name y py] tk tp) it body [] cx.env) (fun r s'=>match r with|.ok f=>Q' f s'|.error e=>cameBackBy (model prog w) cx.A cx.env EE e s') s₂) EE s₁) EE s:=by
 refine DN G S O hp (.inr (.inr ⟨_,rfl⟩)) h N X fun vs rs σ₁ H₁ ρ₁ s₁ N₁ L₁ R₁ h₁=>aB h₁ fun q eq h₁=>aB h₁ fun vs et h₁=>aB h₁ fun p eo h₁=>a8 h₁ fun hb h₁=>R₁.c2 eq fun r₁ r₂ Rt R₁ er=>Rt.cT et fun ts at_ t1 t2 er₁=>lS N₁ R₁ eo fun ax rs k H₂ er₂ hax N₂ L₂ hH hvs=>?_
 have hvu:=Nat.eq_of_beq_eq_true (d3 hb).1
 rw[er,er₁,er₂]
 have hat:s₁.heap.get? at_=some (eO ts):=N₁.frzAt t1
 have hl:ts.toArray.size=vs.length:=by rw[List.size_toArray];exact(aN t2).symm
 have hl':rs.toArray.size=p.1.length:=by rw[List.size_toArray];exact(aN hvs).symm
 refine tW (t:=at_) (l:=ax) (xs:=ts.toArray) (ys:=rs.toArray) ⟨_,hat,rfl,_,rfl⟩ ⟨_,hax,rfl,_,rfl⟩ fun h' Z g4=>?_
 (with_reducible refine wpAny_pyIter_zip Z.z ?_)
 have W:=G9 (prog:=prog) (w:=w) O.handled _ _ _ _ _ at_ ax (JK (Heap.lt_size hat) (Heap.lt_size hax)) ts.toArray rs.toArray (by rw[hl,hl',hvu])
 rw[hl,←Ef hvu]at W
 refine iB Z.TO fun aO bO hTO=>?_
 refine aq Z.i1 fun o1 ho1 ho1'=>?_
 refine aq Z.i2 fun o2 ho2 ho2'=>?_
 have fr (k:Nat):s₁.heap.get? (s₁.heap.objs.size+k)=none:=Heap.get?_none_of_le (Nat.le_add_right _ _)
 have N₃:az (pm w T) base cx H₂ ρ₁ ⟨σ₁.fm,p.2⟩ (pl [(s₁.heap.objs.size+4,_),(s₁.heap.objs.size+2,_),(s₁.heap.objs.size+3,_),(s₁.heap.objs.size,o1),(s₁.heap.objs.size+1,o2)]++frs) h':=
  N₂.enters (l:=[(s₁.heap.objs.size+4,_),(s₁.heap.objs.size+2,_),(s₁.heap.objs.size+3,_),(s₁.heap.objs.size,o1),(s₁.heap.objs.size+1,o2)]) g4 (Tc _)
   (List.forall_mem_cons.mpr ⟨⟨fr 4,Z.z⟩,List.forall_mem_cons.mpr ⟨⟨fr 2,Z.TI⟩,List.forall_mem_cons.mpr ⟨⟨fr 3,hTO⟩,List.forall_mem_cons.mpr ⟨⟨fr 0,ho1⟩,List.forall_mem_cons.mpr ⟨⟨fr 1,ho2⟩,fun _ m=>absurd m List.not_mem_nil⟩⟩⟩⟩⟩)
 have L₃:aH base H ρ s H₂ ρ₁ {s₁ with heap:=h'}:=(L₁.trans L₂).trans ⟨fun _ _ e=>e,fun _ _ e=>.inl e,.refl,rfl,rfl,rfl⟩
 refine xi (s:={s₁ with heap:=h'}) S O W (l:=[(s₁.heap.objs.size+4,_),(s₁.heap.objs.size+2,_),(s₁.heap.objs.size+3,_),(s₁.heap.objs.size,o1),(s₁.heap.objs.size+1,o2)]) (fun b hb=>?_) (M8 _ _ _ _ _ []) (fun i vals hi hv=>?_) (fun i h st=>?_) hx hy h₁ Z N₃ N₂.home (X.later L₃) fun fl r σ' H' ρ' s' N' L' R' q=>a fl r σ' H' ρ' s' N' (L₃.trans L') R' q
 ·refine(List.mem_append.mp (show b∈[s₁.heap.objs.size+4,s₁.heap.objs.size+2,s₁.heap.objs.size+3,s₁.heap.objs.size,s₁.heap.objs.size+1]++[at_,ax]from hb)).elim .inl fun hb=>.inr ((List.mem_cons.mp hb).elim (fun e=>⟨_,e▸L₂.le _ _ t1⟩) fun hb=>⟨_,(List.mem_singleton.mp hb)▸hH⟩)
 ·refine c9 hv fun x0 y0 e1 e2 rq4=>?_;subst rq4
  rw[List.getElem?_toArray]at e1 e2
  refine aq (fC t2 e1) fun u1 e3 R1=>?_
  refine aq (fC hvs e2) fun u2 e4 R2=>?_
  exact⟨_,_,(u1,u2),rfl,Ae p.1 i u1 u2 e3 e4,R1.mono L₂.le L₂.grows,R2⟩
 ·exact List.forall_mem_cons.mpr ⟨⟨_,st.z⟩,List.forall_mem_cons.mpr ⟨⟨_,st.TI⟩,List.forall_mem_cons.mpr ⟨let ⟨_,_,e⟩:=st.TO;⟨_,e⟩,List.forall_mem_cons.mpr ⟨st.i1.imp fun _ e=>e.1,List.forall_mem_cons.mpr ⟨st.i2.imp fun _ e=>e.1,fun _ m=>absurd m List.not_mem_nil⟩⟩⟩⟩⟩
end
end
section
section
variable {prog:Program}{w:World}{T:Nat→V}{base:Heap}{c:ck}{K:Frag}{E:Ev}{n:Nat}
theorem j3{e:Expr}(h:bT e=true){ts:List Expr}{k l:Nat}{tp:Pos}{env:Env}:swapsWithSole [.Tuple ts k tp] e l env=pure false:=by
 exact mV (b:=bT e) (by cases e <;> first|rfl|trivial) h
noncomputable def ft(sc:Scope)(l:Nat)(e:Expr):Option Str:=match e with
 |.Name id pos=>if sc.names.lookup id==some .local&&pos.line==l then some id else none
 |_=>none
theorem zp{sc:Scope}{l:Nat}{t:Expr}(h:gA t=true):ft sc l t=none:=mV (b:=gA t) (by cases t <;> first|rfl|trivial) h
theorem yF{sc:Scope}{l:Nat}{ts:List Expr}(h:dy gA ts=true):(ts.filterMap (ft sc l)).length < ts.length:=by
  induction ts with
  |nil=>cases h
  | cons t r ih=>
    have h:(match gA t with|true=>true|false=>dy gA r)=true:=h
    cases q:gA t with
    |true=>rw[List.filterMap_cons,zp q];exact Nat.lt_succ_of_le (List.length_filterMap_le ..)
    | false=>
      rw[q]at h
      rw[List.filterMap_cons]
      cases ft sc l t with
      |none=>exact Nat.lt_succ_of_lt (ih h)
      |some _=>exact Nat.succ_lt_succ (ih h)
theorem u9{sc:Scope}{l:Nat}{ts:List Expr}:∀{names:List Str},jG ts=some names→bb (eJ sc) ts=true→jB l ts=true→ts.filterMap (ft sc l)=names:=by
  induction ts with
  |nil=>exact fun h _ _=>ae h
  | cons t r ih=>
    intro names h h2 h3
    refine au h fun p ep h=>au h fun l' e h=>gy h3 fun hl h3=>?_
    refine a7 (a9 h2) fun g1 g2=>?_
    have g1:oX (dX t) (fun p=>iU sc p.1) (t9 t)=true:=g1
    rw[ep]at g1
    have et:=dc ep
    rw[et]at hl
    have hl:p.2.line=l:=Nat.eq_of_beq_eq_true hl
    have q:ft sc l t=some p.1:=by
      rw[et]
      show(if(sc.names.lookup p.1==some .local&&p.2.line==l)=true then some p.1 else none)=some p.1
      rw[(z9 g1).1,hl,beq_self_eq_true l,Bool.and_true];rfl
    rw[List.filterMap_cons,q,←ae h,ih e g2 h3]
theorem kA{ts:List Expr}:∀{names:List Str},jG ts=some names→names.length=ts.length:=by
 induction ts with
 |nil=>exact fun h=>ae h▸rfl
 |cons t r ih=>exact fun h=>au h fun p _ h=>au h fun l e h=>ae h▸congrArg (·+1) (ih e)
theorem xg{G:Prop}{ts:List Expr}{e:Expr}{sc:Scope}{x:Option (List Str)}(h:oQ ts e sc=some x)(k0:pW e=none→x=none→G)(k1:∀vs,pW e=some vs→x=none→dy gA ts=true→G)(k2:∀vs,pW e=some vs→x=none→vs.all (foldedForSure 8)=true→G)
  (k3:∀vs names,pW e=some vs→vs.all (foldedForSure 8)=false→vs.all (constantsAlone 8)=false→jG ts=some names→DG ts vs sc names=some x→G):G:=
 cP h (fun vs e h=>gK h (fun a h=>k1 vs e (ae h).symm a) fun _ h=>gK h (fun a h=>k2 vs e (ae h).symm a) fun a h=>gK h (fun _ h=>nomatch h) fun b h=>au h fun names en h=>k3 vs names e a b en h) fun e h=>k0 e (ae h).symm
theorem wx{G:Prop}{ts vs:List Expr}{sc:Scope}{names:List Str}{x:Option (List Str)}(h:DG ts vs sc names=some x)(k:bb (eJ sc) ts=true→jB ((ts.head?.map (·.pos.line)).getD 0) ts=true→bb dj vs=true→vs.length=ts.length→names.eraseDups.length=names.length→
  ((ts.length==2||ts.length==3)=true∧x=some names∨(ts.length==2||ts.length==3)=false∧x=none)→G):G:=
 bQ h fun a h=>ar a fun a b=>ar a fun a1 a2=>ar b fun b c=>ar c fun c d=>k a1 a2 b (Nat.eq_of_beq_eq_true c) (Nat.eq_of_beq_eq_true d) (gK h
  (fun e h=>.inl ⟨by cases q:Nat.beq ts.length 2 with
   |true=>rw[Nat.eq_of_beq_eq_true q];rfl
   |false=>rw[q]at e;rw[Nat.eq_of_beq_eq_true e];rfl,(ae h).symm⟩)
  (fun e h=>.inr ⟨by cases q:Nat.beq ts.length 2 with
   |true=>rw[q]at e;cases e
   |false=>rw[q]at e;rw[beq_eq_false_iff_ne.mpr (Nat.ne_of_beq_eq_false q),beq_eq_false_iff_ne.mpr (Nat.ne_of_beq_eq_false e)];rfl,(ae h).symm⟩))
theorem yA{ts:List Expr}{e:Expr}{sc:Scope}{names:List Str}(h:oQ ts e sc=some (some names)):names.length=ts.length:=
 xg h (fun _ e=>nomatch e) (fun _ _ e=>nomatch e) (fun _ _ e=>nomatch e) fun vs nms _ _ _ en h=>wx h fun _ _ _ _ _ q=>q.elim (fun q=>ae q.2▸kA en) fun q=>nomatch q.2
theorem jt{α:Type}{c:Prop}[Decidable c]{a b:α}(h:b=a):(if c then a else b)=a:=by by_cases q:c;rw[if_pos q];rw[if_neg q,h]
theorem Hl{l:List Expr}(h:bb dj l=true):(l.any fun|.Starred .. => true|_=>false)=false:=by
  show l.any il=false
  induction l with
  |nil=>rfl
  | cons y r ih=>
    refine a7 (a9 h) fun q1 q2=>?_
    rw[List.any_cons,ih q2,dH q1];rfl
theorem pR{cx:Cx}{n:Nat}(O:cx.Ok n):cx.env.blockKind=.function:=by
 show(if cx.sc.kind.isAnnotationScope then ScopeKind.function else cx.sc.kind)=.function
 rw[O.kind];rfl
theorem xR {cx:Cx} {n:Nat} (O:cx.Ok n) {ts:List Expr} {e:Expr} {k:Nat} {tp:Pos} {x:Option (List Str)} (h:oQ ts e cx.sc=some x):swappedStores [.Tuple ts k tp] e cx.env=pure x:=by
  have key (vs:List Expr) (kk:Nat) (pp:Pos):swappedStores [.Tuple ts k tp] (.Tuple vs kk pp) cx.env =
        (if(!(ts.length==2||ts.length==3)||vs.length != ts.length||cx.env.blockKind != .function)=true then pure none
        else if(vs.any (fun|.Starred .. => true|_=>false))=true then pure none
        else if((ts.filterMap (ft cx.sc ((ts.head?.map (·.pos.line)).getD 0))).length != ts.length||(ts.filterMap (ft cx.sc ((ts.head?.map (·.pos.line)).getD 0))).eraseDups.length != (ts.filterMap (ft cx.sc ((ts.head?.map (·.pos.line)).getD 0))).length)=true then pure none
          else if(vs.all (foldedForSure 8))=true then pure none
          else if(vs.all (constantsAlone 8))=true then(do unsupported "assign.tuple-of-constant-expressions:order-of-the-stores";return some (ts.filterMap (ft cx.sc ((ts.head?.map (·.pos.line)).getD 0))))
          else pure (some (ts.filterMap (ft cx.sc ((ts.head?.map (·.pos.line)).getD 0))))):=rfl
  refine xg h (fun e0 ex=>?_) (fun vs e0 ex ha=>?_) (fun vs e0 ex hf=>?_) fun vs names e0 hf hc e1 h=>wx h fun g1 g2 g3 hvl g5 q=>?_
  · rw[ex]
    exact mV (b:=k9 (pW e)) (by cases e <;> first|rfl|trivial) (by rw[e0];rfl)
  · refine iB (pX e0) fun kk pp e0=>?_
    rw[e0,ex,key]
    exact jt (jt (if_pos (by rw[bne_iff_ne.mpr (Nat.ne_of_lt (yF ha))];rfl)))
  · refine iB (pX e0) fun kk pp e0=>?_
    rw[e0,ex,key]
    exact jt (jt (jt (if_pos hf)))
  · refine iB (pX e0) fun kk pp e0=>?_
    rw[e0,key]
    refine q.elim (fun⟨q,ex⟩=>?_) fun⟨q,ex⟩=>?_
    · have hlen:=kA e1
      rw[u9 e1 g1 g2,q,hvl,pR O,Hl g3,hlen,g5,hlen,hf,hc,ex]
      simp only [bne_self_eq_false,Bool.not_true,Bool.or_self,Bool.false_eq_true,if_false]
    · rw[q,ex,if_pos (by rfl)]
theorem nE{sc:Scope}{env:Env}{ts:List Expr}(h:bb (eJ sc) ts=true):assignEach ts env=ts.map fun t=>(false,assign t env):=by
  induction ts with
  |nil=>rfl
  | cons t r ih=>
    refine a7 (a9 h) fun h1 h2=>?_
    rw[List.map_cons,←ih h2]
    exact mV (b:=eJ sc t) (by cases t <;> first|rfl|(show bX (iU sc _) _ True;cases iU sc _ <;> first|rfl|trivial)|trivial) h1
theorem iG{A:Around}{EE:Value→Shared→Prop}{s:Shared}{env:Env}{o:Expr}{name:Str}{pos:Pos}{v:Value}{Q:Unit→Shared→Prop}(h:wpAny (model prog w) A (eval o env) (fun ov s₂=>wpAny (model prog w) A (setAttr ov name v) Q EE s₂) EE s) :
  wpAny (model prog w) A (assign (.Attribute o name pos) env v) Q EE s:=fun Γ p hΓ=>by
 simp only [assign_Attribute,Sem.wp_bind',Sem.wp_holding,Sem.wp_cmd_standAt,Sem.wp_release,Sem.wp_pure']
 exact Sem.wp_mono (model prog w) Γ _ (fun ov _ s₂ h₂=>h₂ Γ _ hΓ) (fun _ _ _ h'=>h') _ _ (h Γ _ hΓ)
theorem fq{sc:Scope}{x:Str}(h:iU sc x=true):bB sc x=true:=by
 refine a7 (d3 h) fun a b=>?_
 show oB (lk x sc.names) _=true
 rw[gU a]
 exact b
theorem vK (G:aI prog w T c K base) (S:de prog w T base c.R E n) {cx:Cx} (O:cx.Ok n) {Q':Unit→Shared→Prop} {EE:Value→Shared→Prop} {frs:aJ} (ts:List Expr):∀(vs:List V) (rs:List Value) (σ:St) (Kq:St→Prop) (H:HP) (ρ:List Addr) (s:Shared),
    jy c E cx.sc ts vs σ Kq→ai (pm w T) H ρ vs rs→az (pm w T) base cx H ρ σ frs s.heap→eY prog w base c.R cx frs H s EE→
    (∀σ' H' ρ' s',az (pm w T) base cx H' ρ' σ' frs s'.heap→aH base H ρ s H' ρ' s'→Kq σ'→Q' () s')→wpAny (model prog w) cx.A (assignInOrder (ts.map fun t=>assign t cx.env) rs) Q' EE s:=by
  induction ts with
  |nil=>exact fun vs rs σ Kq H ρ s h hv N X a=>a8 h fun e h=>(bU e▸hv).nil' fun e=>e▸wpAny_pure (a _ _ _ _ N .refl h)
  | cons t ts ih=>
    intro vs rs σ Kq H ρ s h hv N X a
    cases vs with
    |nil=>exact h.elim
    | cons v vs=>
      refine hv.cons' fun r rs' hr hv er=>?_
      rw[er]
      show wpAny (model prog w) cx.A (do holding rs' (assign t cx.env r);assignInOrder (ts.map fun t=>assign t cx.env) rs') Q' EE s
      refine wpAny_bind (wpAny_holding ?_)
      refine du h (fun p ep h=>a8 h fun hx h=>?_) fun _ h=>aB h fun p ep h=>?_
      · rw[dc ep]
        (with_reducible refine wpAny_assign_Name ?_)
        refine eU O N (fq hx) hr fun h' tk N'=>?_
        exact ih vs rs' ⟨put p.1 v σ.fm,σ.ob⟩ Kq H ρ _ h hv N' (X.later (H:=H) (ρ:=ρ) .heap) fun σ' H' ρ' s' N' L' k=>a σ' H' ρ' s' N' (aH.trans .heap L') k
      · rw[xy ep]
        refine iG ?_
        refine S.ex cx _ _ _ O h _ _ _ _ _ _ N X fun v₁ r₁ σ₁ H₁ ρ₁ s₁ N₁ L₁ R₁ h₁=>?_
        refine Dx G N₁ R₁ (hr.mono L₁.le L₁.grows) h₁ fun σ₂ s₂ N₂ L₂ h₂=>?_
        exact ih vs rs' σ₂ Kq H₁ ρ₁ s₂ h₂ (hv.mono L₁.le L₁.grows) N₂ (X.later (L₁.trans L₂)) fun σ' H' ρ' s' N' L' k=>a σ' H' ρ' s' N' ((L₁.trans L₂).trans L') k
theorem ua{cx:Cx}{m:Nat}(O:cx.Ok m){R:Addr→Prop}{Q':Unit→Shared→Prop}{EE:Value→Shared→Prop}{frs:aJ}(ts:List Str):∀(vs:List V) (rs:List Value) (σ:St) (Kq:St→Prop) (H:HP) (ρ:List Addr) (s:Shared),
    lD cx.sc ts vs σ Kq→ai (pm w T) H ρ vs rs→az (pm w T) base cx H ρ σ frs s.heap→eY prog w base R cx frs H s EE→
    (∀σ' H' ρ' s',az (pm w T) base cx H' ρ' σ' frs s'.heap→aH base H ρ s H' ρ' s'→Kq σ'→Q' () s')→wpAny (model prog w) cx.A (assignInOrder (ts.map fun t=>bindName cx.env t) rs) Q' EE s:=by
  induction ts with
  |nil=>exact fun vs rs σ Kq H ρ s h hv N X a=>a8 h fun e h=>(bU e▸hv).nil' fun e=>e▸wpAny_pure (a _ _ _ _ N .refl h)
  | cons x ts ih=>
    intro vs rs σ Kq H ρ s h hv N X a
    cases vs with
    |nil=>exact h.elim
    | cons v vs=>
      refine hv.cons' fun r rs' hr hv er=>a8 h fun hx h=>?_
      rw[er]
      show wpAny (model prog w) cx.A (do holding rs' (bindName cx.env x r);assignInOrder (ts.map fun t=>bindName cx.env t) rs') Q' EE s
      refine wpAny_bind (wpAny_holding ?_)
      (with_reducible refine bindName_ ?_)
      refine eU O N (fq hx) hr fun h' tk N'=>?_
      exact ih vs rs' ⟨put x v σ.fm,σ.ob⟩ Kq H ρ _ h hv N' (X.later (H:=H) (ρ:=ρ) .heap) fun σ' H' ρ' s' N' L' k=>a σ' H' ρ' s' N' (aH.trans .heap L') k
theorem yw{P:Pm}{H:HP}{ρ:List Addr}{vs:List V}{rs:List Value}(h:ai P H ρ vs rs):ai P H ρ vs.reverse rs.reverse:=
 ai.ind (M:=fun vs rs=>ai P H ρ vs.reverse rs.reverse) .nil (fun v r vs rs a _ ih=>by rw[List.reverse_cons,List.reverse_cons];exact ie ih (.cons a .nil)) h
theorem oJ{h h':Heap}(he:Heap.ExtBut h.objs.size h h'):∀b o,h.get? b=some o→h'.get? b=some o:=fun b o e=>he b o (Nat.ne_of_lt (Heap.lt_size e)) e
noncomputable def LN(T:Nat→V)(w:World)(base:Heap)(c:ck)(E:Ev)(cx:Cx)(frs:aJ)(H:HP)(ρ:List Addr)(s:Shared)(ts:List Expr)(K:List V→St→Prop)(v:Value)(s₁:Shared):Prop:=
 ∃ad rs vs σ₁ H₁ ρ₁,v=.ref ad∧IsTup s₁.heap ad rs.toArray∧ai (pm w T) H₁ ρ₁ vs rs∧az (pm w T) base cx H₁ ρ₁ σ₁ frs s₁.heap∧aH base H ρ s H₁ ρ₁ s₁∧rs.length=ts.length∧K vs σ₁
theorem Ct(G:aI prog w T c K base)(S:de prog w T base c.R E n){cx:Cx}{ts:List Expr}{k:Nat}{tp p:Pos}{e:Expr}{σ:St}{Q:Fl→St→Prop}{H:HP}{ρ:List Addr}{frs:aJ}{s:Shared}{Q':Flow→Shared→Prop}{EE:Value→Shared→Prop}(O:cx.Ok (n+1))
    (hp:bT e=true) (b2:bb (eJ cx.sc) ts=true) (h:(E.ex e cx.sc).run σ fun v σ₁=>oP (vT v) fun vs=>Dj c E ts e cx.sc vs σ₁ Q) (N:az (pm w T) base cx H ρ σ frs s.heap) (X:eY prog w base c.R cx frs H s EE) (a:jg w T base cx frs H ρ s Q Q') :
    wpAny (model prog w) cx.A (exec (.Assign [.Tuple ts k tp] e p) cx.env) Q' EE s:=by
  have O':=O.less
  have main:wpAny (model prog w) cx.A (eval e cx.env) (LN T w base c E cx frs H ρ s ts fun vs σ₁=>oP (oQ ts e cx.sc) fun o=>oE o (fun names=>lD cx.sc names.reverse vs.reverse σ₁ fun σ₂=>Q .next σ₂) (jy c E cx.sc ts vs σ₁ fun σ₂=>Q .next σ₂)) EE s:=by
    refine S.ex cx _ _ _ O' h _ _ _ _ _ _ N X fun v₁ r₁ σ₁ H₁ ρ₁ s₁ N₁ L₁ R₁ h₁=>aB h₁ fun vs ev h₁=>a8 h₁ fun b1 h₁=>R₁.cT ev fun rs ad t1 t2 er=>?_
    exact⟨ad,rs,vs,σ₁,H₁,ρ₁,er,⟨_,N₁.frzAt t1,rfl,_,rfl⟩,t2,N₁,L₁,by rw[←aN t2];exact Nat.eq_of_beq_eq_true b1,h₁⟩
  cases hk:oQ ts e cx.sc with
  | none=>
    rw[hk]at main
    rw[exec_Assign]
    refine wpAny_bind (wpAny_standAt ?_)
    rw[j3 hp]
    refine wpAny_bind (wpAny_pure ?_)
    rw[if_neg (by decide)]
    refine wpAny_bind (wpAny_mono main (fun v s₁ h₁=>cps fun G' _=>?_) fun _ _ x=>x)
    obtain⟨ad,rs,vs,σ₁,H₁,ρ₁,er,ht,hv,N₁,L₁,hl,h₂⟩:=h₁
    exact h₂.elim
  | some x=>
    rw[hk]at main
    cases x with
    | none=>
      refine Assign_Tuple (wpAny_mono main (fun v s₁ h₁=>cps fun G' kk=>?_) fun _ _ z=>z) (j3 hp) (xR O hk)
      obtain⟨ad,rs,vs,σ₁,H₁,ρ₁,er,ht,hv,N₁,L₁,hl,h₂⟩:=h₁
      have ea:=nE (env:=cx.env) b2
      refine kk ?_
      rw[er]
      refine assign_Tuple_tuple O.handled ht (by rw[ea,List.length_map,List.size_toArray,hl]) (by rw[ea];exact List.findIdx?_eq_none_iff.mpr fun x hx=>by obtain⟨t,_,e⟩:=List.mem_map.mp hx;rw[←e]) fun h' he=>?_
      rw[ea,List.map_map]
      exact vK G S O' ts vs rs σ₁ _ H₁ ρ₁ _ h₂ hv (N₁.heap (oJ he)) ((X.later L₁).later (H:=H₁) (ρ:=ρ₁) .heap) fun σ' H' ρ' s' N' L' k=>a .next .next σ' H' ρ' s' N' ((L₁.trans .heap).trans L') .next k
    | some names=>
      have hnm:names.length=ts.length:=yA hk
      refine Assign_Tuple_swapped (wpAny_mono main (fun v s₁ h₁=>cps fun G' kk=>?_) fun _ _ z=>z) (j3 hp) (xR O hk)
      obtain⟨ad,rs,vs,σ₁,H₁,ρ₁,er,ht,hv,N₁,L₁,hl,h₂⟩:=h₁
      refine kk ?_
      rw[er,show names.length=rs.toArray.size by rw[hnm,←hl,List.size_toArray]]
      refine unpackItems_tuple O.handled ht fun h' he=>?_
      exact ua O' names.reverse vs.reverse rs.reverse σ₁ _ H₁ ρ₁ _ h₂ (yw hv) (N₁.heap (oJ he)) ((X.later L₁).later (H:=H₁) (ρ:=ρ₁) .heap) fun σ' H' ρ' s' N' L' k=>a .next .next σ' H' ρ' s' N' ((L₁.trans .heap).trans L') .next k
theorem eW{cx:Cx}{m:Nat}{frs:aJ}{f mc:bG}(O:cx.Ok m)(h:bH cx.outer frs)(hs:cx.L0=cx.L∨∃φ,(cx.L0,φ)∈frs∧cy φ):bH (cx.fenv::cx.outer) ((cx.L,aK f)::(aC cx.cs mc++frs)):=by
 refine⟨fun env he=>?_,fun q hq=>.tail _ (List.mem_append_right _ (h.2 q hq))⟩
 rcases List.mem_cons.mp he with rfl|he
 ·refine⟨by show cx.sc0.kind≠.module;rw[O.kind0];decide,?_⟩
  rcases hs with hs|⟨φ,h1,h2⟩
  ·exact⟨cx.L0,aK f,rfl,by rw[hs];exact .head _,gS⟩
  ·exact⟨cx.L0,φ,rfl,.tail _ (List.mem_append_right _ h1),h2⟩
 ·obtain⟨h1,L,φ,h2,h3,h4⟩:=h.1 env he
  exact⟨h1,L,φ,h2,.tail _ (List.mem_append_right _ h3),h4⟩
theorem qg{P:Pm}{H:HP}{ρ:List Addr}{frs:aJ}{ob:Tr}{h:Heap}(I:aM P base H ρ frs ob h){l:List Env}(O:bH l frs):h.FunFrames base l:=by
  induction l with
  |nil=>trivial
  | cons env r ih=>
    obtain⟨h1,L,φ,h2,h3,h4⟩:=O.1 env (.head _)
    refine aq (I.frNs _ h3) fun o ho hφ=>?_
    exact⟨h1,⟨L,o,h2,(I.frNew _ h3).1,ho,h4.nf _ o hφ⟩,ih ⟨fun e he=>O.1 e (.tail _ he),O.2⟩⟩
noncomputable abbrev eQ(l:List Env):List Addr:=l.filterMap (·.frame)
theorem qM{l:List Env}{env:Env}{L:Addr}(h:env∈l)(e:env.frame=some L):L∈eQ l:=List.mem_filterMap.mpr ⟨env,h,e⟩
theorem oH{frs:aJ}(hd:(frs.map (·.1)).Nodup){p q:Addr×Fp}(hp:p∈frs)(hq:q∈frs)(e:p.1=q.1):p=q:=by
  induction frs with
  |nil=>cases hp
  | cons r frs ih=>
    rw[List.map_cons,List.nodup_cons]at hd
    rcases List.mem_cons.mp hp with e1|h1
    · rcases List.mem_cons.mp hq with e2|h2
      · rw[e1,e2]
      · exact absurd (List.mem_map.mpr ⟨q,h2,by rw[←e,e1]⟩) hd.1
    · rcases List.mem_cons.mp hq with e2|h2
      · exact absurd (List.mem_map.mpr ⟨p,h1,by rw[e,e2]⟩) hd.1
      · exact ih hd.2 h1 h2
theorem kU{l:List Env}{frs:aJ}(O:bH l frs){L:Addr}(h:L∈eQ l):∃φ,(L,φ)∈frs∧cy φ:=by
 refine aq (List.mem_filterMap.mp h) fun env he hL=>?_
 obtain⟨_,L',φ,h2,h3,h4⟩:=O.1 env he
 rw[h2]at hL
 cases hL
 exact⟨φ,h3,h4⟩
theorem uA{P:Pm}{H:HP}{ρ:List Addr}{frs:aJ}{ob:Tr}{h h':Heap}{l:List Env}{R:Addr→Prop}{C e:Addr}{a0:Value}(I:aM P base H ρ frs ob h)(O:bH l frs)(hR:R C)(hk:∀b o,h.get? b=some o→h'.get? b=some o)(hf:h.get? e=none)
  (he:∃oe vs,h'.get? e=some oe∧oe.cls=.ref C∧oe.data=.fields vs∧vs[0]?=some a0∧vs[1]?=some .none):cH base R l frs H e h':=by
 have nb:∀L∈eQ l,base.get? L=none∧∀o,¬H L o:=fun L hL=>by
  refine aq (kU O hL) fun φ h1 _=>?_
  exact I.frNew _ h1
 refine⟨hideAll h (eQ l),H,fun b o q=>hideAll_get _ (I.keep b o q) fun m=>?_,fun _ _ z=>z,fun _ _ z=>.inl z,fun a o q=>hideAll_get _ (I.frz a o q) fun m=>(nb a m).2 o q,fun p hp=>⟨?_,(I.frNew p hp).2⟩,C,a0,hR,fun b o q=>hk b o (of_hideAll _ q),?_,?_,.inl he⟩
 ·rw[(nb b m).1]at q;cases q
 ·refine aq (I.frNs p hp) fun o ho hφ=>?_
  by_cases m:p.1∈eQ l
  ·refine aq (kU O m) fun φ h1 h2=>?_
   have e:(p.1,φ)=p:=oH I.frDup h1 hp rfl
   rw[←e]at hφ ⊢
   exact .inr ⟨h2,o,hk _ _ ho,hφ⟩
  ·exact .inl ⟨o,hideAll_get _ ho m,hφ⟩
 ·cases q:(hideAll h (eQ l)).get? e with
  |none=>rfl
  |some o=>rw[of_hideAll _ q]at hf;cases hf
 ·have:=funFrames_hide (as:=eQ l) (qg I O) fun env he a ha=>qM he ha
  exact Heap.FunFrames.of_keeps (fun b o e _=>⟨o,hk _ _ e,rfl⟩) this
theorem yW{A:Around}{E:Value→Shared→Prop}{env:Env}{s:Shared}{x:Sem Value}{Q:Flow→Shared→Prop}{C:Addr}{P:OR}
  (hbase:P.bm.contains (.type "BaseException")=true) (hh:A.handled=none)
  (h:wpAny (model prog w) A x (fun v s₁=>∃e t d,v=.ref e∧s₁.heap.get? C=some (P.obj C)∧s₁.heap.get? e=some (dT C t d)∧E (.ref e) s₁) E s) :
  wpAny (model prog w) A (raiseStmt env (some x) none) Q E s:=by
 have hcB:(Value.ref C::P.bm).contains (.type "BaseException")=true:=by rw[List.contains_cons,hbase,Bool.or_true]
 unfold raiseStmt
 refine wpAny_bind (wpAny_mono h (fun v s₁ h₁=>cps fun G kk=>?_) fun _ _ x=>x)
 refine nT h₁ fun e t d ev hC he hE=>?_
 refine kk ?_
 rw[ev]
 obtain⟨hp,g,d',tk,os⟩:=s₁
 repeat (first|with_reducible refine wpAny_loadPart_at he ?_|with_reducible refine wpAny_loadPart_at hC ?_|(with_reducible refine wpAny_isSubtype_exc hC ?_;rw[hcB])|wp_step)
 exact wpAny_raiseNew_none hh hE
theorem I8{e:Expr}{x:Str}(h:J1 e=some x):∃k p,e=.Constant (.str x) k p:=by
 have q:oX (J1 e) (fun x=>∃k p,e=.Constant (.str x) k p) True:=by
  cases e with
  |Constant k=>cases k <;> first|exact⟨_,_,rfl⟩|trivial
  |_=>trivial
 rw[h]at q;exact q
theorem DX{e:Expr}{p}(h:BN e=some p):∃np kp kk cpos,e=.Call (.Name p.1 np) [.Constant (.str p.2) kp kk] [] cpos:=
 au h fun q eq h=>au h fun a ea h=>au h fun x ex h=>by
  refine bz (lO eq) fun pos e1=>?_
  refine iB (I8 ex) fun k p' e2=>?_
  exact⟨q.2.1,k,p',pos,by rw[e1,D4 ea,e2,←ae h]⟩
theorem ED{x:Str}{D:Addr}(h:OT c x=some D):c.G x=some (.glob D):=au h fun v e h=>by rw[e,Np h]
theorem x9(G:aI prog w T c K base){cx:Cx}{x str:Str}{np kk cpos p:Pos}{kp:Nat}{σ:St}{Q:Fl→St→Prop}{H:HP}{ρ:List Addr}{frs:aJ}{s:Shared}{Q':Flow→Shared→Prop}{EE:Value→Shared→Prop}(O:cx.Ok (n+1))
  (h:(Al c x str cx.sc).run σ Q) (N:az (pm w T) base cx H ρ σ frs s.heap) (X:eY prog w base c.R cx frs H s EE) :
  wpAny (model prog w) cx.A (exec (.Raise (some (.Call (.Name x np) [.Constant (.str str) kp kk] [] cpos)) none p) cx.env) Q' EE s:=by
 refine g9 h fun hb h=>ar hb fun hg hs=>i9 h fun C eX h=>i9 h fun D eG h=>g9 h fun eCD hR=>?_
 have eG:=ED eG
 rw[←Nat.eq_of_beq_eq_true eCD]at eG
 have hR:c.R C:=hR
 refine a7 (hB hg) fun g1 g2=>?_
 refine aW N.inv fun m mc I F=>?_
 have Xc:=G.xc x C eX
 refine aq Xc.cls fun P hC hbase=>?_
 show wpAny (model prog w) cx.A (do standAt p;raiseStmt cx.env (some (do let v ←eval (.Call (.Name x np) [.Constant (.str str) kp kk] [] cpos) cx.env;standAt p;pure v)) none) Q' EE s
 refine wpAny_bind (wpAny_standAt (yW (C:=C) (P:=P) hbase O.handled (wpAny_bind ?_)))
 refine Call_Name rfl ?_
 have main:wpAny (model prog w) cx.A (callWith cpos (.ref C) [] (backTo cpos (starEach [.Constant (.str str) kp kk] cx.env)) []) (fun v s₁=>wpAny (model prog w) cx.A (standAt p >>= fun _=>pure v) (fun v s₁=>∃e t d,v=.ref e∧s₁.heap.get? C=some (P.obj C)∧s₁.heap.get? e=some (dT C t d)∧EE (.ref e) s₁) EE s₁) EE s:=by
  refine callWith_of (P:=K.In) rfl (fL (.inl Xc.keep)) ?_
  refine evalArgs_plain ?_
  refine spliced_more (env:=cx.env) (e:=.Constant (.str str) kp kk) (rest:=[]) ?_
  (with_reducible refine Constant_str ?_)
  refine spliced_none ⟨G.kin.keeps N.keep,?_⟩
  refine Xc.make cx.A _ str _ _ _ _ I.keep O.frames O.handled (by have:=O.depth;lia) (by have:=O.units;lia) (qj hs) fun e t' d h' tk he hf hk=>wpAny_bind (wpAny_standAt (wpAny_pure ⟨e,t',d,rfl,hk _ _ (I.keep _ _ hC),he,?_⟩))
  exact X.takes e _ rfl rfl rfl ((uA I (eW O N.outer N.self) hR hk hf ⟨_,_,he,rfl,rfl,rfl,rfl⟩).sub fun p hp=>.tail _ (List.mem_append_right _ hp))
 refine c9 G.g fun mg mb n1 n2 g3=>?_
 refine aq (g3 x _ eG) fun r hr hm=>?_
 refine(hr (pm w T) H ρ).glob' fun er=>?_
 rw[er]at hm
 have n1:=n1.keeps I.keep
 have n2:=n2.keeps I.keep
 (with_reducible refine Name_function_global ?_ ?_ ?_ g2)
 ·exact O.kind
 ·exact g1
 ·exact hm.elim (fun hm=>by with_reducible exact loadGlobal_global n1 hm main) fun⟨hm,hb⟩=>by with_reducible exact loadGlobal_builtin n1 hm n2 hb main
theorem C7(G:aI prog w T c K base){cx:Cx}{e cause:Option Expr}{p:Pos}{σ:St}{Q:Fl→St→Prop}{H:HP}{ρ:List Addr}{frs:aJ}{s:Shared}{Q':Flow→Shared→Prop}{EE:Value→Shared→Prop}(O:cx.Ok (n+1))
  (h:(Ez c e cause cx.sc).run σ Q) (N:az (pm w T) base cx H ρ σ frs s.heap) (X:eY prog w base c.R cx frs H s EE) :
  wpAny (model prog w) cx.A (exec (.Raise e cause p) cx.env) Q' EE s:=
 i9 h fun e ee h=>i9 h fun q eq h=>g9 h fun b h=>by
  refine N3 (DX eq) fun np kp kk cpos e'=>?_
  rw[ee,e',ja b]
  exact x9 G O h N X
theorem DR{t:Ti}(h:Dz t=true):t=.enumerate:=by cases t <;> first|rfl|cases h
theorem FZ{t:Ti}(h:Il t=true):t=.zip:=by cases t <;> first|rfl|cases h
theorem Gd(G:aI prog w T c K base)(S:de prog w T base c.R E n){cx:Cx}{x y:Str}{px py p tp:Pos}{tk:Nat}{iter:Expr}{body:List Stmt}{σ:St}{Q:Fl→St→Prop}{H:HP}{ρ:List Addr}{frs:aJ}{s:Shared}{Q':Flow→Shared→Prop}{EE:Value→Shared→Prop}(O:cx.Ok (n+1))
  (h:(HV E x y iter body cx.sc).run σ Q) (N:az (pm w T) base cx H ρ σ frs s.heap) (X:eY prog w base c.R cx frs H s EE) (a:jg w T base cx frs H ρ s Q Q') :
  wpAny (model prog w) cx.A (exec (.For (.Tuple [.Name x px,.Name y py] tk tp) iter body [] p) cx.env) Q' EE s:=by
 have O':=O.less
 refine g9 h fun hb h=>ar hb fun b1 b2=>ar b2 fun b2 _=>i9 h fun q eq h=>g9 h fun ha h=>?_
 have hx:bB cx.sc x=true:=fq b1
 have hy:bB cx.sc y=true:=fq b2
 refine bz (lO eq) fun pos ei=>?_
 rw[ei]
 (with_reducible refine wpAny_For ?_ (fk rfl _))
 refine Call_Name rfl ?_
 refine S.ex cx _ _ _ O' h _ _ _ _ _ _ N X fun v₁ r₁ σ₁ H₁ ρ₁ s₁ N₁ L₁ R₁ h₁=>aB h₁ fun t et h₁=>R₁.cTy et fun er=>nM h₁ (fun e h₁=>?_) fun _ h₁=>a8 h₁ fun e h₁=>?_
 ·rw[er,DR e]
  exact wpAny_mono (Hj G S O' hx hy ha h₁ N₁ (X.later L₁) fun fl r σ' H' ρ' s' N' L' R' q=>a fl r σ' H' ρ' s' N' (L₁.trans L') R' q) (fun _ _ z=>z) fun _ _ z=>z
 ·rw[er,FZ e]
  exact wpAny_mono (Jb G S O' hx hy ha h₁ N₁ (X.later L₁) fun fl r σ' H' ρ' s' N' L' R' q=>a fl r σ' H' ρ' s' N' (L₁.trans L') R' q) (fun _ _ z=>z) fun _ _ z=>z
theorem y8{e o i:Expr}(h:bT e=true){p:Pos}{k:Nat}{env:Env}:swapsWith e (some (.Subscript o i p)) k env=pure false:=by
 exact mV (b:=bT e) (by cases e <;> first|rfl|trivial) h
theorem ve(S:de prog w T base c.R E n){cx:Cx}{o i e:Expr}{p p':Pos}{σ:St}{Q:Fl→St→Prop}{H:HP}{ρ:List Addr}{frs:aJ}{s:Shared}{Q':Flow→Shared→Prop}{EE:Value→Shared→Prop}(O:cx.Ok (n+1))
  (h:(rn E o i e cx.sc).run σ Q) (N:az (pm w T) base cx H ρ σ frs s.heap) (X:eY prog w base c.R cx frs H s EE) (a:jg w T base cx frs H ρ s Q Q') :
  wpAny (model prog w) cx.A (exec (.Assign [.Subscript o i p'] e p) cx.env) Q' EE s:=by
 have O':=O.less
 refine g9 h fun hb h=>ar hb fun hp hs=>?_
 refine wpAny_Assign_Subscript ?_ (y8 hp)
 refine S.ex cx _ _ _ O' h _ _ _ _ _ _ N X fun v₁ r₁ σ₁ H₁ ρ₁ s₁ N₁ L₁ R₁ h₁=>?_
 refine S.ex cx _ _ _ O' h₁ _ _ _ _ _ _ N₁ (X.later L₁) fun v₂ r₂ σ₂ H₂ ρ₂ s₂ N₂ L₂ R₂ h₂=>?_
 refine S.ex cx _ _ _ O' h₂ _ _ _ _ _ _ N₂ ((X.later L₁).later L₂) fun v₃ r₃ σ₃ H₃ ρ₃ s₃ N₃ L₃ R₃ h₃=>?_
 exact JJ O N₃ (R₂.mono L₃.le L₃.grows) R₃ ((R₁.mono L₂.le L₂.grows).mono L₃.le L₃.grows) h₃ fun σ₄ s₄ N₄ L₄ h₄=>a .next .next σ₄ H₃ ρ₃ s₄ N₄ (((L₁.trans L₂).trans L₃).trans L₄) .next h₄
noncomputable def jV(prog:Program)(w:World)(T:Nat→V)(base:Heap)(R:Addr→Prop)(cx:Cx)(st:Stmt)(a:bw Fl):Prop:=
 ∀σ Q,a.run σ Q→∀H ρ frs s Q' EE,az (pm w T) base cx H ρ σ frs s.heap→eY prog w base R cx frs H s EE→jg w T base cx frs H ρ s Q Q'→wpAny (model prog w) cx.A (exec st cx.env) Q' EE s
theorem jV.b{R:Addr→Prop}{cx:Cx}{st:Stmt}{b:Bool}{a:bw Fl}(k:b=true→jV prog w T base R cx st a):jV prog w T base R cx st (bA b a):=fun σ Q h=>g9 h fun eb h=>k eb σ Q h
theorem jV.o{R:Addr→Prop}{cx:Cx}{st:Stmt}{α:Type}{o:Option α}{f:α→bw Fl}(k:∀x,o=some x→jV prog w T base R cx st (f x)):jV prog w T base R cx st (oA o f):=fun σ Q h=>i9 h fun x eo h=>k x eo σ Q h
theorem jV.x{R:Addr→Prop}{cx:Cx}{st:Stmt}{α:Type}{o:Option α}{f:α→bw Fl}{a:bw Fl}(k:∀x,o=some x→jV prog w T base R cx st (f x))(l:o=none→jV prog w T base R cx st a):jV prog w T base R cx st (oX o f a):=fun σ Q h=>Ig h (fun x eo h=>k x eo σ Q h) fun eo h=>l eo σ Q h
theorem FR(G:aI prog w T c K base)(S:de prog w T base c.R E n){cx:Cx}{t e:Expr}{p:Pos}(O:cx.Ok (n+1)):jV prog w T base c.R cx (.Assign [t] e p) (IS c E t e cx.sc):=by
  have O':=O.less
  cases t with
  | Name x xp=>
    refine .b fun hb=>ar hb fun hx hp=>?_
    intro σ Q h H ρ frs s Q' EE N X a
    (with_reducible refine wpAny_Assign_Name ?_ (Aw hp))
    refine S.ex cx _ _ _ O' h _ _ _ _ _ _ N X fun v₁ r₁ σ₁ H₁ ρ₁ s₁ N₁ L₁ R₁ h₁=>?_
    exact eU O N₁ hx R₁ fun h' tk N'=>a .next .next ⟨put _ _ σ₁.fm,σ₁.ob⟩ H₁ ρ₁ _ N' (L₁.trans .heap) .next h₁
  | Attribute o name xp=>
    refine .b fun hp=>?_
    intro σ Q h H ρ frs s Q' EE N X a
    refine plainObj_wpAny_Assign_Attribute ?_ (zZ hp)
    refine S.ex cx _ _ _ O' h _ _ _ _ _ _ N X fun v₁ r₁ σ₁ H₁ ρ₁ s₁ N₁ L₁ R₁ h₁=>?_
    refine S.ex cx _ _ _ O' h₁ _ _ _ _ _ _ N₁ (X.later L₁) fun v₂ r₂ σ₂ H₂ ρ₂ s₂ N₂ L₂ R₂ h₂=>?_
    exact Dx G N₂ R₂ (R₁.mono L₂.le L₂.grows) h₂ fun σ₃ s₃ N₃ L₃ h₃=>a .next .next σ₃ H₂ ρ₂ s₃ N₃ ((L₁.trans L₂).trans L₃) .next h₃
  |Subscript=>exact fun σ Q h H ρ frs s Q' EE N X a=>ve S O h N X a
  |Tuple=>exact .b fun hb=>ar hb fun b2 hp σ Q h H ρ frs s Q' EE N X a=>Ct G S O hp b2 h N X a
  |_=>exact fun _ _ h=>h.elim
theorem E6(S:de prog w T base c.R E n){cx:Cx}{e:Expr}{p:Pos}(O:cx.Ok (n+1)):jV prog w T base c.R cx (.Expr e p) (IW E e cx.sc):=by
 have O':=O.less
 refine .b fun hp=>?_
 intro σ Q h H ρ frs s Q' EE N X a
 (with_reducible refine wpAny_Expr ?_ ?_ (zO hp))
 ·refine S.ex cx _ _ _ O' h _ _ _ _ _ _ N X fun v₁ r₁ σ₁ H₁ ρ₁ s₁ N₁ L₁ R₁ h₁=>a8 h₁ fun hr h₁=>?_
  have q:=a .next .next σ₁ H₁ ρ₁ s₁ N₁ L₁ .next h₁
  clear a N X h N₁ L₁ h₁
  cases R₁ <;> first|exact q|cases hr
 ·show(cx.sc.kind==.module&&_)=false
  rw[O.kind];rfl
theorem Rp{l:List Expr}{p}(h:x2 l=some p):l=[p.1,p.2]:=by
 cases l with
 |nil=>cases h
 |cons a r=>exact au h fun d e h=>by rw[D4 e,←ae h]
theorem FA{e:Expr}{p}(h:I4 e=some p):∃a b k q,e=.Tuple [.Name p.1 a,.Name p.2 b] k q:=
 au h fun l el h=>au h fun q eq h=>au h fun a ea h=>au h fun b eb h=>by
  refine iB (pX el) fun k p' e=>?_
  exact⟨a.2,b.2,k,p',by rw[e,Rp eq,dc ea,dc eb,←ae h]⟩
theorem NR(G:aI prog w T c K base)(S:de prog w T base c.R E n){cx:Cx}{st:Stmt}(O:cx.Ok (n+1)):jV prog w T base c.R cx st (DQ c E st cx.sc):=by
  have O':=O.less
  cases st with
  | Return v p=>
    intro σ Q h H ρ frs s Q' EE N X a
    cases v with
    | none=>
      (with_reducible refine wpAny_Return_none ?_)
      exact a _ _ _ _ _ _ N .refl (.ret .none) h
    | some e=>
      (with_reducible refine wpAny_Return_some ?_)
      exact S.ex cx _ _ _ O' h _ _ _ _ _ _ N X fun v₁ r₁ σ₁ H₁ ρ₁ s₁ N₁ L₁ R₁ h₁=>a _ _ _ _ _ _ N₁ L₁ (.ret R₁) h₁
  | If=>
    intro σ Q h H ρ frs s Q' EE N X a
    (with_reducible refine wpAny_If ?_)
    refine S.tr cx _ _ _ O' h _ _ _ _ _ _ _ (.inl rfl) N X fun b σ₁ H₁ ρ₁ s₁ N₁ L₁ h₁=>?_
    cases b with
    |true=>exact S.ss cx _ _ _ O' h₁ _ _ _ _ _ _ N₁ (X.later L₁) fun f r σ₂ H₂ ρ₂ s₂ N₂ L₂ R₂ h₂=>a _ _ _ _ _ _ N₂ (L₁.trans L₂) R₂ h₂
    |false=>exact S.ss cx _ _ _ O' h₁ _ _ _ _ _ _ N₁ (X.later L₁) fun f r σ₂ H₂ ρ₂ s₂ N₂ L₂ R₂ h₂=>a _ _ _ _ _ _ N₂ (L₁.trans L₂) R₂ h₂
  |Assign=>exact .o fun t et=>by rw[D4 et];exact FR G S O
  | For=>
    refine .b fun e1=>.x (fun q eq=>.b fun hb=>ar hb fun hx hi=>?_) fun _=>.o fun q eq=>?_
    · intro σ Q h H ρ frs s Q' EE N X a
      rw[bU e1,dc eq];exact Kc S O hx hi h N X a
    · intro σ Q h H ρ frs s Q' EE N X a
      refine N3 (FA eq) fun px py k p e=>?_
      rw[bU e1,e];exact Gd G S O h N X a
  |While=>exact .b fun e1=>by rw[bU e1];exact fun σ Q h H ρ frs s Q' EE N X a=>Br S O _ h N X a
  | Pass=>
    intro σ Q h H ρ frs s Q' EE N X a
    (with_reducible refine wpAny_Pass ?_)
    exact a _ _ _ _ _ _ N .refl .next h
  | Continue=>
    intro σ Q h H ρ frs s Q' EE N X a
    (with_reducible refine wpAny_Continue ?_)
    exact a _ _ _ _ _ _ N .refl .cont h
  | Break=>
    intro σ Q h H ρ frs s Q' EE N X a
    (with_reducible refine wpAny_Break ?_)
    exact a _ _ _ _ _ _ N .refl .brk h
  |Expr=>exact E6 S O
  |Raise=>exact fun σ Q h H ρ frs s Q' EE N X _=>C7 G O h N X
  |_=>exact fun _ _ h=>h.elim
theorem PI(G:aI prog w T c K base)(S:de prog w T base c.R E n):∀(cx:Cx) st σ Q,cx.Ok (n+1)→(DQ c E st cx.sc).run σ Q→∀H ρ frs s Q' EE,az (pm w T) base cx H ρ σ frs s.heap→eY prog w base c.R cx frs H s EE→jg w T base cx frs H ρ s Q Q'→
  wpAny (model prog w) cx.A (exec st cx.env) Q' EE s:=fun _ _ σ Q O h H ρ frs s Q' EE N X a=>NR G S O σ Q h H ρ frs s Q' EE N X a
theorem OA(G:aI prog w T c K base)(S:de prog w T base c.R E n):∀(cx:Cx) l σ Q,cx.Ok (n+1)→(Av c E l cx.sc).run σ Q→∀H ρ frs s Q' EE,az (pm w T) base cx H ρ σ frs s.heap→eY prog w base c.R cx frs H s EE→jg w T base cx frs H ρ s Q Q'→
    wpAny (model prog w) cx.A (execs l cx.env) Q' EE s:=by
  intro cx l σ Q O h H ρ frs s Q' EE N X a
  have O':=O.less
  cases l with
  | nil=>
    (with_reducible refine wpAny_execs_nil ?_)
    exact a _ _ _ _ _ _ N .refl .next h
  | cons st r=>
    (with_reducible refine wpAny_execs_cons ?_)
    refine PI G S cx _ _ _ O h _ _ _ _ _ _ N X fun f r σ₁ H₁ ρ₁ s₁ N₁ L₁ R₁ h₁=>?_
    cases R₁ with
    |next=>exact S.ss cx _ _ _ O' h₁ _ _ _ _ _ _ N₁ (X.later L₁) fun f r σ₂ H₂ ρ₂ s₂ N₂ L₂ R₂ h₂=>a _ _ _ _ _ _ N₂ (L₁.trans L₂) R₂ h₂
    |brk=>exact a _ _ _ _ _ _ N₁ L₁ .brk h₁
    |cont=>exact a _ _ _ _ _ _ N₁ L₁ .cont h₁
    |ret q=>exact a _ _ _ _ _ _ N₁ L₁ (.ret q) h₁
end
end
section
section
variable {prog:Program}{w:World}{T:Nat→V}{base:Heap}{c:ck}{K:Frag}{E:Ev}{n:Nat}
theorem KZ{P:Pm}{H:HP}{ρ:List Addr}{vs:List V}{rs:List Value}{k:Nat}{v:V}(h:ai P H ρ vs rs)(e:qU vs k=some v):∃p r q,rs=p++r::q∧p.length=k∧ag P H ρ v r∧ai P H ρ (bR vs k) (p++q):=by
  induction vs generalizing rs k with
  |nil=>cases e
  | cons u vs ih=>
    refine h.cons' fun r₀ l a b er=>?_
    cases k with
    |zero=>exact⟨[],r₀,l,er,rfl,ae e▸a,b⟩
    | succ k=>
      refine nT (ih b e) fun p r q h1 h2 h3 h4=>?_
      exact⟨r₀::p,r,q,by rw[er,h1];rfl,congrArg (·+1) h2,h3,.cons a h4⟩
theorem mC{x:Int}(h:bV x=true):0≤x∧x < 256:=⟨of_decide_eq_true (d3 h).1,of_decide_eq_true (d3 h).2⟩
theorem pF{l:List (Bool×Int)}{p:Prop}(h:qQ l p):(∀x∈nY l,0≤x∧x < 256)∧p:=by
  induction l with
  |nil=>exact⟨fun _ m=>absurd m List.not_mem_nil,h⟩
  | cons x r ih=>
    refine a7 (kc h) fun h1 h2=>?_
    exact⟨List.forall_mem_cons.mpr ⟨mC h1,(ih h2).1⟩,(ih h2).2⟩
theorem qo{l:List Int}(h:∀x∈l,0≤x∧x < 256):aw (byteArr l)=l:=by
  induction l with
  |nil=>rfl
  | cons x r ih=>
    refine a7 (h x (.head _)) fun h1 h2=>?_
    have ih:=ih fun y hy=>h y (.tail _ hy)
    unfold aw byteArr at ih ⊢
    rw[List.map_cons]
    show((x.toNat % 256:Nat):Int)::_=_
    rw[ih,Nat.mod_eq_of_lt (by lia),Int.toNat_of_nonneg h1]
theorem KR(p:List Value)(r:Value)(q:List Value):kl_cut (p++r::q) p.length=some (p,r,q):=by
  induction p with
  |nil=>rfl
  | cons x p ih=>
    show(match kl_cut (p++r::q) p.length with|some (p,y,q)=>some (x::p,y,q)|none=>none)=_
    rw[ih]
theorem F9{k:Nat}(h:k≤1000):Builtin.List.listFitsIndex (Int.ofNat k)=true:=by
 unfold Builtin.List.listFitsIndex
 rw[Bool.and_eq_true]
 have:=Int.ofNat_le.mpr h
 constructor <;> apply decide_eq_true <;> simp only [Int.ofNat_eq_natCast]at*<;> lia
theorem xZ{a:List Value}{n:Nat}(h:n≤2000):¬(!a.toArray.isEmpty&&Builtin.List.listTooLong n)=true:=by
 have:Builtin.List.listTooLong n=false:=by
  unfold Builtin.List.listTooLong
  rw[sizeLine_eq]
  exact decide_eq_false (by lia)
 rw[this,Bool.and_false];decide
theorem hX{cx:Cx}{H:HP}{ρ:List Addr}{frs:aJ}{fm:List (Str×V)}{ob:aR}{h h':Heap}{i:Nat}{a:Addr}{vs ws:List V}{rs:List Value}{k:Nat}(N:az (pm w T) base cx H ρ ⟨fm,ob⟩ frs h)(e:ob.tr.get i=some (.list vs))(ha:ρ[i]?=some a)
  (hs:∀b o,b≠a→b≠cx.L→h.get? b=some o→h'.get? b=some o) (hn:∀m,h.Ns cx.L m→h'.Ns cx.L m) (ho:h'.get? a=some (aA rs k)) (hv:ai (pm w T) H ρ ws rs) :
  az (pm w T) base cx H ρ ⟨fm,bZ ob i (.list ws)⟩ frs h':=by
 exact N.turn e rfl ha hs hn (.list ho hv) ⟨_,ho⟩
theorem Ju{cx:Cx}{i:Nat}{a ad:Addr}{k k2:Nat}{vs ws:List V}{rs ts:List Value}{fm:List (Str×V)}{ob:aR}{Q:V→St→Prop}{H:HP}{ρ:List Addr}{frs:aJ}{s:Shared}{Q':Value→Shared→Prop}{EE:Value→Shared→Prop}
  (N:az (pm w T) base cx H ρ ⟨fm,ob⟩ frs s.heap) (eo:ob.tr.get i=some (.list vs)) (ha:ρ[i]?=some a) (ho:s.heap.get? a=some (aA rs k)) (hvs:ai (pm w T) H ρ vs rs) (ho2:s.heap.get? ad=some (aA ts k2)) (hws:ai (pm w T) H ρ ws ts)
  (hf1:few vs.length=true) (hf2:few ws.length=true) (ne:ad≠a) (h:Q .none ⟨fm,bZ ob i (.list (bc vs ws))⟩) (an:c5 w T base cx frs H ρ s Q Q'):wpAny (model prog w) cx.A (call (.builtin "list.extend") [.ref a,.ref ad]) Q' EE s:=by
 refine c9 N.ns fun m' mc' I F hn=>?_
 have l1:=aN hvs
 have l2:=aN hws
 have z1:rs.length≤1000:=by rw[←l1];exact Nat.le_of_ble_eq_true hf1
 have z2:ts.length≤1000:=by rw[←l2];exact Nat.le_of_ble_eq_true hf2
 have zs:rs.toArray.size+ts.toArray.size≤2000:=by rw[List.size_toArray,List.size_toArray];lia
 have aL:a≠cx.L:=fun q=>(I.apart eo rfl ha).nf (by rw[q];exact .head _)
 have adL:ad≠cx.L:=fun q=>by
  refine HO hn fun o es ep g1 g2 _=>?_
  rw[←q,ho2]at g1
  cases g1
  cases g2
 have up:∀l:List Value,∀n:Nat,Upd a (aA rs k) (W.listOf l.toArray n) ((a,aA rs k)::dU s.heap [a,cx.L]) ((a,W.listOf l.toArray n)::dU s.heap [a,cx.L]):=fun l n=>.head fun z hz e=>by obtain⟨b,o⟩:=z;have:=(cj.mp hz).1;simp at this;exact this.1 e
 have hb:(ad,W.listOf ts.toArray k2)∈(a,aA rs k)::dU s.heap [a,cx.L]:=.tail _ (cj.mpr ⟨by simp[ne,adL],ho2⟩)
 by_cases e0:ts=[]
 ·subst e0
  refine kxn_extend (dK hn) (h8 ho aL) hb rfl (up rs k) (xZ zs) (by simpa using Nat.le_trans z1 (by rw[sizeLine_eq];decide)) (Nat.le_trans zs (by rw[sizeLine_eq];decide)) fun h' F' N'=>?_
  refine a7 (iu N') fun k1 k2=>?_
  exact an .none .none _ H ρ _ (hX (rs:=rs++[]) (k:=k) N eo ha k2 (fun m hm=>by obtain rfl:=kq hn hm;exact F'.ns) (by simpa using k1) (mf hvs hws)) .heap .none h
 ·refine kl_extend (l:=rs++ts) (dK hn) (h8 ho aL) hb rfl (by simpa using e0) (up _ _) (xZ zs) (by simpa using Nat.le_trans z1 (by rw[sizeLine_eq];decide)) (Nat.le_trans zs (by rw[sizeLine_eq];decide)) fun h' F' N'=>?_
  refine a7 (iu N') fun k1 k2=>?_
  exact an .none .none _ H ρ _ (hX (rs:=rs++ts) (k:=k+1) N eo ha k2 (fun m hm=>by obtain rfl:=kq hn hm;exact F'.ns) k1 (mf hvs hws)) .heap .none h
theorem A2{α:Type}{l:List α}:∀{i:Nat},i < l.length→∃v,qU l i=some v:=by
  induction l with
  |nil=>exact fun h=>absurd h (Nat.not_lt_zero _)
  | cons a r ih=>intro i h;cases i with
    |zero=>exact⟨a,rfl⟩
    |succ i=>exact ih (Nat.lt_of_succ_lt_succ h)
theorem GR{vs:List V}{x:Int}{Q:V→List V→Prop}(m:Nat):∀(j:Nat),(@Nat.rec (fun _=>Nat→Prop) (fun _=>True) (fun _ f j=>oE (qU vs j) (fun v=>(x=Int.ofNat j→Q v (bR vs j))∧f (j+1)) True) m:Nat→Prop) j→∀k,x=Int.ofNat k→j≤k→k < j+m→k < vs.length→∃v,qU vs k=some v∧Q v (bR vs k):=by
  induction m with
  |zero=>intro j _ k _ h1 h2 _;exact absurd h1 (Nat.not_le.mpr h2)
  | succ m ih=>
    intro j h k hx h1 h2 h3
    refine bz (A2 (Nat.lt_of_le_of_lt h1 h3)) fun v ev=>?_
    have h:oE (qU vs j) (fun v=>(x=Int.ofNat j→Q v (bR vs j))∧(@Nat.rec (fun _=>Nat→Prop) (fun _=>True) (fun _ f j=>oE (qU vs j) (fun v=>(x=Int.ofNat j→Q v (bR vs j))∧f (j+1)) True) m:Nat→Prop) (j+1)) True:=h
    rw[ev]at h
    by_cases e:j=k
    · rw[←e]at hx ⊢;exact⟨v,ev,h.1 hx⟩
    · exact ih (j+1) h.2 k hx (Nat.lt_of_le_of_ne h1 e) (by rw[Nat.succ_add];exact h2) h3
theorem t8{P:Pm}{H:HP}{ρ:List Addr}{l:List (Str×Tok)}{ss:List Str}(e:l.map (·.1)=ss)(h:∀x∈ss,PyData.strOk x=true):ai P H ρ (jl ss) (strValues l):=by
 subst e
 induction l with
 |nil=>exact .nil
 |cons p l ih=>exact .cons (.str (h _ (.head _))) (ih fun y hy=>h y (.tail _ hy))
theorem GN{P:Pm}{H:HP}{ρ:List Addr}{vs:List V}{rs:List Value}{p:Bool×Bool}(h:ai P H ρ vs rs)(e:Lh vs=some p):∃bs,LSm.BoolsAre rs bs∧bs.any id=p.2:=by
  induction vs generalizing rs p with
  |nil=>exact h.nil' fun er=>er▸ae e▸⟨[],.nil,rfl⟩
  | cons v vs ih=>
    refine au e fun q eq e=>au e fun q' eq' e=>h.cons' fun r l a b er=>a.cB eq fun ea=>?_
    refine aq (ih b eq') fun bs h1 h2=>?_
    rw[er,ea,←ae e]
    refine⟨q.2::bs,.cons _ h1,?_⟩
    rw[List.any_cons,h2]
    cases q.2 <;> rfl
theorem nZ{d:Addr}{es:List DictEntry}{n:Nat}(hd:(d==sysModules)=false) :
  MeetsIn prog w (Builtin.«dict.__len__» ⟨[.ref d],[]⟩) (fun _ R s=>s.heap.get? d=some (dictOf es n)∧R (.ok (.ret (.int es.length s.toks))) {s with toks:=s.toks+1}):=
 .of_wp fun A R s ⟨ho,h⟩=>by
  show wpAny _ _ (dictSize d >>= _) _ _ s
  unfold dictSize
  refine wpAny_bind (wpAny_bind (wpAny_dictEntries ho rfl (wpAny_pure ?_)))
  show wpAny _ _ (Builtin.Dict.pendingCount d >>= _) _ _ s
  refine wpAny_bind (wpAny_pendingCount_other hd ?_)
  refine wpAny_ret_mkInt ?_
  rw[Nat.add_zero]
  have:es.toArray.size=es.length:=by simp
  rw[this];exact h
theorem qP{A:Around}{EE:Value→Shared→Prop}{s:Shared}{d:Addr}{es:List DictEntry}{n:Nat}{Q:Value→Shared→Prop}(hd:(d==sysModules)=false)(ho:s.heap.get? d=some (dictOf es n))(hfit:(es.length:Int) < 2 ^ 63)
  (h:Q (.int es.length (s.toks+1)) {s with toks:=s.toks+1+1}):wpAny (model prog w) A (call (.builtin "len") [.ref d]) Q EE s:=by
 have hT:s.TypeIs (.ref d) "dict":=⟨_,ho,rfl⟩
 refine Calls.call_function_entry kind_len plain_len entry_len (args_len1 _) ?_
 unfold Builtin.«len»
 refine wpAny_bind (m:=oneArg "len" _) (wpAny_pure ?_)
 refine wpAny_bind (m:=callSpecial? (.ref d) (Str.ofString "__len__")) (wpAny_callSpecial?_slot (name:=Str.ofString "__len__") hT F.slot_dict_len
  (call_meetsIn F.slot_dict_len hT F.entry_dict_len (F.args_dict_len_1 _) (nZ (es:=es) (n:=n) hd) ⟨ho,?_⟩))
 show wpAny _ _ _ _ _ {s with toks:=s.toks+1}
 refine wpAny_bind (wpAny_holding (wpAny_pure ?_))
 refine wpAny_bind (wpAny_letGo ?_)
 show wpAny _ _ (if((es.length:Nat):Int) < 0 then _ else _) _ _ _
 rw[if_neg (by lia)]
 show wpAny _ _ (if((es.length:Nat):Int)≥2 ^ 63 then _ else _) _ _ _
 rw[if_neg (by lia)]
 exact wpAny_bind (wpAny_mkInt (wpAny_pure ⟨_,rfl,h⟩))
theorem se{P:Pm}{H:HP}{ρ:List Addr}{kvs:List (V×V)}{es:List DictEntry}(h:bF P H ρ kvs es):kvs.length=es.length:=
 bF.ind (M:=fun kvs es=>kvs.length=es.length) rfl (fun _ _ _ _ _ _ _ _ _ _ ih=>congrArg (·+1) ih) h
theorem D5{A:Around}{EE:Value→Shared→Prop}{s:Shared}{d:Addr}{rk dv:Value}{Q:Value→Shared→Prop}{es:List DictEntry}{n:Nat}(ho:s.heap.get? d=some (dictOf es n))(hd:(d==sysModules)=false)
    (h:wpAny (model prog w) A.in1 (dictGet d rk) (fun o s'=>Q (o.getD dv) s') EE s):wpAny (model prog w) A (call (.builtin "dict.get") [.ref d,rk,dv]) Q EE s:=by
  have hT:s.TypeIs (.ref d) "dict":=⟨_,ho,rfl⟩
  refine wpAny_call_entry PySem.F.slot_dict_get hT PySem.F.entry_dict_get ?_ (PySem.F.args_dict_get_3 _ _ _)
  show wpAny _ _ (dictGet d rk >>= _) _ _ s
  refine wpAny_bind (wpAny_mono h (fun o s' hq=>?_) fun _ _ e=>e)
  cases o with
  |some v=>exact wpAny_pure ⟨v,rfl,hq⟩
  | none=>
    show wpAny _ _ (Builtin.Dict.missed d rk >>= _) _ _ _
    exact wpAny_bind (wpAny_missed_other hd (wpAny_pure ⟨dv,rfl,hq⟩))
section
variable {cx:Cx}{as:List V}{ras:List Value}{fm:List (Str×V)}{ob:aR}{Q:V→aR→Prop}{H:HP}{ρ:List Addr}{frs:aJ}{s:Shared}{Q':Value→Shared→Prop}{EE:Value→Shared→Prop}
noncomputable abbrev dF(w:World)(T:Nat→V)(base:Heap)(cx:Cx)(frs:aJ)(H:HP)(ρ:List Addr)(s:Shared)(fm:List (Str×V))(Q:V→aR→Prop)(Q':Value→Shared→Prop):Prop:=c5 w T base cx frs H ρ s (fun v σ=>Q v σ.ob∧σ.fm=fm) Q'
theorem lQ{cx:Cx}{fm:List (Str×V)}{ob:aR}{x:O}{Q:V→aR→Prop}(h:bo ob x Q):bo (⟨fm,ob⟩:St).ob x fun v ob'=>(fun v (σ:St)=>Q v σ.ob∧σ.fm=fm) v ⟨fm,ob'⟩:=by
 refine aB h fun y ey h=>?_
 show oP ((ob.tr.ins ob.nx x).get ob.nx) _
 rw[ey]
 exact⟨h,rfl⟩
theorem Kj(h:Ob as ob Q)(N:az (pm w T) base cx H ρ ⟨fm,ob⟩ frs s.heap)(hv:ai (pm w T) H ρ as ras)(an:dF w T base cx frs H ρ s fm Q Q'):wpAny (model prog w) cx.A (call (.builtin "len") ras) Q' EE s:=by
  refine aW N.inv fun m' mc' I F=>?_
  have fin {k:Bool} {z:Nat} {t:Tok} {tk:Nat} (h:Q (.int k z) ob):Q' (.int (z:Int) t) {s with toks:=tk}:=an (.int k _) _ ⟨fm,ob⟩ H ρ _ N .toks .int ⟨h,rfl⟩
  have lenI {ad:Addr} {rs:List Value} {j z:Nat} {k:Bool} (ho:s.heap.get? ad=some (aA rs j)) (hl:rs.length=z) (hz:z≤1000) (h:Q (.int k z) ob):wpAny (model prog w) cx.A (call (.builtin "len") [.ref ad]) Q' EE s:=by
    refine call_len_list ⟨_,ho,rfl,_,rfl⟩ (by rw[List.size_toArray,hl];lia) ?_
    rw[List.size_toArray,hl];exact fin h
  refine aB h fun v ev h=>hv.c1 ev fun r a er=>du h (fun p ep h=>a.cY ep fun b t eb ex=>cg h fun hf h=>?_) fun _ h=>du h (fun p ep h=>a.cW ep fun rs ad k x y ea=>cg h fun hf h=>?_) fun _ h=>du h (fun p ep h=>a8 h fun hf h=>gL I a ep fun ad rs k ea ho hvs=>?_)
    fun _ h=>aB h fun es ed h=>a8 h fun hf h=>?_
  · rw[er,eb]
    have hl:p.2.length=b.size:=by rw[ex];unfold aw;rw[List.length_map,Array.length_toList]
    refine len_bytes (by rw[←hl];exact Nat.le_trans (Nat.le_of_ble_eq_true hf) (by decide)) ?_
    rw[←hl];exact fin h
  · rw[er,ea];exact lenI (I.frz _ _ x) y.length (Nat.le_of_ble_eq_true hf) h
  · rw[er,ea]
    have hl:=(aN hvs).symm
    have hf:=Nat.le_of_ble_eq_true hf
    cases e:p.1 with
    |false=>rw[e]at ho;exact lenI ho hl hf h
    | true=>
      rw[e]at ho
      refine len_tuple ⟨_,ho,rfl,_,rfl⟩ (by rw[List.size_toArray,hl];lia) ?_
      rw[List.size_toArray,hl];exact fin h
  · refine aq (gW I a ed) fun d rq1 D=>?_;subst rq1
    refine aW D.obj fun en k hob hre=>?_
    have hl:=se hre
    have hz:=Nat.le_of_ble_eq_true hf
    rw[er]
    refine qP D.low hob (by lia) ?_
    rw[←hl];exact fin h
theorem zA(h:xN as ob Q)(N:az (pm w T) base cx H ρ ⟨fm,ob⟩ frs s.heap)(hv:ai (pm w T) H ρ as ras)(an:dF w T base cx frs H ρ s fm Q Q'):wpAny (model prog w) cx.A (call (.builtin "list.append") ras) Q' EE s:=by
 refine aW N.inv fun m' mc' I F=>?_
 refine aB h fun p ep h=>hv.c2 ep fun r r₂ a b er=>aB h fun i ei h=>a.cR ei fun ad ha ea=>aB h fun vs eo h=>a8 h fun hf h=>(I.at (iI eo) ha).list' fun rs k ho hvs=>?_
 rw[er,ea]
 refine append_at ho (fun h' hs ho'=>?_) (by rw[List.size_toArray,←aN hvs];exact dB hf)
 exact an .none .none _ H ρ _ (hX (rs:=rs++[_]) (k:=k+1) N (iI eo) ha (fun b o q _ e=>(hs.2 b q).trans e) (fun m hn=>hn.sameBut hs (N.apart (iI eo) rfl ha).symm) (by simpa using ho') (mf hvs (.cons b .nil))) .heap .none ⟨h,rfl⟩
theorem yp(h:wY as ob Q)(N:az (pm w T) base cx H ρ ⟨fm,ob⟩ frs s.heap)(hv:ai (pm w T) H ρ as ras)(an:dF w T base cx frs H ρ s fm Q Q'):wpAny (model prog w) cx.A (call (.builtin "list.extend") ras) Q' EE s:=by
 refine aW N.inv fun m' mc' I F=>?_
 refine aB h fun p ep h=>hv.c2 ep fun r r₂ a b er=>aB h fun i ei h=>a.cR ei fun ad ha ea=>aB h fun vs eo h=>aB h fun ws es h=>a8 h fun hf h=>ar hf fun hf1 hf2=>a8 h fun hne h=>(I.at (iI eo) ha).list' fun rs k ho hvs=>jU I b es fun bd ts k2 eb ho2 hws=>?_
 rw[er,ea,eb]
 refine Ju N (iI eo) ha ho hvs ho2 hws hf1 hf2 (fun e=>?_) ⟨h,rfl⟩ an
 have ap:=(I.apart (iI eo) rfl ha)
 refine cP (AK es) (fun _ e1 _=>b.cT e1 fun _ x hx _ ex=>ap.nH _ (by rw[←e,←Value.ref.inj (ex.symm.trans eb)];exact hx)) fun _ e2=>cP e2 (fun _ e1 _=>b.cL e1 fun _ x _ hx _ ex=>ap.nH _ (by rw[←e,←Value.ref.inj (ex.symm.trans eb)];exact hx))
  fun _ e2=>au e2 fun j ej _=>b.cR ej fun x hx ex=>?_
 rw[ej]at hne
 rw[←Value.ref.inj (eb.symm.trans ex),e]at hx
 refine bz (List.getElem?_eq_some_iff.mp hx) fun hj ej=>?_
 refine bz (List.getElem?_eq_some_iff.mp ha) fun hi' ei=>?_
 exact Nat.ne_of_beq_eq_false (bS hne) ((List.getElem_inj I.dup).mp (ei.trans ej.symm))
theorem AF{vs:List V}{i:Nat}{k:Bool}{x:Int}(h:H2 vs i k x ob Q):∃j v,x=Int.ofNat j∧qU vs j=some v∧Q v (bZ ob i (.list (bR vs j))):=by
  cases k with
  |true=>exact aB (o:=nS x) h fun j ej h=>aB h fun v ev h=>⟨j,v,fU ej,ev,h⟩
  | false=>
    refine jD h fun h1 h2 h3=>?_
    refine bz (Int.eq_ofNat_of_zero_le h1) fun j ej=>?_
    have h2:j < vs.length:=Int.ofNat_lt.mp (by rw[←ej];exact h2)
    refine aq (GR (Q:=fun v l=>Q v (bZ ob i (.list l))) vs.length 0 h3 j ej (Nat.zero_le _) (by rw[Nat.zero_add];exact h2) h2) fun v e1 e2=>?_
    exact⟨j,v,ej,e1,e2⟩
theorem KP(h:MS as ob Q)(N:az (pm w T) base cx H ρ ⟨fm,ob⟩ frs s.heap)(hv:ai (pm w T) H ρ as ras)(an:dF w T base cx frs H ρ s fm Q Q'):wpAny (model prog w) cx.A (call (.builtin "list.pop") ras) Q' EE s:=by
 refine c9 N.ns fun m' mc' I F hn=>?_
 refine aB h fun p ep h=>hv.c2 ep fun r r₂ a b er=>aB h fun i ei h=>a.cR ei fun ad ha ea=>aB h fun q eq h=>b.cI eq fun t eb=>aB h fun vs eo h=>a8 h fun hf h=>(I.at (iI eo) ha).list' fun rs kk ho hvs=>?_
 have hl:=aN hvs
 have hz:rs.length≤1000:=by rw[←hl];exact Nat.le_of_ble_eq_true hf
 refine c9 (AF h) fun j v ej en h=>?_
 refine nT (KZ hvs en) fun l r l' h1 h2 h3 h4=>?_
 have hlt:l.length < rs.length:=by rw[h1,List.length_append,List.length_cons];lia
 rw[←h2]at h h4
 rw[er,ea,eb,ej,←h2]
 refine kl_popAt (k:=l.length) (p:=l) (q:=l') (y:=r) (dK hn) (h8 ho (N.apart (iI eo) rfl ha)) ?_ ?_ ?_ (.head fun z hz e=>(cj.mp (show(z.1,z.2)∈_ from hz)).1 (by rw[show z.1=ad from e];exact .head _)) (by simpa using Nat.le_trans hz (by rw[sizeLine_eq];decide)) fun h' F' N'=>?_
 ·exact F9 (by lia)
 ·rw[List.size_toArray];exact kJ hlt
 ·rw[h1];exact KR l r l'
 ·refine a7 (iu N') fun k1 k2=>?_
  exact an _ _ _ H ρ _ (hX (rs:=l++l') (k:=kk+1) N (iI eo) ha k2 (ia hn F') (by simpa using k1) h4) .heap h3 ⟨h,rfl⟩
theorem oj{ss:List Str}{D:Addr}{l:List (Str×Tok)}{h':Heap}{k:Nat}{m':bG}(N:az (pm w T) base cx H ρ ⟨fm,ob⟩ frs s.heap)(hn:s.heap.Ns cx.L m')(an:dF w T base cx frs H ρ s fm Q Q')(hs:bb Iz ss=true)(e:l.map (·.1)=ss)(F':Fr (gJ s.heap) cx.L h' m')(N':News (gJ s.heap) cx.L h' ((D,W.listOf (strValues l).toArray 0)::dU s.heap [cx.L]))(hl:∀p∈dU s.heap [cx.L],p.1 < D)(h:bo ob (.list (jl ss)) Q) :
  Q' (.ref D) {s with heap:=h',toks:=k}:=by
 rw[qd,List.all_eq_true]at hs
 refine nT (f6 (σ:=⟨fm,ob⟩) (Q:=fun v σ=>Q v σ.ob∧σ.fm=fm) (tk:=k) N (jE (pre:=[_]) N') (ia hn F') (tF hl (N' _ (.head _)).2.1) (N' _ (.head _)).1 (t8 e fun x hx=>qj (hs x hx)) (lQ (cx:=cx) h)) fun v σ' ρ' N₂ L₂ R₂ h₂=>?_
 exact an v _ σ' H ρ' _ N₂ L₂ R₂ h₂
theorem AA(h:BP as ob Q)(N:az (pm w T) base cx H ρ ⟨fm,ob⟩ frs s.heap)(hv:ai (pm w T) H ρ as ras)(an:dF w T base cx frs H ρ s fm Q Q'):wpAny (model prog w) cx.A (call (.builtin "str.split") ras) Q' EE s:=by
 refine c9 N.ns fun m' mc' I F hn=>?_
 have sl {n:Nat} (h:n≤640):n+2≤sizeLine:=Nat.le_trans (Nat.add_le_add_right h 2) (by rw[sizeLine_eq];decide)
 refine du h (fun v ev h=>hv.c1 ev fun r a er=>aB h fun x ex h=>a.cK ex fun t _ ea=>a8 h fun hb h=>ar hb fun h1 h2=>?_) fun _ h=>aB h fun p ep h=>hv.c2 ep fun r r₂ a b er=>aB h fun x ex h=>a.cK ex fun t _ ea=>aB h fun y ey h=>b.cK ey fun u _ eb=>a8 h fun hb h=>ar hb fun h1 h2=>ar h1 fun h1 h3=>?_
 ·rw[er,ea]
  exact KSpl.split0 (dK hn) gQ (fun D l h' k e _ F' N' hl=>oj N hn an h2 e F' N' hl h) (sl (Nat.le_of_ble_eq_true h1))
 ·rw[er,ea,eb]
  exact KSpl.split1 (dK hn) gQ (beq_eq_false_iff_ne.mpr (Nat.ne_of_beq_eq_false (bS h3))) (fun D l h' k e _ F' N' hl=>oj N hn an h2 e F' N' hl h) (sl (Nat.le_of_ble_eq_true h1))
theorem yO(h:wM as ob Q)(N:az (pm w T) base cx H ρ ⟨fm,ob⟩ frs s.heap)(hv:ai (pm w T) H ρ as ras)(an:dF w T base cx frs H ρ s fm Q Q'):wpAny (model prog w) cx.A (call (.builtin "str.lstrip") ras) Q' EE s:=by
 refine aB h fun p ep h=>hv.c2 ep fun r r₂ a b er=>aB h fun x ex h=>a.cK ex fun t _ ea=>aB h fun y ey h=>b.cK ey fun u _ eb=>a8 h fun hb h=>ar hb fun h1 h2=>?_
 rw[er,ea,eb]
 refine SC.lstripChars (fun t' k=>?_) (Nat.le_trans (Nat.le_of_ble_eq_true h1) (by rw[sizeLine_eq];decide))
 exact an _ _ ⟨fm,ob⟩ H ρ _ N .toks (.str (qj h2)) ⟨h,rfl⟩
theorem Jv{mm:Nat}(O:cx.Ok mm)(h:NN as ob Q)(N:az (pm w T) base cx H ρ ⟨fm,ob⟩ frs s.heap)(hv:ai (pm w T) H ρ as ras)(an:dF w T base cx frs H ρ s fm Q Q'):wpAny (model prog w) cx.A (call (.builtin "any") ras) Q' EE s:=by
 refine c9 N.ns fun m' mc' I F hn=>?_
 refine aB h fun v ev h=>hv.c1 ev fun r a er=>aB h fun vs es h=>a8 h fun _ h=>aB h fun p ea h=>jU I a es fun ad rs kk er₁ ho hvs=>?_
 refine aq (GN hvs ea) fun bs h1 h2=>?_
 rw[er,er₁]
 refine LSm.any_bools (dK hn) gQ O.handled ⟨_,ho,rfl,_,rfl⟩ h1 fun h' tk F' N'=>?_
 rw[h2]
 exact an (.bool p.1 p.2) _ ⟨fm,ob⟩ H ρ _ (N.move (jE (pre:=[]) N') (ia hn F')) .heap .bool ⟨h,rfl⟩
theorem J0{mm:Nat}(O:cx.Ok (mm+1))(h:Ov as ob Q)(N:az (pm w T) base cx H ρ ⟨fm,ob⟩ frs s.heap)(hv:ai (pm w T) H ρ as ras)(an:dF w T base cx frs H ρ s fm Q Q'):wpAny (model prog w) cx.A (call (.builtin "dict.get") ras) Q' EE s:=by
  refine aW N.inv fun m' mc' I F=>?_
  refine aB h fun p ep h=>hv.c3 ep fun r r₂ r₃ a b b' er=>aB h fun es ed h=>a8 h fun hb h=>ar hb fun ok ik=>?_
  refine aq (gW I a ed) fun d rq1 D=>?_;subst rq1
  refine aW D.obj fun en k hob _=>?_
  rw[er]
  refine D5 hob D.low (je rfl I D ok ik b (by show cx.A.units+_ < _;have:=O.units;lia) fun tk o ho=>?_)
  have g:=rZ h
  cases e:fR p.2.1 es with
  | none=>
    rw[e]at ho g
    rw[show o=none from ho]
    exact an _ _ ⟨fm,ob⟩ H ρ _ N .toks b' ⟨g,rfl⟩
  | some v=>
    rw[e]at ho g
    refine aq ho fun r rq1 hr=>?_;subst rq1
    exact an _ _ ⟨fm,ob⟩ H ρ _ N .toks hr ⟨g,rfl⟩
theorem B7{i:Bi}{mm:Nat}(O:cx.Ok (mm+1))
  (h:H7 i as ob Q) (N:az (pm w T) base cx H ρ ⟨fm,ob⟩ frs s.heap) (hv:ai (pm w T) H ρ as ras)
  (an:c5 w T base cx frs H ρ s (fun v σ=>Q v σ.ob∧σ.fm=fm) Q'):wpAny (model prog w) cx.A (call (.builtin i.name) ras) Q' EE s:=by
 cases i with
 |len=>exact Kj h N hv an
 |append=>exact zA h N hv an
 |extend=>exact yp h N hv an
 |pop=>exact KP h N hv an
 |split=>exact AA h N hv an
 |lstrip=>exact yO h N hv an
 |any=>exact Jv O h N hv an
 |get=>exact J0 O h N hv an
end
end
end
section
theorem l0:typeLookup (.type "bytes") "__len__"=pure (some (.builtin "bytes.__len__")):=by rw[typeLookup_type,builtinLookup_eq_fast];kernel_rfl
section
variable {prog:Program}{w:World}{A:Around}{E:Value→Shared→Prop}{s:Shared}
noncomputable abbrev Bn(b:Array UInt8)(i:Nat)(v:Value):Prop:=∃(c:UInt8) (u:Tok),b[i]?=some c∧v=.int (c.toNat:Int) u
theorem pP{R:Result→Shared→Prop}(hh:A.handled=none)(b:Array UInt8)(t:Tok)(S:Addr)(res:Value)(c₀:Nat)(hS:s.heap.get? S=some {cls:=.type "list",data:=.seq #[] c₀})
  (hR:∀h' tk acc' c',(∀b o,b≠S→s.heap.get? b=some o→h'.get? b=some o)→h'.get? S=some {cls:=.type "list",dict:=none,data:=.seq acc' c',slots:=#[]}→
   ItemsOf (Bn b) acc' b.size→R (.ok (.ret res)) {s with heap:=h',toks:=tk}) (hn:b.size≤sizeLine) :
  wpAny (model prog w) A.in1 (Builtin.List.listExtendWith (.ref S) (.bytes b t) res)
   (fun fin s'=>match fin with|.done f=>R (.ok f) s'|.again c'=>c'.quiet=true∧codeAny (model prog w) A c' R s') (fun e s'=>R (.error e) s') s:=by
 have hSI:S≠s.heap.objs.size:=Nat.ne_of_lt (Heap.lt_size hS)
 have hSf:S∉[s.heap.objs.size]:=fun hm=>hSI (List.mem_singleton.mp hm)
 unfold Builtin.List.listExtendWith
 refine wpAny_bind (wpAny_typeOf (T:="bytes") (v:=.bytes b t) rfl ?_)
 have h1:Builtin.List.listSameRef (.ref S) (.bytes b t)=false:=rfl
 have h2:(Value.type "bytes"==Value.type "list")=false:=by decide
 have h3:(Value.type "bytes"==Value.type "tuple")=false:=by decide
 simp only [h1,h2,h3,Bool.or_false,Bool.false_eq_true,if_false]
 refine wpAny_bind (KBw.pyIter_bytes ?_)
 refine wpAny_bind (wpAny_holding ?_)
 unfold Builtin.List.listLengthHint
 refine wpAny_bind (wpAny_specialOf (T:="bytes") (v:=.bytes b t) rfl l0 ?_)
 wp_delta
 refine wpAny_bind (wpAny_isInstance (T:="bytes") (v:=.bytes b t) (b:=true) rfl (by rw[isSubtype_type];kernel_rfl) ?_)
 show wpAny _ _ (typeOf (Value.bytes b t) >>= _) _ _ _
 refine wpAny_bind (wpAny_typeOf (T:="bytes") (v:=.bytes b t) rfl ?_)
 refine wpAny_pure ?_
 rw[if_neg (by decide)]
 have W:=KBw.walks (prog:=prog) (w:=w) (A:=A.in1) hh s.heap.objs.size b t
 have hst:KBw.IsBytesIter (s.heap.push {cls:=.type "bytes_iterator",data:=.fields #[.bytes b t,.int 0 0]}) s.heap.objs.size b t 0:=⟨_,Heap.get?_push_size _ rfl,rfl,rfl⟩
 refine wpAny_pure ⟨plainId_quiet F.plain_extend_loop _,codeAny_extend_loopS W.toS hn _ hSf _ b.size 0 _ _ _ rfl (Nat.zero_le _) hst (Heap.get?_push_of_some _ hS) (ItemsOf.nil _) fun s' acc' c' hm hS' hacc=>?_⟩
 rw[Moved.eq_with hm]
 refine hR s'.heap s'.toks acc' c' (fun b ob hb e=>hm.heap b ob (fun hmem=>?_) (Heap.get?_push_of_some _ e)) hS' hacc
 rcases List.mem_cons.mp hmem with e'|hmem
 ·exact hb e'
 ·exact absurd (Heap.lt_size e) (by rw[List.mem_singleton.mp hmem];exact Nat.lt_irrefl _)
theorem la{R:Result→Shared→Prop}(hh:A.handled=none)(b:Array UInt8)(t:Tok)(S:Addr)(hS:s.heap.get? S=some {cls:=.type "list",data:=.seq #[]})
  (hR:∀h' tk acc' c',(∀b o,b≠S→s.heap.get? b=some o→h'.get? b=some o)→h'.get? S=some {cls:=.type "list",dict:=none,data:=.seq acc' c',slots:=#[]}→
   ItemsOf (Bn b) acc' b.size→R (.ok (.ret .none)) {s with heap:=h',toks:=tk}) (hn:b.size≤sizeLine) :
  wpAny (model prog w) A.in1 (Builtin.«list.__init__» ⟨[.ref S,.bytes b t],[]⟩)
   (fun fin s'=>match fin with|.done f=>R (.ok f) s'|.again c'=>c'.quiet=true∧codeAny (model prog w) A c' R s') (fun e s'=>R (.error e) s') s:=by
 show wpAny _ _ (do let old ←Builtin.List.listItems (.ref S);Builtin.List.listUpdate (.ref S) (fun _=>#[]);letGo old.toList.reverse;Builtin.List.listExtendWith (.ref S) (.bytes b t) .none) _ _ s
 refine wpAny_bind ?_
 unfold Builtin.List.listItems
 refine wpAny_bind (wpAny_seqItems hS rfl (wpAny_pure ?_))
 show wpAny _ _ (updateSeq S (fun _=>#[]) >>= fun _=>letGo (#[]:Array Value).toList.reverse >>= fun _=>Builtin.List.listExtendWith (.ref S) (.bytes b t) .none) _ _ s
 refine wpAny_bind (wpAny_updateSeq hS rfl ?_)
 have hS₂:=Heap.get?_update_self (Obj.mapSeq (fun _=>(#[]:Array Value))) hS rfl
 have oth:∀b o,b≠S→s.heap.get? b=some o→(s.heap.update S (Obj.mapSeq (fun _=>(#[]:Array Value)))).get? b=some o:=
  fun b o hb e=>(Heap.get?_update_other _ _ (Ne.symm hb)).trans e
 refine wpAny_bind (wpAny_letGo ?_)
 refine pP (hn:=hn) hh b t S .none _ hS₂ fun h' tk acc' c' hk hS' hacc=>?_
 exact hR h' tk acc' c' (fun b o hb e=>hk b o hb (oth b o hb e)) hS' hacc
theorem lb{Q:Value→Shared→Prop}(hh:A.handled=none)(b:Array UInt8)(t:Tok)
  (hQ:∀h' tk acc' c',(∀b o,s.heap.get? b=some o→h'.get? b=some o)→
   h'.get? s.heap.objs.size=some {cls:=.type "list",dict:=none,data:=.seq acc' c',slots:=#[]}→ItemsOf (Bn b) acc' b.size→Q (.ref s.heap.objs.size) {s with heap:=h',toks:=tk}) (hn:b.size≤sizeLine) :
  wpAny (model prog w) A (call (.type "list") [.bytes b t]) Q E s:=by
 refine callType_codes (Q₁:=fun obj s₁=>obj=.ref s.heap.objs.size∧s₁={s with heap:=s.heap.push {cls:=.type "list",data:=.seq #[]}}) F.called_list (F.typeCall_list_1 _) F.entry_list_init
  (code_list_new _ ⟨rfl,rfl⟩) fun obj s₁ h₁=>?_
 refine a7 h₁ fun rq0 rq1=>?_;subst rq0;subst rq1
 have hS:(s.heap.push {cls:=.type "list",data:=.seq #[]}).get? s.heap.objs.size=some {cls:=.type "list",data:=.seq #[]}:=Heap.get?_push_size _ rfl
 refine⟨⟨_,hS,rfl⟩,F.args_list_init_2 _ _,la (A:=A.in1) (hn:=hn) hh b t _ hS fun h' tk acc' c' hk hS' hacc=>?_⟩
 exact⟨rfl,hQ h' tk acc' c' (fun b o e=>hk b o (Nat.ne_of_lt (Heap.lt_size e)) (Heap.get?_push_of_some _ e)) hS' hacc⟩
end
theorem tX{rs:List Value}:∀{xs:List Int},rs.length=xs.length→(∀(i:Nat) (v:Value),rs[i]?=some v→∃(x:Int) (t:Tok),xs[i]?=some x∧v=.int x t)→IntsAre rs xs:=by
  induction rs with
  |nil=>intro xs h _;cases xs with|nil=>exact .nil|cons=>cases h
  | cons r rs ih=>
    intro xs h f
    cases xs with
    |nil=>cases h
    | cons x xs=>
      refine aW (f 0 r rfl) fun x' t e1 e2=>?_
      rw[e2,←ae e1]
      exact .cons _ _ (ih (Nat.succ.inj h) fun i v e=>f (i+1) v e)
end
section
section
variable {prog:Program}{w:World}{T:Nat→V}{base:Heap}{c:ck}{K:Frag}{E:Ev}{n:Nat}
theorem uZ{x:Int}{t:Str}(h:xE x=some t):∃m:Nat,x=Int.ofNat m∧m < 1000000∧t=Str.ofString (toString m):=
 au h fun m em h=>bQ h fun hb h=>⟨m,fU em,Nat.le_of_ble_eq_true hb,(ae h).symm⟩
theorem mP(s:String):PyData.strOk (Str.ofString s)=true:=by
 rw[Str.ofString_eq_toList]
 unfold PyData.strOk
 rw[←Array.all_toList,List.all_eq_true]
 intro x hx
 refine aq (List.mem_map.mp hx) fun c _ rq2=>?_;subst rq2
 have h:=c.valid
 have:c.toNat < 1114112:=by
  have h:Nat.isValidChar c.toNat:=h
  unfold Nat.isValidChar at h
  lia
 simpa using this
theorem Jt{xs:List Int}(h:bb bV xs=true):∀x∈xs,0≤x∧x < 256:=by
 rw[qd,List.all_eq_true]at h
 exact fun x hx=>mC (h x hx)
section
variable {cx:Cx}{as:List V}{ras:List Value}{fm:List (Str×V)}{ob:aR}{Q:V→aR→Prop}{H:HP}{ρ:List Addr}{frs:aJ}{s:Shared}{Q':Value→Shared→Prop}{EE:Value→Shared→Prop}
theorem Hp(h:OK as ob Q)(N:az (pm w T) base cx H ρ ⟨fm,ob⟩ frs s.heap)(hv:ai (pm w T) H ρ as ras)(an:dF w T base cx frs H ρ s fm Q Q'):wpAny (model prog w) cx.A (call (.type "int") ras) Q' EE s:=by
 refine aB h fun v ev h=>hv.c1 ev fun r a er=>du h (fun p ep h=>a.cI ep fun t ea=>?_) fun _ h=>du h (fun p ep h=>a.cB ep fun ea=>?_) fun _ h=>aB h fun p ep h=>aB h fun n en h=>a8 h fun hl h=>a.cS ep fun t _ ea=>?_
 ·rw[er,ea]
  exact call_int_int (an _ _ ⟨fm,ob⟩ H ρ _ N .toks .int ⟨h,rfl⟩)
 ·rw[er,ea]
  refine call_int_bool ?_
  have q:Q' (.int (Nl p.2) s.toks) {s with toks:=s.toks+1}:=an _ _ ⟨fm,ob⟩ H ρ _ N .toks .int ⟨h,rfl⟩
  cases e:p.2 <;> rw[e]at q <;> exact q
 ·rw[er,ea]
  exact KIN.call_text en (Nat.le_of_ble_eq_true hl) (an _ _ ⟨fm,ob⟩ H ρ _ N .toks .int ⟨h,rfl⟩)
theorem HA(h:ND as ob Q)(N:az (pm w T) base cx H ρ ⟨fm,ob⟩ frs s.heap)(hv:ai (pm w T) H ρ as ras)(an:dF w T base cx frs H ρ s fm Q Q'):wpAny (model prog w) cx.A (call (.type "str") ras) Q' EE s:=by
 refine aB h fun v ev h=>hv.c1 ev fun r a er=>aB h fun p ep h=>a8 h fun _ h=>aB h fun t et h=>a.cI ep fun u ea=>?_
 refine cJ (uZ et) fun k ek hk et=>?_
 rw[er,ea,ek]
 rw[et]at h
 refine PySem.P.str_of_int (by
   show k.log2 < 1920
   rcases Nat.eq_zero_or_pos k with e|hp
   ·rw[e];decide
   ·exact(Nat.log2_lt (Nat.ne_of_gt hp)).mpr (Nat.lt_trans hk (Nat.lt_trans (by decide:1000000 < 2 ^ 20) (Nat.pow_lt_pow_right (by decide) (by decide))))) ?_
 ·exact an (.str true _) _ ⟨fm,ob⟩ H ρ _ N .toks (.str (mP _)) ⟨h,rfl⟩
theorem zh(h:DJ as ob Q)(N:az (pm w T) base cx H ρ ⟨fm,ob⟩ frs s.heap)(hv:ai (pm w T) H ρ as ras)(an:dF w T base cx frs H ρ s fm Q Q'):wpAny (model prog w) cx.A (call (.type "range") ras) Q' EE s:=by
 refine aB h fun v ev h=>hv.c1 ev fun r a er=>aB h fun p ep h=>a.cI ep fun t ea=>?_
 rw[er,ea]
 exact call_range_1 (an (.rng _ _) _ ⟨fm,ob⟩ _ ρ _ (N.push (i0 _ _ _ _)) (N.later _) (.rng HP.new) ⟨h,rfl⟩)
theorem y6(h:AH as ob Q)(N:az (pm w T) base cx H ρ ⟨fm,ob⟩ frs s.heap)(hv:ai (pm w T) H ρ as ras)(an:dF w T base cx frs H ρ s fm Q Q'):wpAny (model prog w) cx.A (call (.type "tuple") ras) Q' EE s:=by
  refine aW N.inv fun m' mc' I F=>?_
  refine aB h fun v ev h=>hv.c1 ev fun r a er=>aB h fun p ep h=>a8 h fun hf h=>gL I a ep fun ad rs k ea ho hvs=>?_
  rw[er]
  cases e:p.1 with
  | true=>
    have q:=vc a ep e
    rw[e]at ho
    rw[ea]at q ⊢
    exact call_tuple_same ⟨_,ho,rfl,_,rfl⟩ (an _ _ ⟨fm,ob⟩ H ρ s N .refl q ⟨h,rfl⟩)
  | false=>
    rw[e]at ho
    rw[ea]
    refine call_tuple_list ⟨_,ho,rfl,_,rfl⟩ (fun h' hk=>?_) (by rw[List.size_toArray,←aN hvs];exact dB hf)
    have N₂:=N.heap hk
    exact an (.tup p.2) _ ⟨fm,ob⟩ _ ρ _ (N₂.push (eO rs)) ⟨HP.le,fun a o e=>e.elim .inl fun⟨e,_⟩=>.inr (e▸(let ⟨_,_,J,_⟩:=N₂.inv;J.topNew)),.refl,rfl,rfl,rfl⟩ (.tup HP.new (hvs.mono HP.le .refl)) ⟨h,rfl⟩
theorem ou{ad:Addr}{rs:List Value}{k:Nat}{vs:List V}{tb:Bool}(N:az (pm w T) base cx H ρ ⟨fm,ob⟩ frs s.heap)(an:dF w T base cx frs H ρ s fm Q Q')(ho:s.heap.get? ad=some ⟨.type (if tb then "tuple" else "list"),none,.seq rs.toArray k,#[]⟩)(hvs:ai (pm w T) H ρ vs rs)(hf:few vs.length=true)(h:bo ob (.list vs) Q):wpAny (model prog w) cx.A (call (.type "list") [.ref ad]) Q' EE s:=by
 refine call_list_seq ad (T:=if tb then "tuple" else "list") (by cases tb <;> simp) ho rfl rfl (fun h' c' hk ho'=>?_) (by rw[List.size_toArray,←aN hvs];exact dB hf)
 refine nT (f6 (σ:=⟨fm,ob⟩) (Q:=fun v σ=>Q v σ.ob∧σ.fm=fm) (tk:=s.toks) N (fun b o _ e=>hk b o e) (fun m hm=>hm.keeps hk) fQ ho' hvs (lQ (cx:=cx) h)) fun v σ' ρ' N₂ L₂ R₂ h₂=>?_
 exact an v _ σ' H ρ' _ N₂ L₂ R₂ h₂
theorem q5{by_:Array UInt8}{t:Tok}{kk:Bool}(O:cx.A.handled=none)(N:az (pm w T) base cx H ρ ⟨fm,ob⟩ frs s.heap)(an:dF w T base cx frs H ρ s fm Q Q')(hf:few (aw by_).length=true)(h:Q (.irow kk (aw by_)) ob):wpAny (model prog w) cx.A (call (.type "list") [.bytes by_ t]) Q' EE s:=by
 have hl:(aw by_).length=by_.size:=by unfold aw;rw[List.length_map,Array.length_toList]
 refine lb O by_ t (fun h' tk acc' c' hk ho hI=>?_) (by rw[←hl];exact dB hf)
 refine a7 (ic (tk:=tk) N (fun b o _ e=>hk b o e) (fun m hm=>hm.keeps hk) fQ ho) fun N₂ L₂=>?_
 have hints:IntsAre acc'.toList (aw by_):=by
  refine tX (by rw[hl,Array.length_toList];exact hI.1) fun i v e=>?_
  refine aW (hI.2 i v (by simpa using e)) fun ch u e1 e2=>?_
  refine⟨(ch.toNat:Int),u,?_,e2⟩
  unfold aw
  rw[List.getElem?_map,Array.getElem?_toList,e1];rfl
 refine an (.irow _ _) _ ⟨fm,ob⟩ _ ρ _ N₂ L₂ (.irow (rs:=acc'.toList) (n:=c') ?_ hints) ⟨h,rfl⟩
 show H.and _ _ _ (aA acc'.toList c')
 rw[show aA acc'.toList c'={cls:=.type "list",data:=.seq acc' c'} by simp[aA,PySem.W.listOf]]
 exact HP.new
theorem Ac{mm:Nat}(O:cx.Ok mm)(h:Iu as ob Q)(N:az (pm w T) base cx H ρ ⟨fm,ob⟩ frs s.heap)(hv:ai (pm w T) H ρ as ras)(an:dF w T base cx frs H ρ s fm Q Q'):wpAny (model prog w) cx.A (call (.type "list") ras) Q' EE s:=by
 refine aW N.inv fun m' mc' I F=>?_
 refine aB h fun v ev h=>hv.c1 ev fun r a er=>du h (fun p ep h=>a.cY ep fun b t ea eb=>cg h fun hf h=>?_) fun _ h=>du h (fun p ep h=>a.cW ep fun rs ad k x y ea=>a8 h fun _ h=>a8 h fun hf h=>?_) fun _ h=>aB h fun p ep h=>a8 h fun hf h=>gL I a ep fun ad rs k ea ho hvs=>?_
 ·rw[er,ea];rw[eb]at hf h;exact q5 O.handled N an hf h
 ·rw[er,ea];exact ou (tb:=false) N an (I.frz _ _ x) (iL y) (by rw[j7];exact hf) h
 ·rw[er,ea];exact ou N an ho hvs hf h
theorem mw{mm:Nat}(O:cx.Ok mm){ad:Addr}{rs:List Value}{k:Nat}{xs:List Int}{kb:Bool}(N:az (pm w T) base cx H ρ ⟨fm,ob⟩ frs s.heap)(an:dF w T base cx frs H ρ s fm Q Q')(ho:s.heap.get? ad=some (aA rs k))(hx:IntsAre rs xs)(h1:∀x∈xs,0≤x∧x < 256)(hl:xs.length≤1000)(h:Q (.bytes kb xs) ob):wpAny (model prog w) cx.A (call (.type "bytes") [.ref ad]) Q' EE s:=by
 refine call_bytes_ints (vs:=rs) (ns:=xs) ⟨_,ho,rfl,_,rfl⟩ hx h1 (by rw[hx.length];exact Nat.le_trans hl (by rw[sizeLine_eq];decide)) O.handled fun h' t k hk=>?_
 exact an (.bytes kb xs) _ ⟨fm,ob⟩ H ρ _ (N.heap hk) .heap (by have q:ag (pm w T) H ρ (.bytes kb (aw (byteArr xs))) (.bytes (byteArr xs) t):=.bytes;rw[qo h1]at q;exact q) ⟨h,rfl⟩
theorem zQ{mm:Nat}(O:cx.Ok mm)(h:B0 as ob Q)(N:az (pm w T) base cx H ρ ⟨fm,ob⟩ frs s.heap)(hv:ai (pm w T) H ρ as ras)(an:dF w T base cx frs H ρ s fm Q Q'):wpAny (model prog w) cx.A (call (.type "bytes") ras) Q' EE s:=by
 refine aW N.inv fun m' mc' I F=>?_
 refine aB h fun v ev h=>hv.c1 ev fun r a er=>du h (fun p ep h=>a.cW ep fun rs ad k x y ea=>cg h fun h1 h=>cg h fun h2 h=>?_) fun _ h=>aB h fun vs es h=>aB h fun l hi h=>a8 h fun hf h=>jU I a es fun ad rs k ea ho hvs=>?_
 ·rw[er,ea];exact mw O N an (I.frz _ _ x) y (Jt h1) (Nat.le_of_ble_eq_true h2) h
 ·refine a7 (pF h) fun h1 h2=>?_
  have hx:=gE hvs hi
  rw[er,ea];exact mw O N an ho hx h1 (by rw[←hx.length,←aN hvs];exact Nat.le_of_ble_eq_true hf) h2
theorem Cg{i:Ti}{m:Nat}(O:cx.Ok m)
  (h:H4 i as ob Q) (N:az (pm w T) base cx H ρ ⟨fm,ob⟩ frs s.heap) (hv:ai (pm w T) H ρ as ras)
  (an:c5 w T base cx frs H ρ s (fun v σ=>Q v σ.ob∧σ.fm=fm) Q'):wpAny (model prog w) cx.A (call (.type i.name) ras) Q' EE s:=by
 cases i with
 |int=>exact Hp h N hv an
 |str=>exact HA h N hv an
 |range=>exact zh h N hv an
 |tuple=>exact y6 h N hv an
 |list=>exact Ac O h N hv an
 |bytes=>exact zQ O h N hv an
 |zip=>exact h.elim
 |enumerate=>exact h.elim
end
end
end
section
section
variable {prog:Program}{w:World}{T:Nat→V}{base:Heap}{c:ck}{K:Frag}{E:Ev}{n:Nat}
theorem qA{M:Model}{R:Addr→Prop}{A:Around}{env:Env}{outer:List Env}{frs:aJ}{H:HP}{L e:Addr}{s:Shared}{Q:Unit→Shared→Prop}{EE:Value→Shared→Prop}(hfr:A.frames=some (env::outer))(hf:env.frame=some L)
  (t:cH base R (env::outer) frs H e s.heap) (q:∀h',cH base R outer frs H e h'→Q () {s with heap:=h'}):wpAny M A (leaving env (.ref e)) Q EE s:=by
 obtain⟨B,H₁,t1,t2,t3,t4,t5,C,a0,hR,hk,hn,hF,h⟩:=t
 have go:∀h',s.heap.UpToSlots h'→xt B R outer e h'→cH base R outer frs H e h':=fun h' k t6=>
  ⟨B,H₁,t1,t2,t3,t4,fun p hp=>⟨(t5 p hp).1.imp id fun⟨hn,o,ho,hφ⟩=>(let ⟨_,hs⟩:=k _ _ ho (hn.nf _ _ hφ);⟨hn,_,hs,hn.dat H₁ H₁ o _ rfl hφ⟩),(t5 p hp).2⟩,t6⟩
 rcases h with h|h
 ·refine NF h fun oe vs e1 e2 e3 e4 e5=>?_
  refine wpAny_leaving_firstW hfr hF hf e1 hk hn e3 e5 e4 fun h' ⟨k1,⟨_,_,k2⟩,k3,k4⟩=>q h' (go h' k4 ⟨C,a0,hR,k1,hn,k2,.inr (e2▸k3)⟩)
 ·exact wpAny_leaves_onW hfr hf ⟨hk,hn,hF,h⟩ fun h' ⟨k1,k2,k3,k4⟩ k5=>q h' (go h' k5 ⟨C,a0,hR,k1,k2,k3,.inr k4⟩)
theorem uE{kindOf:Str→Option NameKind}{x:Str}(l:List (Str×Value)):∀(m:bG),x∉l.map (·.1)→bindL kindOf l m x=m x:=by
  induction l with
  |nil=>exact fun _ _=>rfl
  | cons p l ih=>
    intro m hx
    rw[List.map_cons,List.mem_cons,not_or]at hx
    refine(ih _ hx.2).trans ?_
    by_cases q:kindOf p.1=some .local
    · rw[if_pos q];exact if_neg hx.1
    · rw[if_neg q]
theorem vt{kindOf:Str→Option NameKind}{x:Str}(l:List (Str×Value)):∀(m:bG),x∉l.map (·.1)→bindC kindOf l m x=m x:=by
  induction l with
  |nil=>exact fun _ _=>rfl
  | cons p l ih=>
    intro m hx
    rw[List.map_cons,List.mem_cons,not_or]at hx
    refine(ih _ hx.2).trans ?_
    by_cases q:kindOf p.1=some .local
    · rw[if_pos q]
    · rw[if_neg q];exact if_neg hx.1
theorem rF{kindOf:Str→Option NameKind}{bs:List (Str×Value)}{x:Str}{r:Value}:∀{m:bG},(bs.map (·.1)).Nodup→(x,r)∈bs→kindOf x=some .local→bindL kindOf bs m x=some r:=by
  induction bs with
  |nil=>exact fun _ h _=>absurd h List.not_mem_nil
  | cons p bs ih=>
    intro m hn h hk
    rw[List.map_cons,List.nodup_cons]at hn
    rcases List.mem_cons.mp h with e|h
    · rw[←e]at hn ⊢
      refine(uE bs _ hn.1).trans ?_
      rw[if_pos hk];exact if_pos rfl
    · exact ih hn.2 h hk
theorem CJ{kindOf:Str→Option NameKind}{bs:List (Str×Value)}{x:Str}{r:Value}:∀{m:bG},(bs.map (·.1)).Nodup→(x,r)∈bs→kindOf x≠some .local→bindC kindOf bs m x=some r:=by
  induction bs with
  |nil=>exact fun _ h _=>absurd h List.not_mem_nil
  | cons p bs ih=>
    intro m hn h hk
    rw[List.map_cons,List.nodup_cons]at hn
    rcases List.mem_cons.mp h with e|h
    · rw[←e]at hn ⊢
      refine(vt bs _ hn.1).trans ?_
      rw[if_neg hk];exact if_pos rfl
    · exact ih hn.2 h hk
theorem aM.addPlace{P:Pm}{H:HP}{ρ:List Addr}{frs:aJ}{ob:Tr}{h:Heap}{D:Addr}{φ:Fp}(I:aM P base H ρ frs ob h)(nb:base.get? D=none)(nH:∀o,¬H D o)(nf:D∉frs.map (·.1))(nR:D∉ρ)(hn:∃o,h.get? D=some o∧φ.φ H o)
  (nO:∀i o a,ob.get i=some o→ρ[i]?=some a→a≠D):aM P base H ρ ((D,φ)::frs) ob h:=by
 refine⟨I.keep,I.frz,fun p hp=>?_,fun p hp=>?_,?_,fun i o e=>?_,I.dup,I.there,fun a ha z=>?_⟩
 ·rcases List.mem_cons.mp hp with rfl|hp
  ·exact hn
  ·exact I.frNs p hp
 ·rcases List.mem_cons.mp hp with rfl|hp
  ·exact⟨nb,nH⟩
  ·exact I.frNew p hp
 ·rw[List.map_cons,List.nodup_cons]
  exact⟨nf,I.frDup⟩
 ·refine cJ (I.own i o e) fun a h1 h2 h3=>?_
  refine⟨a,h1,h2,fun l=>⟨(h3 l).nb,(h3 l).nH,fun z=>?_⟩⟩
  rw[List.map_cons]at z
  rcases List.mem_cons.mp z with e'|z
  ·exact nO i o a e h1 e'
  ·exact(h3 l).nf z
 ·rw[List.map_cons]at z
  rcases List.mem_cons.mp z with e|z
  ·exact nR (by have e:a=D:=e;rw[←e];exact ha)
  ·exact I.rf a ha z
theorem pn{cs:List (Str×Addr)}{mc:bG}:(aC cs mc).map (·.1)=cs.map (·.2):=by unfold aC;rw[List.map_map];rfl
theorem sX{P:Pm}{H:HP}{ρ:List Addr}{frs:aJ}{ob:Tr}{h h₁:Heap}(I:aM P base H ρ frs ob h)(k:∀b o,h.get? b=some o→h₁.get? b=some o)(mc:bG)(cs:List (Str×Addr)):(∀p∈cs,h.get? p.2=none∧∃o,h₁.get? p.2=some o∧(dC (mc p.1)).φ H o)→(cs.map (·.2)).Nodup→
    aM P base H ρ (aC cs mc++frs) ob h₁:=by
  induction cs with
  |nil=>exact fun _ _=>I.keeps k
  | cons x cs ih=>
    intro hc hn
    rw[List.map_cons,List.nodup_cons]at hn
    have J:=ih (fun p hp=>hc p (.tail _ hp)) hn.2
    refine a7 (hc x (.head _)) fun h1 h2=>?_
    have nR:x.2∉ρ:=fun q=>by obtain⟨o,e⟩:=I.there x.2 q;rw[h1]at e;cases e
    refine J.addPlace (D:=x.2) (eV I.keep h1) (fun o e=>by rw[I.frz _ _ e]at h1;cases h1) (fun q=>?_) nR h2 (fun i o b _ e q=>nR (q▸List.mem_of_getElem? e))
    rw[List.map_append]at q
    rcases List.mem_append.mp q with q|q
    · exact hn.1 (by rw[←pn (mc:=mc)];exact q)
    · refine aq (List.mem_map.mp q) fun p hp e=>?_
      refine aq (I.frNs p hp) fun o e' _=>?_
      rw[e,h1]at e';cases e'
theorem kH{P:Pm}{H:HP}{ρ:List Addr}{frs l:aJ}{ob:Tr}{h:Heap}(I:aM P base H ρ (l++frs) ob h):aM P base H ρ frs ob h:=by
 induction l with
 |nil=>exact I
 |cons p l ih=>exact ih I.leave
theorem yY{α:Type}{x y:Str}{v:α}{l:List (Str×α)}(h:(l.lookup x).isSome=true):(((y,v)::l).lookup x).isSome=true:=by
 rw[List.lookup_cons]
 cases x==y with
 |true=>rfl
 |false=>exact h
theorem jc(p:Str×NameKind)(r:List (Str×NameKind))(n:Nat)(acc:List (Str×Addr)):(p.2=.cell∧cellsFrom n (p::r) acc=cellsFrom (n+1) r ((p.1,n)::acc))∨(p.2≠.cell∧cellsFrom n (p::r) acc=cellsFrom n r acc):=by
 obtain⟨y,k⟩:=p
 cases k <;> first|exact .inl ⟨rfl,rfl⟩|exact .inr ⟨fun e=>NameKind.noConfusion e,rfl⟩
theorem nU{x:Str}(names:List (Str×NameKind)):∀(n:Nat) (acc:List (Str×Addr)),(acc.lookup x).isSome=true→((cellsFrom n names acc).lookup x).isSome=true:=by
  induction names with
  |nil=>exact fun _ _ h=>h
  | cons p r ih=>
    intro n acc h
    rcases jc p r n acc with⟨_,q⟩|⟨_,q⟩
    · rw[q];exact ih _ _ (yY h)
    · rw[q];exact ih _ _ h
theorem iS {x:Str} (names:List (Str×NameKind)):∀(n:Nat) (acc:List (Str×Addr)),names.lookup x=some .cell→((cellsFrom n names acc).lookup x).isSome=true:=by
  induction names with
  |nil=>exact fun _ _ h=>nomatch h
  | cons p r ih=>
    intro n acc h
    have h:(match x==p.1 with|true=>some p.2|false=>r.lookup x)=some .cell:=h
    cases e:x==p.1 with
    | true=>
      rw[e]at h
      rcases jc p r n acc with⟨_,q⟩|⟨q',_⟩
      · rw[q]
        refine nU r _ _ ?_
        rw[List.lookup_cons,e];rfl
      · exact absurd (ae h) q'
    | false=>
      rw[e]at h
      rcases jc p r n acc with⟨_,q⟩|⟨_,q⟩ <;> (rw[q];exact ih _ _ h)
theorem CO{d n:Nat}(h:d+2*(n+1)+8 < recursionLimit):d+1+2*n+8 < recursionLimit:=by lia
theorem vo{d n:Nat}(h:d+2*(n+1)+8 < recursionLimit):d < recursionLimit:=by lia
theorem Ex{d n k:Nat}(h:d+16*(n+1)+128 < k):d+3+16*n+128 < k:=by lia
theorem xm{α:Type}{o:Option α}(h:o.isSome=true):∃b,o=some b:=by cases o;cases h;exact⟨_,rfl⟩
noncomputable abbrev qb(A:Around)(l:List Env)(qual:Str)(i:af)(L a:Addr)(cdv:Value)(cs:List (Str×Addr)):Cx:=⟨A.deeper (envX qual i.sc L a cdv cs),qual,i.sc,L,cs,some a,i.sc,L,a,cs,cdv,cs,l⟩
theorem Dr{P:Pm}{H:HP}{ρ:List Addr}{A:Around}{l:List Env}{qual:Str}{i:af}{L a:Addr}{cdv:Value}{fm':List (Str×V)}{bs:List (Str×Value)}{kd:Str→Option NameKind}(Fo:yR K a i)(hn:fm'.map (·.1)=i.ps)(hfb:fw P H ρ fm' bs)(hk:∀x k,i.sc.names.lookup x=some k→kd x=some k) :
  iC P H ρ (qb A l qual i L a cdv (cellsFrom (L+1) i.sc.names [])) fm' (bindL kd bs fun _=>none) (bindC kd bs fun _=>none):=fun y v e=>by
 rw[eH]at e
 have hy:y∈i.ps:=by rw[←hn];exact List.mem_map.mpr ⟨_,bD e,rfl⟩
 have hbd:(bs.map (·.1)).Nodup:=by rw[←hfb.names,hn];exact Fo.nodup
 refine aq (hfb.look e) fun r h1 h2=>?_
 refine⟨(Fo.locs y hy).2,r,(Fo.locs y hy).1.elim (fun q=>.inl ⟨q,rF hbd (bD h1) (hk _ _ q)⟩) fun q=>.inr (.inl ⟨q.1,xm (q.2 (L+1)),CJ hbd (bD h1) (by rw[hk _ _ q.1];exact fun h=>nomatch h)⟩),h2⟩
theorem AX{A:Around}{l:List Env}{qual:Str}{i:af}{L a:Addr}{cdv:Value}(Fo:yR K a i)(hlam:∀l∈iF,i.sc.names.lookup l.key=some .cell→cdv=.ref l.code∧qual=l.fn)(hfr:A.frames=some l)(hh:A.handled=none)(hd:A.depth+2*(n+1)+8 < recursionLimit)(hu:A.units+16*(n+1)+128 < cLine) :
  (qb A l qual i L a cdv (cellsFrom (L+1) i.sc.names [])).Ok n:=
 ⟨Around.frames_deeper hfr,hh,Fo.kind,Fo.kind,CO hd,Ex hu,fun x a _ e=>bD e,cellsFrom_names i.sc.names 0 (L+1) [] [] rfl▸Fo.apart,fun y e=>xm (iS i.sc.names (L+1) [] e),hlam⟩
theorem yM{P:Pm}{H:HP}{ρ:List Addr}{frs:aJ}{ob:Tr}{h h₁:Heap}{m mc:bG}{cs:List (Str×Addr)}(I:aM P base H ρ frs ob h)(hk₁:∀b o,h.get? b=some o→h₁.get? b=some o)(hc:∀p∈cs,h.get? p.2=none∧∃o,h₁.get? p.2=some o∧(dC (mc p.1)).φ H o)(hcd:(cs.map (·.2)).Nodup)
  (hab:∀p∈cs,h.objs.size < p.2) (hns:h₁.Ns h.objs.size m):aM P base H ρ ((h.objs.size,aK m)::(aC cs mc++frs)) ob h₁:=by
 have nR:h.objs.size∉ρ:=I.topR
 refine(sX I hk₁ mc cs hc hcd).addPlace I.topNew I.topH (fun q=>?_) nR (cw.mpr hns) (fun i o b _ e q=>nR (q▸List.mem_of_getElem? e))
 rw[List.map_append]at q
 refine(List.mem_append.mp q).elim (fun q=>?_) I.topF
 rw[pn]at q
 exact(List.mem_map.mp q).elim fun p hp=>absurd (hab p hp.1) (by rw[hp.2];exact Nat.lt_irrefl _)
noncomputable def Qn(r:Flow):Value:=match r with
 |.ret v=>v
 |_=>.none
theorem JS{P:Pm}{H:HP}{ρ:List Addr}{f:Fl}{r:Flow}(R:oG P H ρ f r):ag P H ρ (tw f) (Qn r):=by
 cases R with
 |next=>exact .none
 |brk=>exact .none
 |cont=>exact .none
 |ret q=>exact q
theorem rj (G:aI prog w T c K base) {A:Around} {l:List Env} {a:Addr} {i:af} {as:List V} {ras:List Value} {ob:aR} {fm':List (Str×V)} {H:HP} {ρ:List Addr} {frs:aJ} {s:Shared} {R:Result→Shared→Prop} (hfr:A.frames=some l) (hh:A.handled=none) (hd:A.depth+2*(n+1)+8 < recursionLimit) (hu:A.units+16*(n+1)+128 < cLine)
    (hi:c.FI a=some i) (hb:iQ i.ps as i.ds=some fm') (I:aM (pm w T) base H ρ frs ob.tr s.heap) (hlen:ρ.length=ob.nx) (hout:bH l frs) (hv:ai (pm w T) H ρ as ras)
    (k:∀qual cdv cs h₁ tk,(qb A l qual i s.heap.objs.size a cdv cs).Ok n→az (pm w T) base (qb A l qual i s.heap.objs.size a cdv cs) H ρ ⟨fm',ob⟩ frs h₁→(∀b o,s.heap.get? b=some o→h₁.get? b=some o)→
      wpAny (model prog w) (qb A l qual i s.heap.objs.size a cdv cs).A (execs i.body (qb A l qual i s.heap.objs.size a cdv cs).fenv) (fun f s'=>R (.ok (.ret (match f with|.ret v=>v|_=>.none))) s')
        (fun e s'=>wpAny (model prog w) (qb A l qual i s.heap.objs.size a cdv cs).A (leaving (qb A l qual i s.heap.objs.size a cdv cs).fenv e) (fun _ s''=>R (.error e) s'') (fun e' s''=>R (.error e') s'') s') {s with heap:=h₁,toks:=tk}) :
    codeAny (model prog w) A (.call (.ref a) ⟨ras,[]⟩) R s:=by
  have Fo:=G.fi _ _ hi
  refine cps fun G0 kk=>?_
  refine Mj Fo.obj fun Z hK hcd hbind hlam=>?_
  have Xh:=G.kin.keeps I.keep
  refine aq (hbind s as ras fm' _ H ρ Xh hb hv) fun bs hbs hfb=>?_
  refine kk ?_
  have hnames:=kR _ hb
  have hloc:∀x∈bs,x.1∈i.ps:=fun x hx=>by rw[←hnames,hfb.names];exact List.mem_map.mpr ⟨x,hx,rfl⟩
  refine codeAny_call_function (vo hd) (Xh _ _ hK) rfl Fo.co Fo.gen rfl (codeRec_of Xh hcd) (hbs _ _ _ _ ?_)
  refine wpAny_newFunctionEnv_cells Fo.kind (fun x hx=>(Fo.locs x.1 (hloc x hx)).1.imp id fun q=>⟨q.1,q.2 _⟩) fun env' he s' x=>?_
  rw[he]at x ⊢
  refine⟨(G.nolimit.keeps I.keep).keeps x.toInCall.keep,codeAny_func ?_⟩
  refine aW x.done fun h₁ tk rq2 _=>?_;subst rq2
  have hcn:=cellsFrom_names i.sc.names 0 (s.heap.objs.size+1) [] [] rfl▸Fo.apart
  have hk₁:=x.toInCall.keep
  have I₁:=yM I hk₁ (fun p hp=>⟨Heap.get?_none_of_le (Nat.le_of_lt (x.above p.1 p.2 hp)),x.cell p.1 p.2 (lookup_of_mem_nodup hcn hp)⟩) (List.pairwise_map.mpr x.apart) (fun p hp=>x.above p.1 p.2 hp) x.toInCall.ns
  exact k Z.qual Z.cdv _ h₁ tk (AX Fo hlam hfr hh hd hu) ⟨⟨_,_,I₁,Dr Fo hnames hfb fun x k e=>e⟩,hlen,hout,.inl rfl⟩ hk₁
theorem qv(G:aI prog w T c K base)(S:de prog w T base c.R E n){A:Around}{l:List Env}{a:Addr}{i:af}{as:List V}{ras:List Value}{ob:aR}{Q:V→aR→Prop}{H:HP}{ρ:List Addr}{frs:aJ}{s:Shared}{Q':Value→Shared→Prop}{EE:Value→Shared→Prop}(hfr:A.frames=some l)(hh:A.handled=none)(hd:A.depth+2*(n+1)+8 < recursionLimit)(hu:A.units+16*(n+1)+128 < cLine)
  (hi:c.FI a=some i) (h:ao E i as ob Q) (I:aM (pm w T) base H ρ frs ob.tr s.heap) (hlen:ρ.length=ob.nx) (hout:bH l frs) (X:∀e s',s'.gens=s.gens→s'.drawn=s.drawn→s'.os=s.os→cH base c.R l frs H e s'.heap→EE (.ref e) s') (hv:ai (pm w T) H ρ as ras)
  (an:∀v r ob' H' ρ' s',aM (pm w T) base H' ρ' frs ob'.tr s'.heap→ρ'.length=ob'.nx→aH base H ρ s H' ρ' s'→ag (pm w T) H' ρ' v r→Q v ob'→Q' r s'):codeAny (model prog w) A (.call (.ref a) ⟨ras,[]⟩) (jA Q' EE) s:=by
 refine aB h fun fm' hb h=>rj (n:=n) G hfr hh hd hu hi hb I hlen hout hv fun qual cdv cs h₁ tk O' N' hk₁=>?_
 refine S.ss _ i.body ⟨fm',ob⟩ _ O' h H ρ frs {s with heap:=h₁,toks:=tk} _ _ N' ⟨fun e s' g1 g2 g3 t=>qA O'.frames rfl t fun h' t'=>X e _ g1 g2 g3 t',PassesOwn.leaving⟩ fun f r σ' H' ρ' s' N₁ L₁ R₁ h₁'=>?_
 refine aW N₁.inv fun m₁ mc₁ J₁ F₁=>?_
 exact an (tw f) _ σ'.ob H' ρ' s' (kH J₁.leave) N₁.len ⟨L₁.le,L₁.new,L₁.grows,L₁.gens,L₁.drawn,L₁.os⟩ (JS R₁) h₁'
theorem MP(G:aI prog w T c K base)(S:de prog w T base c.R E n){cx:Cx}{a:Addr}{i:af}{as:List V}{ras:List Value}{fm:List (Str×V)}{ob:aR}{Q:V→aR→Prop}{H:HP}{ρ:List Addr}{frs:aJ}{s:Shared}{Q':Value→Shared→Prop}{EE:Value→Shared→Prop}(O:cx.Ok (n+1))
  (hi:c.FI a=some i) (h:ao E i as ob Q) (N:az (pm w T) base cx H ρ ⟨fm,ob⟩ frs s.heap) (X:eB base c.R cx frs H s EE) (hv:ai (pm w T) H ρ as ras)
  (an:c5 w T base cx frs H ρ s (fun v σ=>Q v σ.ob∧σ.fm=fm) Q'):codeAny (model prog w) cx.A (.call (.ref a) ⟨ras,[]⟩) (jA Q' EE) s:=by
 refine aW N.inv fun m mc I F=>?_
 refine qv G S O.frames O.handled O.depth O.units hi h I N.len (eW O N.outer N.self) (X.sub fun p hp=>.tail _ (List.mem_append_right _ hp)) hv fun v r ob' H' ρ' s' I' hl L' R' q=>?_
 exact an v r ⟨fm,ob'⟩ H' ρ' s' ⟨⟨m,mc,I',F.mono L'.le L'.grows⟩,hl,N.outer,N.self⟩ L' R' ⟨q,rfl⟩
end
end
section
structure dZ(P:Pm)(base:Heap)(H:HP)(ρ:List Addr)(frs:aJ)(h:Heap)(ob ob':aR)(H':HP):Prop where
 inv:aM P base H' ρ frs ob'.tr h
 le:∀a o,H a o→H' a o
 new:∀a o,H' a o→H a o∨base.get? a=none
 nx:ob'.nx=ob.nx
section
variable {P:Pm}{base h:Heap}{ρ:List Addr}{frs:aJ}
theorem dZ.refl{H:HP}{ob:aR}(I:aM P base H ρ frs ob.tr h):dZ P base H ρ frs h ob ob H:=⟨I,fun _ _ e=>e,fun _ _ e=>.inl e,rfl⟩
theorem dZ.trans{H H' H'':HP}{ob ob' ob'':aR}(x:dZ P base H ρ frs h ob ob' H')(y:dZ P base H' ρ frs h ob' ob'' H''):dZ P base H ρ frs h ob ob'' H'':=
 ⟨y.inv,fun a o e=>y.le a o (x.le a o e),fun a o e=>(y.new a o e).elim (x.new a o) .inr,y.nx.trans x.nx⟩
noncomputable abbrev CA(P:Pm)(base h:Heap)(ρ:List Addr)(frs:aJ)(f:aR→V→Option (V×aR)):Prop:=
 ∀(ob:aR) (H:HP) v r p,aM P base H ρ frs ob.tr h→ag P H ρ v r→f ob v=some p→∃H',dZ P base H ρ frs h ob p.2 H'∧ag P H' ρ p.1 r
theorem fW{f:aR→V→Option (V×aR)}(ih:CA P base h ρ frs f)(vs:List V):∀(ob:aR) (H:HP) rs p,aM P base H ρ frs ob.tr h→ai P H ρ vs rs→d7 f ob vs=some p→
    ∃H',dZ P base H ρ frs h ob p.2 H'∧ai P H' ρ p.1 rs:=by
  induction vs with
  |nil=>exact fun ob H rs p I hv e=>hv.nil' fun er=>er▸ae e▸⟨H,.refl I,.nil⟩
  | cons v vs ih2=>
    refine fun ob H rs p I hv e=>au e fun p₁ e1 e=>au e fun p₂ e2 e=>hv.cons' fun r l a b er=>?_
    refine aq (ih _ _ _ _ _ I a e1) fun H₁ F₁ R₁=>?_
    refine aq (ih2 _ _ _ _ F₁.inv (b.mono F₁.le .refl) e2) fun H₂ F₂ R₂=>?_
    rw[er,←ae e]
    exact⟨H₂,F₁.trans F₂,.cons (R₁.mono F₂.le .refl) R₂⟩
theorem wh{f:aR→V→Option (V×aR)}(ih:CA P base h ρ frs f)(vs:List (Str×V)):∀(ob:aR) (H:HP) rs p,aM P base H ρ frs ob.tr h→bt P H ρ vs rs→pQ f ob vs=some p→
    ∃H',dZ P base H ρ frs h ob p.2 H'∧bt P H' ρ p.1 rs:=by
  induction vs with
  |nil=>exact fun ob H rs p I hv e=>hv.nil' fun er=>er▸ae e▸⟨H,.refl I,.nil⟩
  | cons v vs ih2=>
    refine fun ob H rs p I hv e=>au e fun p₁ e1 e=>au e fun p₂ e2 e=>hv.cons' fun t r l a b er=>?_
    refine aq (ih _ _ _ _ _ I a e1) fun H₁ F₁ R₁=>?_
    refine aq (ih2 _ _ _ _ F₁.inv (b.mono F₁.le .refl) e2) fun H₂ F₂ R₂=>?_
    rw[er,←ae e]
    exact⟨H₂,F₁.trans F₂,.cons (R₁.mono F₂.le .refl) R₂⟩
theorem rB{f:aR→V→Option (V×aR)}(es:List (V×V)):∀(ob:aR) p,jm f ob es=some p→p.1.map (·.1)=es.map (·.1):=by
 induction es with
 |nil=>exact fun _ _ e=>ae e▸rfl
 |cons x r ih=>exact fun ob p e=>au e fun p₁ _ e=>au e fun p₂ e2 e=>ae e▸congrArg (x.1::·) (ih _ _ e2)
theorem C3{a b:List (V×V)}(e:a.map (·.1)=b.map (·.1))(h:ba b):ba a:=by
 unfold ba at h ⊢
 have h1:(b.map (·.1)).Pairwise fun x y=>bu x y=false:=List.pairwise_map.mpr h
 rw[←e]at h1
 exact List.pairwise_map.mp h1
theorem uG{f:aR→V→Option (V×aR)}(ih:CA P base h ρ frs f)(vs:List (V×V)):∀(ob:aR) (H:HP) rs p,aM P base H ρ frs ob.tr h→bF P H ρ vs rs→jm f ob vs=some p→
    ∃H',dZ P base H ρ frs h ob p.2 H'∧bF P H' ρ p.1 rs:=by
  induction vs with
  |nil=>exact fun ob H rs p I hv e=>hv.nil' fun er=>er▸ae e▸⟨H,.refl I,.nil⟩
  | cons v vs ih2=>
    refine fun ob H rs p I hv e=>au e fun p₁ e1 e=>au e fun p₂ e2 e=>hv.cons' fun hs kr r l k kh a b er=>?_
    refine aq (ih _ _ _ _ _ I a e1) fun H₁ F₁ R₁=>?_
    refine aq (ih2 _ _ _ _ F₁.inv (b.mono F₁.le .refl) e2) fun H₂ F₂ R₂=>?_
    rw[er,←ae e]
    exact⟨H₂,F₁.trans F₂,.cons ((k.mono F₁.le .refl).mono F₂.le .refl) kh (R₁.mono F₂.le .refl) R₂⟩
theorem dZ.one{H:HP}{ob:aR}(I:aM P base H ρ frs ob.tr h){i:Nat}{a:Addr}{x:O}{o:Obj}{v:V}(hi:ob.tr.get i=some x)(hl:x.live=true)(ha:ρ[i]?=some a)(ho:h.get? a=some o)
  (hv:ag P (H.and a o) ρ v (.ref a)):dZ P base H ρ frs h ob (bZ ob i (.frz v)) (H.and a o):=
 ⟨I.freeze hi hl ha ho (Tr.get_set _ _ _ · (by rw[hi];rfl)) hv,fun _ _ e=>.inl e,fun b y e=>e.elim .inl fun⟨q,_⟩=>.inr (q▸(I.apart hi hl ha).nb),rfl⟩
theorem vm{ob₁:aR}{H₁:HP}{i d:Nat}{aa dx C':Addr}{es:List DictEntry}{k:Nat}{fs' fs₂:List (Str×V)}(I:aM P base H₁ ρ frs ob₁.tr h)(ne:i≠d)(eo₂:ob₁.tr.get i=some (.inst C' d))(ed₂:ob₁.tr.get d=some (.ns fs₂))(ha:ρ[i]?=some aa)(a2:ρ[d]?=some dx)(b1:h.get? dx=some (dictOf es k))(R₁:bt P H₁ ρ fs' es) :
  ∃H',dZ P base H₁ ρ frs h ob₁ (lr (bZ ob₁ i (.frz (.inst C' fs'))) d) H'∧ag P H' ρ (.inst C' fs') (.ref aa):=by
 refine(I.at eo₂ ha).inst' fun dx' c1 c2=>?_
 obtain rfl:=ae (a2.symm.trans c2)
 have D:=I.apart ed₂ rfl c2
 have s1:(ob₁.tr.get i).isSome=true:=by rw[eo₂];rfl
 have s2:(ob₁.tr.get d).isSome=true:=by rw[ed₂];rfl
 have F₂:dZ P base H₁ ρ frs h ob₁ (lr ob₁ d) (H₁.and dx (dictOf es k)):=
  ⟨AS I ed₂ rfl c2 b1 (Tr.get_set _ _ _ · s2),fun _ _ e=>.inl e,fun b y e=>e.elim .inl fun⟨q,_⟩=>.inr (q▸D.nb),rfl⟩
 have eo₃:(lr ob₁ d).tr.get i=some (.inst C' d):=(Tr.get_set _ _ _ _ s2).trans ((if_neg ne).trans eo₂)
 have R₂:ag P ((H₁.and dx (dictOf es k)).and aa (instObj C' dx)) ρ (.inst C' fs') (.ref aa):=.inst HP.new (HP.le _ _ HP.new) ((R₁.mono HP.le .refl).mono HP.le .refl)
 have F₃:=F₂.trans (dZ.one F₂.inv eo₃ rfl ha c1 R₂)
 refine⟨_,⟨EG F₃.inv fun j=>?_,F₃.le,F₃.new,F₃.nx⟩,R₂⟩
 show((ob₁.tr.set i _).set d none).get j=((ob₁.tr.set d none).set i _).get j
 rw[Tr.get_set _ _ _ _ (by rw[Tr.get_set _ _ _ _ s1,if_neg (Ne.symm ne)];exact s2),Tr.get_set _ _ _ _ s1,Tr.get_set _ _ _ _ (by rw[Tr.get_set _ _ _ _ s2,if_neg ne];exact s1),Tr.get_set _ _ _ _ s2]
 by_cases z1:j=d
 ·rw[if_pos z1,if_neg (fun z:j=i=>ne (z.symm.trans z1)),if_pos z1]
 ·rw[if_neg z1,if_neg z1]
theorem HR{f:aR→V→Option (V×aR)}(ih:CA P base h ρ frs f){ob:aR}{H:HP}{i:Nat}{aa:Addr}{o:O}{p:V×aR}(I:aM P base H ρ frs ob.tr h)(ha:ρ[i]?=some aa)(eo:ob.tr.get i=some o)(e:MN f ob i o=some p):∃H',dZ P base H ρ frs h ob p.2 H'∧ag P H' ρ p.1 (.ref aa):=by
  cases o with
  |frz v=>exact ae e▸⟨H,.refl I,(I.at eo ha).inv⟩
  | list vs=>
    refine au (o:=d7 f ob vs) e fun q e1 e=>bQ e fun hs e=>pY hs fun vs₂ eo₂=>(I.at eo ha).list' fun rs k a1 a2=>?_
    refine aq (fW ih vs _ _ _ _ I a2 e1) fun H₁ F₁ R₁=>?_
    rw[←ae e]
    exact⟨_,F₁.trans (.one F₁.inv (iI eo₂) rfl ha a1 (.list HP.new (R₁.mono HP.le .refl))),.list HP.new (R₁.mono HP.le .refl)⟩
  | dict kvs=>
    refine au (o:=jm f ob kvs) e fun q e1 e=>bQ e fun hs e=>pY hs fun vs₂ eo₂=>(I.at eo ha).dict' fun es k a1 a2 a3 a4=>?_
    refine aq (uG ih kvs _ _ _ _ I a4 e1) fun H₁ F₁ R₁=>?_
    have hd:ba q.1:=C3 (rB kvs _ _ e1) a3
    rw[←ae e]
    exact⟨_,F₁.trans (.one F₁.inv (Jk eo₂) rfl ha a1 (.dict HP.new a2 hd (R₁.mono HP.le .refl))),.dict HP.new a2 hd (R₁.mono HP.le .refl)⟩
  | inst C d=>
    refine au (o:=oN _) e fun fs ed e=>au e fun q e1 e=>au e fun x eo₂ e=>bQ e fun hs e=>ar hs fun hs hq=>ar hq fun q1 q2=>pY hs fun fs₂ ed₂=>(I.at eo ha).inst' fun dx a1 a2=>(I.at (Ht ed) a2).ns' fun es k b1 b2=>?_
    refine aq (wh ih fs _ _ _ _ I b2 e1) fun H₁ F₁ R₁=>?_
    have eo₂:=Kv eo₂
    rw[Nat.eq_of_beq_eq_true q1]at eo₂
    refine aq (vm F₁.inv (Nat.ne_of_beq_eq_false (bS q2)) eo₂ (Ht ed₂) ha a2 b1 R₁) fun H₂ F₂ R₂=>?_
    rw[←ae e]
    exact⟨H₂,F₁.trans F₂,R₂⟩
  |ns=>cases e
theorem ix(n:Nat):CA P base h ρ frs (freeze n):=by
  induction n with
  |zero=>exact fun _ _ _ _ _ _ _ e=>nomatch e
  | succ n ih=>
    refine fun ob H v r p I hv e=>cP e (fun i ei e=>au e fun o eo e=>hv.cR ei fun aa ha er=>er▸HR ih I ha eo e) fun _ e=>cP e (fun vs ev e=>au e fun q e1 e=>hv.cT ev fun rs a h1 h2 er=>?_) fun _ e=>ae e▸⟨H,.refl I,hv⟩
    refine aq (fW ih vs _ _ _ _ I h2 e1) fun H₁ F₁ R₁=>?_
    rw[er,←ae e]
    exact⟨H₁,F₁,.tup (F₁.le _ _ h1) R₁⟩
end
end
section
section
variable {P:Pm}{H:HP}{ρ:List Addr}
noncomputable abbrev A6(P:Pm)(H:HP)(ρ:List Addr)(f:V→Bool):Prop:=∀v r,ag P H ρ v r→f v=true→ag P H [] v r
theorem d9{f:V→Bool}(ih:A6 P H ρ f){vs:List V}{rs:List Value}(h:ai P H ρ vs rs)(e:bb f vs=true):ai P H [] vs rs:=by
 induction vs generalizing rs with
 |nil=>exact h.nil' fun e=>e▸.nil
 |cons v vs i2=>exact h.cons' fun r l a b er=>er▸.cons (ih _ _ a (a9 e).1) (i2 b (a9 e).2)
theorem oS{f:V→Bool}(ih:A6 P H ρ f){fs:List (Str×V)}{es:List DictEntry}(h:bt P H ρ fs es)(e:bb (fun p=>f p.2) fs=true):bt P H [] fs es:=by
 induction fs generalizing es with
 |nil=>exact h.nil' fun e=>e▸.nil
 |cons v vs i2=>exact h.cons' fun t r l a b er=>er▸.cons (ih _ _ a (a9 e).1) (i2 b (a9 e).2)
theorem oR{f:V→Bool}(ih:A6 P H ρ f){fs:List (V×V)}{es:List DictEntry}(h:bF P H ρ fs es)(e:bb (fun p=>ay (f p.1) (f p.2)) fs=true):bF P H [] fs es:=by
 induction fs generalizing es with
 |nil=>exact h.nil' fun e=>e▸.nil
 |cons v vs i2=>exact ar (a9 e).1 fun e1 e2=>h.cons' fun hs kr r l a k b c er=>er▸.cons (ih _ _ a e1) k (ih _ _ b e2) (i2 c (a9 e).2)
theorem jr(hT:∀k r,ag P H ρ (P.T k) r→ag P H [] (P.T k) r)(n:Nat):A6 P H ρ (ph n):=by
  induction n with
  |zero=>exact fun _ _ _ e=>nomatch e
  | succ n ih=>
    intro v r hv e
    cases hv with
    |none=>exact .none
    |bool=>exact .bool
    |int=>exact .int
    |str h=>exact .str h
    |bytes=>exact .bytes
    |irow a b=>exact .irow a b
    |tup a b=>exact .tup a (d9 ih b e)
    |inst a b c=>exact .inst a b (oS ih c e)
    |list a b=>exact .list a (d9 ih b e)
    |dict a b c d=>exact .dict a b c (oR ih d e)
    |ref=>cases e
    |glob=>exact .glob
    |blt=>exact .blt
    |typ=>exact .typ
    |named a=>exact .named (hT _ _ a)
    |rng a=>exact .rng a
end
theorem rW{base B h:Heap}{R:Addr→Prop}{l:List Env}{frs:aJ}{H:HP}{e:Addr}(k:base.StaysIn B)(t:cH B R l frs H e h):cH base R l frs H e h:=
 let ⟨B',H₁,t1,t2,t3,t4⟩:=t;⟨B',H₁,fun b o q=>t1 b o (k b o q),t2,fun a o q=>(t3 a o q).imp id (fresh_of_stays k ·),t4⟩
section
variable {prog:Program}{w:World}{T:Nat→V}{base:Heap}{c:ck}{K:Frag}{E:Ev}{n:Nat}
theorem wu{G:Prop}{as:List V}{ob:aR}{p}(h:Ek as ob=some p)(k:d7 (freeze 12) ob as=some p→bb (ph 14) p.1=true→G):G:=au h fun q e h=>bQ h fun b h=>by rw[←ae h]at k;exact k e b
theorem F4 (G:aI prog w T c K base) {cx:Cx} {a:Addr} {m:Nat} {Sp:bf} {as:List V} {fa:List V×aR} {ras:List Value} {fm:List (Str×V)} {ob:aR} {Q:V→aR→Prop} {H:HP} {ρ:List Addr} {frs:aJ} {s:Shared} {Q':Value→Shared→Prop} {EE:Value→Shared→Prop}
    (O:cx.Ok m) (hc:c.C a=some (m,Sp)) (hf:d7 (freeze 12) ob as=some fa) (hr:bb (ph 14) fa.1=true) (h:Sp fa.1 (fun v=>Q v fa.2) c.R) (N:az (pm w T) base cx H ρ ⟨fm,ob⟩ frs s.heap) (X:eB base c.R cx frs H s EE) (hv:ai (pm w T) H ρ as ras)
    (an:c5 w T base cx frs H ρ s (fun v σ=>Q v σ.ob∧σ.fm=fm) Q'):codeAny (model prog w) cx.A (.call (.ref a) ⟨ras,[]⟩) (jA Q' EE) s:=by
  refine aW N.inv fun m' mc' I F=>?_
  refine aq (fW (ix 12) as ob H ras fa I hv hf) fun H₁ F₁ R₁=>?_
  have R₂:=d9 (jr (G.named · _ _ ·) 14) R₁ hr
  have I₁:=F₁.inv
  have O':=O
  let qa:List Addr:=((cx.L,aK m')::(aC cx.cs mc'++frs)).map (·.1)
  let B:=hideAll s.heap qa
  have kB:∀b o,base.get? b=some o→B.get? b=some o:=fun b o e=>hideAll_get _ (I₁.keep b o e) fun q=>by
    refine aq (List.mem_map.mp q) fun p hp e'=>?_
    have:=(I₁.frNew p hp).1
    rw[e',e]at this;cases this
  have IB:aM (pm w T) B H₁ [] ((cx.L,aK m')::(aC cx.cs mc'++frs)) .nil s.heap:=
    ⟨fun b o e=>of_hideAll _ e,I₁.frz,I₁.frNs,fun p hp=>⟨hideAll_none _ (List.mem_map.mpr ⟨p,hp,rfl⟩),(I₁.frNew p hp).2⟩,I₁.frDup,fun i o e=>(nomatch e),List.nodup_nil,fun a ha=>(nomatch ha),fun a ha=>(nomatch ha)⟩
  have L₁:aH base H ρ s H₁ ρ s:=⟨F₁.le,F₁.new,.refl,rfl,rfl,rfl⟩
  refine G.spec a m Sp hc B cx c.R fa.1 ras _ H₁ _ s Q' EE kB O h IB (eW O' N.outer N.self) (fun e s' g1 g2 g3 t=>((X.later L₁).sub fun p hp=>.tail _ (List.mem_append_right _ hp)) e s' g1 g2 g3 (rW kB t)) R₂ ?_
  intro v r obx H' ρ' s' I₂ L' R' hk
  have nb:∀b o,s.heap.get? b=some o→b∉qa→s'.heap.get? b=some o:=fun b o e q=>I₂.keep b o (hideAll_get _ e q)
  have nH:∀b o,s.heap.get? b=some o→b∉qa→(∀y,¬H₁ b y)→∀y,¬H' b y:=fun b o e q z y e'=>(L'.new b y e').elim (z y) fun q'=>by
    have:=hideAll_get qa e q
    rw[q']at this;cases this
  have I₃:aM (pm w T) base H' ρ ((cx.L,aK m')::(aC cx.cs mc'++frs)) fa.2.tr s'.heap:=by
    refine⟨fun b o e=>I₂.keep b o (kB b o e),I₂.frz,I₂.frNs,fun p hp=>⟨(I₁.frNew p hp).1,(I₂.frNew p hp).2⟩,I₁.frDup,fun i o e=>?_,I₁.dup,fun b hb=>?_,I₁.rf⟩
    · refine cJ (I₁.own i o e) fun b h1 h2 h3=>?_
      refine bz (I₁.there b (List.mem_of_getElem? h1)) fun x hx=>?_
      by_cases l:o.live=true
      · have A:=h3 l
        exact⟨b,h1,h2.mono L'.le .refl (fun y e=>nb b y e A.nf),fun _=>⟨A.nb,nH b x hx A.nf A.nH,A.nf⟩⟩
      · refine⟨b,h1,?_,fun l'=>absurd l' l⟩
        cases o with
        |frz v=>exact .frz (ag.mono L'.le .refl h2.inv)
        |_=>exact absurd rfl l
    · refine bz (I₁.there b hb) fun x hx=>?_
      by_cases q:b∈qa
      · refine aq (List.mem_map.mp q) fun p hp e=>?_
        refine aq (I₂.frNs p hp) fun y hy _=>?_
        exact⟨y,e▸hy⟩
      · exact⟨x,nb b x hx q⟩
  refine an v r ⟨fm,fa.2⟩ H' ρ s' ⟨⟨m',mc',I₃,F.mono (fun a o e=>L'.le a o (L₁.le a o e)) .refl⟩,(by rw[F₁.nx];exact N.len),N.outer,N.self⟩ ⟨fun a o e=>L'.le a o (L₁.le a o e),fun b o e=>?_,.refl,L'.gens,L'.drawn,L'.os⟩ (R'.mono (fun _ _ e=>e) fun i a e=>by rw[List.getElem?_nil]at e;cases e) ⟨hk,rfl⟩
  rcases L'.new b o e with e|e
  · exact L₁.new b o e
  · exact .inr (eV kB e)
theorem jL(l:Option (List Env)):pushEnvs [] l=l:=by cases l <;> rfl
theorem Ah(G:aI prog w T c K base)(S:de prog w T base c.R E n){cx:Cx}{C f:Addr}{as:List V}{ras:List Value}{fm:List (Str×V)}{ob:aR}{Q:V→aR→Prop}{H:HP}{ρ:List Addr}{frs:aJ}{s:Shared}{Q':Value→Shared→Prop}{EE:Value→Shared→Prop}(O:cx.Ok (n+1))
  (hc:c.CI C=some f) (h:xC E C f as ob Q)
  (N:az (pm w T) base cx H ρ ⟨fm,ob⟩ frs s.heap) (X:eB base c.R cx frs H s EE) (hv:ai (pm w T) H ρ as ras)
  (an:c5 w T base cx frs H ρ s (fun v σ=>Q v σ.ob∧σ.fm=fm) Q'):codeAny (model prog w) cx.A (.call (.ref C) ⟨ras,[]⟩) (jA Q' EE) s:=by
 have Mk:=G.ci _ _ hc
 have Xh:=G.kin.keeps N.keep
 obtain⟨hh,g,d,t,os⟩:=s
 refine aB h fun y ey h1=>aB (o:=some ob.nx) h1 fun dd ed h1=>aB h1 fun y2 ey2 h1=>?_
 rw[←ae ed]at h1 ey2
 refine aW N.inv fun m mc I F=>?_
 have I1:=I.alloc (o:=emptyDict) (x:=.ns []) (ob':=ob.tr.ins ob.nx (.ns [])) (by rw[N.len];exact Tr.get_ins _ _ _ (by rw[ey];rfl)) (.ns (n:=0) (es:=[]) (Heap.get?_push_size _ rfl) .nil)
 have hl1:(ρ++[hh.objs.size]).length=ob.nx+1:=by rw[List.length_append,List.length_singleton,N.len]
 have I2:=I1.alloc (o:=instObj C hh.objs.size) (x:=.inst C ob.nx) (ob':=(ob.tr.ins ob.nx (.ns [])).ins (ob.nx+1) (.inst C ob.nx)) (by rw[hl1];exact Tr.get_ins _ _ _ (by rw[ey2];rfl))
  (.inst (Heap.get?_push_size _ rfl) (by rw[List.getElem?_append_left (by rw[hl1];exact Nat.lt_succ_self _)];rw[←N.len];exact List.getElem?_concat_length))
 refine make_core (makes_of Xh Mk.makes) (looks_findIn Xh Mk.init) (fun self=>bind_fn Xh self Mk.fn) (.inl rfl) ?_
 let cx':Cx:={cx with A:=cx.A.under (.builtin "type.__call__" ⟨.ref C::ras,[]⟩)}
 have w1:(Code.builtin "type.__call__" ⟨.ref C::ras,[]⟩).weight=1:=by kernel_rfl
 have w2:(Code.builtin "type.__call__" ⟨.ref C::ras,[]⟩).cUnits=1:=by kernel_rfl
 have O':cx'.Ok n:=⟨(jL _).trans O.frames,O.handled,O.kind,O.kind0,by have:=O.depth;show cx.A.depth+Code.weight _+2*n+8 < _;rw[w1];lia,by have:=O.units;show cx.A.units+Code.cUnits _+16*n+128 < _;rw[w2];lia,O.kept,O.names,O.cells,O.lam⟩
 have hs:(hh.push emptyDict).objs.size=hh.objs.size+1:=Heap.size_push ..
 rw[hs]at I2
 have G2:bN ρ (ρ++[hh.objs.size]++[hh.objs.size+1]):=bN.more.trans .more
 have hself:ag (pm w T) H (ρ++[hh.objs.size]++[hh.objs.size+1]) (.ref (ob.nx+1)) (.ref (hh.objs.size+1)):=.ref (by rw[←hl1];exact List.getElem?_concat_length)
 have N2:az (pm w T) base cx' H (ρ++[hh.objs.size]++[hh.objs.size+1]) ⟨fm,⟨(ob.tr.ins ob.nx (.ns [])).ins (ob.nx+1) (.inst C ob.nx),ob.nx+1+1⟩⟩ frs ((hh.push emptyDict).push (instObj C hh.objs.size)):=
  ⟨⟨m,mc,I2,F.mono (fun _ _ e=>e) G2⟩,by rw[List.length_append,hl1,List.length_singleton],N.outer,N.self⟩
 refine codeAny_mono (S.code cx' _ _ fm _ (fun r ob₃=>bP (yb r) (Q (.ref (ob.nx+1)) ob₃)) O' h1 H _ frs _ (fun r s'=>r=.none∧Q' (.ref (hh.objs.size+1)) s') EE _ N2 X (.cons hself (hv.mono (fun _ _ e=>e) G2)) fun v r σ' H' ρ' s' N' L' R' q=>?_) fun r s' z=>?_
 ·refine a7 q fun q e=>?_
  refine a8 q fun er q=>R'.cNo er fun er=>?_
  ·refine⟨er,an (.ref (ob.nx+1)) (.ref (hh.objs.size+1)) σ' H' ρ' s' ⟨N'.inv,N'.len,N'.outer,N'.self⟩ ⟨L'.le,L'.new,G2.trans L'.grows,L'.gens,L'.drawn,L'.os⟩ (hself.mono L'.le L'.grows) ⟨q,e⟩⟩
 ·rcases r with e|(v|_|_|_) <;> exact z
end
end
section
section
variable {P:Pm}{base h h':Heap}{H:HP}{ρ:List Addr}{frs:aJ}{ob:Tr}
theorem aM.tab{J D:Addr}{φ:Fp}{oD:Obj}(I:aM P base H ρ frs ob h)(hJ:(J,φ)∈frs)(k:∀b o,b≠J→h.get? b=some o→h'.get? b=some o)(hD:h.get? D=none)(hD':h'.get? D=some oD)(hn:∃o,h'.get? J=some o∧φ.φ (H.and D oD) o):aM P base (H.and D oD) ρ frs ob h':=by
 have nJ:=I.frNew _ hJ
 have rJ:∀a∈ρ,a≠J:=fun a ha e=>I.rf a ha (by rw[e];exact List.mem_map.mpr ⟨_,hJ,rfl⟩)
 have fD:∀p∈frs,p.1≠D:=fun p hp e=>by obtain⟨o,ho,_⟩:=I.frNs p hp;rw[e,hD]at ho;cases ho
 have rD:∀a∈ρ,a≠D:=fun a ha e=>by obtain⟨o,ho⟩:=I.there a ha;rw[e,hD]at ho;cases ho
 refine⟨fun b o e=>k b o (fun q=>by rw[q,nJ.1]at e;cases e) (I.keep b o e),?_,fun p hp=>?_,fun p hp=>⟨(I.frNew p hp).1,?_⟩,I.frDup,fun i o e=>?_,I.dup,fun a ha=>?_,I.rf⟩
 ·rintro a o (e|⟨rfl,rfl⟩)
  ·exact k a o (fun q=>nJ.2 o (q▸e)) (I.frz a o e)
  ·exact hD'
 ·by_cases q:p.1=J
  ·have e:p=(J,φ):=oH I.frDup hp hJ q
   rw[e];exact hn
  ·refine aq (I.frNs p hp) fun o e f=>?_
   exact⟨o,k _ _ q e,p.2.mono HP.le f⟩
 ·rintro o (e|⟨e,_⟩)
  ·exact(I.frNew p hp).2 o e
  ·exact fD p hp e
 ·refine cJ (I.own i o e) fun a h1 h2 h3=>?_
  have ha:=List.mem_of_getElem? h1
  refine⟨a,h1,h2.mono (fun _ _ x=>.inl x) .refl (fun o e=>k a o (rJ a ha) e),fun l=>⟨(h3 l).nb,?_,(h3 l).nf⟩⟩
  rintro o (e|⟨e,_⟩)
  ·exact(h3 l).nH o e
  ·exact rD a ha e
 ·refine bz (I.there a ha) fun o e=>?_
  exact⟨o,k a o (rJ a ha) e⟩
end
noncomputable def gN(cl:List (Str×Addr)):List (Str×NameKind)→List (Str×Addr)→List (Str×Addr)
 |[],acc=>acc
 |p::r,acc=>gN cl r (bX (jj (some p.2)) ((p.1,(cl.lookup p.1).getD 0)::acc) acc)
theorem yK{cl:List (Str×Addr)}{y:Str}{a:Addr}(l:List (Str×NameKind)):∀(acc:List (Str×Addr)),(y,a)∈gN cl l acc→(y,a)∈acc∨((y,NameKind.free)∈l∧a=(cl.lookup y).getD 0):=by
  induction l with
  |nil=>exact fun _ h=>.inl h
  | cons p r ih=>
    intro acc h
    refine(ih _ h).elim (fun h=>?_) fun h=>.inr ⟨.tail _ h.1,h.2⟩
    refine(Bool.eq_false_or_eq_true (jj (some p.2))).elim (fun q=>?_) fun q=>?_
    · rw[q]at h
      refine(List.mem_cons.mp h).elim (fun e=>.inr ?_) .inl
      have e2:=mO q
      refine⟨?_,?_⟩
      · rw[show y=p.1 from congrArg Prod.fst e,←ae e2];exact .head _
      · rw[show a=_ from congrArg Prod.snd e,show y=p.1 from congrArg Prod.fst e]
    · rw[q]at h
      exact .inl h
theorem zy{cl:List (Str×Addr)}{y:Str}(l:List (Str×NameKind)):∀(acc:List (Str×Addr)),(y,NameKind.free)∈l∨y∈acc.map (·.1)→y∈(gN cl l acc).map (·.1):=by
  induction l with
  |nil=>exact fun _ h=>h.elim (fun h=>nomatch h) id
  | cons p r ih=>
    intro acc h
    refine ih _ (h.elim (fun h=>(List.mem_cons.mp h).elim (fun e=>.inr ?_) .inl) fun h=>.inr ?_)
    · rw[←e];exact .head _
    · cases jj (some p.2)with
      |true=>exact .tail _ h
      |false=>exact h
theorem vj{α:Type}{y:Str}{l:List (Str×α)}(h:y∈l.map (·.1)):∃a,l.lookup y=some a:=by
  induction l with
  |nil=>cases h
  | cons p r ih=>
    rw[List.lookup_cons]
    cases e:y==p.1 with
    |true=>exact⟨p.2,rfl⟩
    | false=>
      refine(List.mem_cons.mp h).elim (fun h=>?_) ih
      rw[h,beq_self_eq_true]at e;cases e
theorem qw{cl:List (Str×Addr)}{y:Str}{a:Addr}{l:List (Str×NameKind)}(h:(y,NameKind.free)∈l)(ha:cl.lookup y=some a):(gN cl l []).lookup y=some a:=
 (vj (zy (cl:=cl) l [] (.inl h))).elim fun b hb=>(yK _ _ (bD hb)).elim (fun h=>nomatch h) fun h=>by rw[hb,h.2,ha];rfl
theorem nN{env:Env}(l:List (Str×NameKind)):∀(acc:List (Str×Addr)),(∀y,(y,NameKind.free)∈l→∃b,env.cells.lookup y=some b)→
      (forIn l acc fun(x:Str×NameKind) (r:List (Str×Addr))=>if(x.2==.free)=true then do let a ←cellOf env x.1;pure (ForInStep.yield ((x.1,a)::r))else pure (ForInStep.yield r):Sem _)=pure (gN env.cells l acc):=by
  induction l with
  |nil=>intro acc _;rfl
  | cons p r ih=>
    intro acc h
    rw[List.forIn_cons]
    have hr:∀y,(y,NameKind.free)∈r→∃b,env.cells.lookup y=some b:=fun y hy=>h y (.tail _ hy)
    refine(Bool.eq_false_or_eq_true (p.2==.free)).elim (fun q=>?_) fun q=>?_
    · have qe:p.2=.free:=eq_of_beq q
      have h0:=h p.1 (by rw[←qe];exact .head _)
      refine bz h0 fun b hb=>?_
      have e:cellOf env p.1=pure b:=by unfold cellOf;rw[hb]
      rw[if_pos q,e]
      show(forIn r ((p.1,b)::acc) _:Sem _)=_
      rw[ih _ hr]
      conv=>rhs;unfold gN
      rw[qe,hb];rfl
    · have qe:jj (some p.2)=false:=by revert q;cases p.2 <;> first|exact fun _=>rfl|exact fun h=>nomatch h
      rw[if_neg (by rw[q];exact fun h=>nomatch h)]
      show(forIn r acc _:Sem _)=_
      rw[ih _ hr]
      conv=>rhs;unfold gN
      rw[qe];rfl
theorem nW{sc:Scope}{env:Env}(hl:∀y,(y,NameKind.free)∈sc.names→∃b,env.cells.lookup y=some b):closureFor sc env=pure (gN env.cells sc.names []):=by
 unfold closureFor
 exact(congrArg (fun x:Sem _=>x >>= fun r=>pure r) (nN sc.names [] hl)).trans rfl
structure gZ(sc lsc:Scope)(fm:List (Str×V))(l:List (Str×NameKind))(fm':List (Str×V)):Prop where
 cell:∀y,(y,NameKind.free)∈l→lk y sc.names=some .cell
 none:∀x∈l,x.2≠.cell
 had:∀y v,lk y fm'=some v→(y,NameKind.free)∈l∧lk y lsc.names=some .free∧lk y fm=some v∧(y==("__classdict__":Str))=false
theorem gZ.skip{sc lsc:Scope}{fm fm':List (Str×V)}{l:List (Str×NameKind)}{z:Str}(h:gZ sc lsc fm l fm'):gZ sc lsc fm ((z,.globalImplicit)::l) fm':=
 ⟨fun y hy=>h.cell y ((List.mem_cons.mp hy).elim (fun e=>nomatch congrArg Prod.snd e) id),fun x hx=>(List.mem_cons.mp hx).elim (fun e q=>by rw[e]at q;cases q) (h.none x),fun y v e=>(h.had y v e).imp (.tail _) id⟩
theorem gZ.keep{sc lsc:Scope}{fm fm':List (Str×V)}{l:List (Str×NameKind)}{z:Str}{v:V}(h:gZ sc lsc fm l fm')(e:It sc lsc fm z=some v):gZ sc lsc fm ((z,.free)::l) ((z,v)::fm'):=
 bQ e fun a hu=>ar a fun a1 a2=>ar a2 fun a2 a3=>have hz:=mO a1;have hc:=hO a3
  ⟨fun y hy=>(List.mem_cons.mp hy).elim (fun e=>by rw[show y=z from congrArg Prod.fst e];exact hc) (h.cell y),fun x hx=>(List.mem_cons.mp hx).elim (fun e q=>by rw[e]at q;cases q) (h.none x),fun y u e=>gK e (fun q e=>by
   have qe:y=z:=eq_of_beq (by rw[←cA];exact q)
   rw[qe,←ae e]
   exact⟨.head _,hz,hu,by rw[←cA];exact bS a2⟩) fun _ e=>(h.had y u e).imp (.tail _) id⟩
theorem y7{sc lsc:Scope}{fm:List (Str×V)}{l:List (Str×NameKind)}:∀{fm':List (Str×V)},qk sc lsc fm l=some fm'→gZ sc lsc fm l fm':=by
  induction l with
  |nil=>exact fun h=>by rw[←ae h];exact⟨fun _ h=>(by cases h),fun _ h=>(by cases h),fun _ _ e=>(by cases e)⟩
  | cons p r ih=>
    intro fm' h
    obtain⟨z,k⟩:=p
    cases k with
    |free=>exact au h fun v ev h=>au h fun q eq h=>by rw[←ae h];exact(ih eq).keep ev
    |globalImplicit=>exact(ih h).skip
    |_=>cases h
end
section
theorem nd{p q:Pos}(h1:p.line=q.line)(h2:p.col=q.col)(l:List Value):codeAmong p l=codeAmong q l:=by
 fun_induction codeAmong q l with
 |case1 a t b u c rest hc=>simp only [codeAmong,h1,h2,hc,if_true]
 |case2 a t b u c rest hc ih=>simp only [codeAmong,h1,h2];rw[if_neg hc];exact ih
 |case3 l h=>unfold codeAmong;split <;> first|rfl|exact absurd rfl (h _ _ _ _ _ _)
noncomputable abbrev mR:Arguments:=⟨[],[],none,[],[],none,[]⟩
section
variable {prog:Program}{w:World}{T:Nat→V}{base:Heap}{c:ck}{K:Frag}{E:Ev}{n:Nat}
theorem Aa{l:xh}(h:l∈iF):(l.P,wD l)∈HQ:=List.mem_map.mpr ⟨l,h,rfl⟩
theorem BI(G:aI prog w T c K base){cx:Cx}{σ:St}{H:HP}{ρ:List Addr}{frs:aJ}{s:Shared}{Q:Value→Shared→Prop}{EE:Value→Shared→Prop}{A:Around}{body:Expr}{lsc:Scope}{lpos:Pos}{l:xh}{clos:List (Str×Addr)}
  (N:az (pm w T) base cx H ρ σ frs s.heap) (hl:l∈iF) (hcd:cx.cd=.ref l.code) (hcn:cx.cn=l.fn) (hp1:lpos.line=l.line) (hp2:lpos.col=l.col) (hcl:closureFor lsc cx.env=pure clos)
  (h:∀f c' ctv pmv H' h' tk,az (pm w T) base cx H' ρ σ frs h'→aH base H ρ s H' ρ {s with heap:=h',toks:=tk}→H' f (kla_obj "<lambda>" l.qual mR body lsc clos pmv c' ctv)→h'.CodeRec (.ref c') l.qual→s.heap.get? f=none→Q (.ref f) {s with heap:=h',toks:=tk}) :
  wpAny (model prog w) A (eval (.Lambda mR body lsc lpos) cx.env) Q EE s:=by
 refine aW N.inv fun m mc I F=>?_
 have hJ:(l.P,wD l)∈(cx.L,aK m)::(aC cx.cs mc++frs):=.tail _ (List.mem_append_right _ (N.outer.2 _ (Aa hl)))
 obtain⟨oP,hoP,ps,rfl,hTr,hC⟩:=I.frNs _ hJ
 have hoP:s.heap.get? l.P=some (tabObj ps):=hoP
 have nP:=I.frNew _ hJ
 refine MC G.bm fun mg bm ob b1 b2 b3 b4 b5 b6 b7=>?_
 have hgP:mainGlobals≠l.P:=fun q=>by
  refine HO b1 fun o es ep e hd _=>?_
  have:=nP.1;simp only at this
  rw[←q,e]at this;cases this
 have hbP:bm≠l.P:=fun q=>by
  have:=nP.1;simp only at this
  rw[←q,b4]at this;cases this
 have hbG:bm≠mainGlobals:=fun q=>by
  refine HO b1 fun o es ep e hd _=>?_
  rw[q,e]at b4;cases b4;rw[hd]at b7;cases b7
 have hq:cx.env.qual++("<lambda>":Str)=l.qual:=by
  show cx.cn++(".<locals>.":Str)++("<lambda>":Str)=_
  rw[hcn];rfl
 have hBA:s.heap.BuiltinsAt mg l.P:=⟨bm,ob,b2,b3,hbG,hbP,I.keep _ _ b4,b5,b6,b7⟩
 have CH:CodeHd s.heap l.code l.P:=(G.lamP l hl).keeps I.keep
 have hcode:cx.env.code=.ref l.code:=hcd
 refine kla_eval rfl ?_
 rw[hq]
 rcases hC lpos hp1 hp2 with hn|⟨c',oc,hf,hH,vs,t,hr1,hr2⟩
 ·refine kla_makeFunction (mg:=mg) hcl rfl (b1.keeps I.keep) hcode CH hoP hTr hn hgP hBA fun c' ctv h' tk hx hge hlt hrec htb=>?_
  refine mA hrec fun c₂ oc vs t e2 hoc hd hv=>?_
  cases e2
  have hcn:s.heap.get? c'=none:=Heap.get?_none_of_le hge
  have I₁:aM (pm w T) base (H.and c' oc) ρ ((cx.L,aK m)::(aC cx.cs mc++frs)) σ.ob.tr h':=I.tab hJ (fun b o q e=>hx b o q e) hcn hoc ⟨_,htb,_,rfl,(by rw[Array.toList_append];exact TriplesOk_snoc _ _ _ _ hTr),fun pos q1 q2=>.inr ⟨c',oc,by
   have e:codeAmong pos (ps++#[rawInt lpos.line,rawInt lpos.col,.ref c']).toList=codeAmong lpos (ps++#[rawInt lpos.line,rawInt lpos.col,.ref c']).toList:=nd (q1.trans hp1.symm) (q2.trans hp2.symm) _
   rw[e,Array.toList_append]
   exact codeAmong_snoc _ hTr hn,HP.new,vs,t,hd,hv⟩⟩
  have I₂:=I₁.push (kla_obj "<lambda>" l.qual mR body lsc clos ((mg "__name__").getD .none) c' ctv) rfl
  have le₂:∀a o,H a o→((H.and c' oc).and h'.objs.size (kla_obj "<lambda>" l.qual mR body lsc clos ((mg "__name__").getD .none) c' ctv)) a o:=fun a o e=>.inl (.inl e)
  refine h _ c' ctv _ _ _ tk ⟨⟨m,mc,I₂,F.mono le₂ .refl⟩,N.len,N.outer,N.self⟩ ⟨le₂,?_,.refl,rfl,rfl,rfl⟩ HP.new ⟨c',oc,vs,t,rfl,Heap.get?_push_of_some _ hoc,hd,hv⟩ ?_
  ·rintro a o ((e|⟨rfl,_⟩)|⟨rfl,_⟩)
   ·exact .inl e
   ·exact .inr (jb I.keep hge)
   ·exact .inr I₁.topNew
  ·refine Heap.get?_none_of_le (Nat.le_of_lt (Nat.lt_of_le_of_lt hge hlt))
 ·refine kla_makeFunctionHit (mg:=mg) hcl rfl (b1.keeps I.keep) hcode CH hoP hTr hf hBA fun ctv h' tk hk hsz=>?_
  have I₁:=I.keeps hk
  have I₂:=I₁.push (kla_obj "<lambda>" l.qual mR body lsc clos ((mg "__name__").getD .none) c' ctv) rfl
  refine h _ c' ctv _ _ _ tk ⟨⟨m,mc,I₂,F.mono HP.le .refl⟩,N.len,N.outer,N.self⟩ ⟨HP.le,?_,.refl,rfl,rfl,rfl⟩ HP.new ⟨c',oc,vs,t,rfl,Heap.get?_push_of_some _ (hk _ _ (I.frz _ _ hH)),hr1,hr2⟩ (Heap.get?_none_of_le hsz)
  rintro a o (e|⟨rfl,_⟩)
  ·exact .inl e
  ·exact .inr I₁.topNew
theorem FF(S:de prog w T base c.R E n){cx:Cx}(O:cx.Ok n){EE:Value→Shared→Prop}{frs:aJ}{pos:Pos}(l:List Expr):∀σ Q,HI E cx.sc l σ Q→bb dj l=true→∀H ρ s (Q':List Value→Shared→Prop),az (pm w T) base cx H ρ σ frs s.heap→
    JA w T base cx frs H ρ s Q Q'→wpAny (model prog w) cx.A (spliced (backTo pos (starEach l cx.env))) Q' EE s:=by
  induction l with
  |nil=>exact fun σ Q h _ H ρ s Q' N a=>spliced_nil (a [] [] σ H ρ s N .refl .nil h)
  | cons e r ih=>
    intro σ Q h hp H ρ s Q' N a
    have hp:=a9 hp
    rw[dp e cx.env r (dH hp.1)]
    refine spliced_cons (x:=eval e cx.env) ?_
    refine S.ex0 cx _ _ _ O h _ _ _ _ _ _ N fun v₁ r₁ σ₁ H₁ ρ₁ s₁ N₁ L₁ R₁ h₁=>?_
    refine ih σ₁ _ h₁ hp.2 _ _ _ _ N₁ fun v₂ r₂ σ₂ H₂ ρ₂ s₂ N₂ L₂ R₂ h₂=>?_
    exact a _ _ _ _ _ _ N₂ (L₁.trans L₂) (.cons (R₁.mono L₂.le L₂.grows) R₂) h₂
end
end
section
section
variable {P:Pm}{base h h':Heap}{H:HP}{ρ:List Addr}{frs:aJ}{ob:Tr}
noncomputable def HP.cells(H:HP)(h:Heap)(l:List Addr):HP:=fun a o=>H a o∨(a∈l∧h.get? a=some o)
theorem df{cs:List (Str×Addr)}{mc:bG}:(aC cs mc).map (·.1)=cs.map (·.2):=by unfold aC;rw[List.map_map];rfl
theorem aM.freezeCells{cs:List (Str×Addr)}{mc:bG}(I:aM P base H ρ (aC cs mc++frs) ob h):aM P base (H.cells h (cs.map (·.2))) ρ frs ob h:=by
 have d:=I.frDup
 rw[List.map_append,List.nodup_append]at d
 have le:∀a o,H a o→(H.cells h (cs.map (·.2))) a o:=fun _ _ e=>.inl e
 refine⟨I.keep,?_,fun p hp=>?_,fun p hp=>⟨(I.frNew p (List.mem_append_right _ hp)).1,?_⟩,d.2.1,fun i o e=>?_,I.dup,I.there,fun a ha z=>I.rf a ha (by rw[List.map_append];exact List.mem_append_right _ z)⟩
 ·rintro a o (e|⟨_,e⟩)
  ·exact I.frz a o e
  ·exact e
 ·refine aq (I.frNs p (List.mem_append_right _ hp)) fun o e f=>?_
  exact⟨o,e,p.2.mono le f⟩
 ·rintro o (e|⟨e,_⟩)
  ·exact(I.frNew p (List.mem_append_right _ hp)).2 o e
  ·rw[←df (mc:=mc)]at e
   exact d.2.2 _ e _ (List.mem_map.mpr ⟨p,hp,rfl⟩) rfl
 ·refine cJ (I.own i o e) fun a h1 h2 h3=>?_
  refine⟨a,h1,h2.mono le .refl (fun _ x=>x),fun l=>⟨(h3 l).nb,?_,fun z=>(h3 l).nf (by rw[List.map_append];exact List.mem_append_right _ z)⟩⟩
  rintro o (e|⟨e,_⟩)
  ·exact(h3 l).nH o e
  ·rw[←df (mc:=mc)]at e
   exact(h3 l).nf (by rw[List.map_append];exact List.mem_append_left _ e)
noncomputable def HP.less(H:HP)(l:List Addr):HP:=fun a o=>H a o∧a∉l
theorem E3{l:List Addr}(fz:∀a o,H a o→h.get? a=some o)(hc:∀a∈l,∃o v,H a o∧o.data=.cell v):EP H (H.less l):=fun a o e q=>⟨e,fun m=>by
 refine aW (hc a m) fun o' v e' hd=>?_
 have:=(fz a o e).symm.trans (fz a o' e')
 cases this
 exact q _ hd⟩
theorem aM.thawCells{cs:List (Str×Addr)}{mc:bG}(I:aM P base H ρ frs ob h)(hc:∀p∈cs,∃o,H p.2 o∧o.data=.cell (mc p.1))(hn:(cs.map (·.2)).Nodup)(hb:∀p∈cs,base.get? p.2=none)(hf:∀p∈cs,p.2∉frs.map (·.1))(hr:∀p∈cs,p.2∉ρ)
  (hl:EP H (H.less (cs.map (·.2)))):aM P base (H.less (cs.map (·.2))) ρ (aC cs mc++frs) ob h:=by
 have mem:∀q∈aC cs mc,∃p∈cs,q=(p.2,dC (mc p.1)):=fun q hq=>by
  refine aq (List.mem_map.mp hq) fun p hp e=>?_
  exact⟨p,hp,e.symm⟩
 refine⟨I.keep,fun a o e=>I.frz a o e.1,fun q hq=>?_,fun q hq=>?_,?_,fun i o e=>?_,I.dup,I.there,fun a ha z=>?_⟩
 ·rcases List.mem_append.mp hq with hq|hq
  ·refine aq (mem q hq) fun p hp rq2=>?_;subst rq2
   refine aq (hc p hp) fun o e hd=>?_
   exact⟨o,I.frz _ _ e,hd⟩
  ·refine aq (I.frNs q hq) fun o e f=>?_
   exact⟨o,e,q.2.cut hl f⟩
 ·rcases List.mem_append.mp hq with hq|hq
  ·refine aq (mem q hq) fun p hp rq2=>?_;subst rq2
   exact⟨hb p hp,fun o e=>e.2 (List.mem_map.mpr ⟨p,hp,rfl⟩)⟩
  ·exact⟨(I.frNew q hq).1,fun o e=>(I.frNew q hq).2 o e.1⟩
 ·rw[List.map_append,List.nodup_append]
  refine⟨by rw[df];exact hn,I.frDup,fun a ha b hb' e=>?_⟩
  rw[df]at ha
  refine aq (List.mem_map.mp ha) fun p hp rq2=>?_;subst rq2
  exact hf p hp (e▸hb')
 ·refine cJ (I.own i o e) fun a h1 h2 h3=>?_
  refine⟨a,h1,h2.cut hl .refl (fun _ x=>x),fun l=>⟨(h3 l).nb,fun o e=>(h3 l).nH o e.1,fun z=>?_⟩⟩
  rw[List.map_append,df]at z
  rcases List.mem_append.mp z with z|z
  ·refine aq (List.mem_map.mp z) fun p hp e=>?_
   exact hr p hp (e▸List.mem_of_getElem? h1)
  ·exact(h3 l).nf z
 ·rw[List.map_append,df]at z
  rcases List.mem_append.mp z with z|z
  ·refine aq (List.mem_map.mp z) fun p hp e=>?_
   exact hr p hp (e▸ha)
  ·exact I.rf a ha z
theorem aM.rebase(I:aM P base H ρ frs ob h){H':HP}(kB:∀b o,(hideAll h (frs.map (·.1))).get? b=some o→h'.get? b=some o)(le:∀a o,H a o→H' a o)(new:∀a o,H' a o→H a o∨(hideAll h (frs.map (·.1))).get? a=none)
  (fz:∀a o,H' a o→h'.get? a=some o) (pl:∀p∈frs,(∃o,h'.get? p.1=some o∧p.2.φ H' o)∧∀o,¬H' p.1 o):aM P base H' ρ frs ob h':=by
 have nb:∀b o,h.get? b=some o→b∉frs.map (·.1)→h'.get? b=some o:=fun b o e q=>kB b o (hideAll_get _ e q)
 refine⟨fun b o e=>kB b o (hideAll_get _ (I.keep b o e) fun q=>?_),fz,fun p hp=>(pl p hp).1,fun p hp=>⟨(I.frNew p hp).1,(pl p hp).2⟩,I.frDup,fun i o e=>?_,I.dup,fun b hb=>?_,I.rf⟩
 ·refine aq (List.mem_map.mp q) fun p hp e'=>?_
  have:=(I.frNew p hp).1
  rw[e',e]at this;cases this
 ·refine cJ (I.own i o e) fun b h1 h2 h3=>?_
  have hb:=List.mem_of_getElem? h1
  have nf:=I.rf b hb
  refine bz (I.there b hb) fun x hx=>?_
  refine⟨b,h1,h2.mono le .refl (fun y e=>nb b y e nf),fun l=>⟨(h3 l).nb,fun y e'=>(new b y e').elim ((h3 l).nH y) fun q'=>?_,nf⟩⟩
  rw[hideAll_get _ hx nf]at q';cases q'
 ·refine bz (I.there b hb) fun x hx=>?_
  exact⟨x,nb b x hx (I.rf b hb)⟩
end
section
variable {prog:Program}{w:World}{T:Nat→V}{base:Heap}{c:ck}{K:Frag}{E:Ev}{n:Nat}
theorem ky{cx:Cx}{m:Nat}{frs:aJ}{f:bG}(O:cx.Ok m)(h:bH cx.outer frs)(hs:cx.L0=cx.L∨∃φ,(cx.L0,φ)∈frs∧cy φ):bH (cx.fenv::cx.outer) ((cx.L,aK f)::frs):=by
 refine⟨fun env he=>?_,fun q hq=>.tail _ (h.2 q hq)⟩
 rcases List.mem_cons.mp he with rfl|he
 ·refine⟨by show cx.sc0.kind≠.module;rw[O.kind0];decide,?_⟩
  rcases hs with hs|⟨φ,h1,h2⟩
  ·exact⟨cx.L0,aK f,rfl,by rw[hs];exact .head _,gS⟩
  ·exact⟨cx.L0,φ,rfl,.tail _ h1,h2⟩
 ·obtain⟨h1,L,φ,h2,h3,h4⟩:=h.1 env he
  exact⟨h1,L,φ,h2,.tail _ h3,h4⟩
theorem qr(G:aI prog w T c K base){A:Around}{cx:Cx}{x:Str}{p:Pos}{C:Addr}{s:Shared}{Q':Value→Shared→Prop}{EE:Value→Shared→Prop}(hk:cx.sc.kind=.function)(hg:cq cx.sc x=true)(e:c.G x=some (.glob C))
  (keep:∀b o,base.get? b=some o→s.heap.get? b=some o) (q:Q' (.ref C) s):wpAny (model prog w) A (eval (.Name x p) cx.env) Q' EE s:=by
 refine a7 (hB hg) fun g1 g2=>?_
 refine c9 G.g fun mg mb n1 n2 g3=>?_
 refine aq (g3 x _ e) fun r hr hm=>?_
 have er:r=.ref C:=by cases hr (pm w T) (fun _ _=>False) [];rfl
 subst er
 (with_reducible refine Name_function_global ?_ ?_ ?_ g2)
 ·exact hk
 ·exact g1
 ·rcases hm with hm|⟨hm,hb⟩
  ·(with_reducible refine loadGlobal_global ?_ hm q)
   exact n1.keeps keep
  ·(with_reducible refine loadGlobal_builtin ?_ hm ?_ hb q)
   ·exact n1.keeps keep
   ·exact n2.keeps keep
end
end
section
section
variable {prog:Program}{w:World}{T:Nat→V}{base:Heap}{c:ck}{K:Frag}{E:Ev}{n:Nat}
theorem Em{d m n:Nat}(h:d+2*n+8 < recursionLimit)(k:m≤n):d+2*m+8 < recursionLimit:=by lia
theorem BZ{d m n k:Nat}(h:d+16*n+128 < k)(l:m≤n):d+16*m+128 < k:=by lia
theorem Cx.Ok.to{c:Cx}{m n:Nat}(O:c.Ok n)(h:m≤n):c.Ok m:=⟨O.frames,O.handled,O.kind,O.kind0,Em O.depth h,BZ O.units h,O.kept,O.names,O.cells,O.lam⟩
theorem wK{M:Model}{A:Around}{f:Value}{ras:List Value}{Q:Value→Shared→Prop}{EE:Value→Shared→Prop}{s:Shared}(h:codeAny M A (.call f ⟨ras,[]⟩) (jA Q EE) s):wpAny M A (PySem.call f ras) Q EE s:=by
 (with_reducible refine wpAny_call ?_)
 exact h
theorem aM.keepHid{P:Pm}{base h:Heap}{H:HP}{ρ:List Addr}{frs:aJ}{ob:Tr}(I:aM P base H ρ frs ob h)(b:Addr)(o:Obj)(e:base.get? b=some o):(hideAll h (frs.map (·.1))).get? b=some o:=hideAll_get _ (I.keep b o e) fun q=>(List.mem_map.mp q).elim fun p hp=>by
 have:=(I.frNew p hp.1).1
 rw[hp.2,e]at this;cases this
theorem aM.hid{P:Pm}{base h:Heap}{H:HP}{ρ:List Addr}{frs:aJ}{ob:Tr}(I:aM P base H ρ frs ob h):aM P (hideAll h (frs.map (·.1))) H [] frs .nil h:=
 ⟨fun b o e=>of_hideAll _ e,I.frz,I.frNs,fun p hp=>⟨hideAll_none _ (List.mem_map.mpr ⟨p,hp,rfl⟩),(I.frNew p hp).2⟩,I.frDup,fun i o e=>(nomatch e),List.nodup_nil,fun a ha=>(nomatch ha),fun a ha=>(nomatch ha)⟩
theorem Cz(G:aI prog w T c K base){cl:Cx}(O:cl.Ok n){a:Addr}{m:Nat}{Sp:bf}{fa:List V×aR}{rs:List Value}{nx:Nat}{Q:V→aR→Prop}{H H₄:HP}{ρ ρ₃:List Addr}{frs:aJ}{s s₃:Shared}{m₃:bG}{QR:Value→Shared→Prop}{EE:Value→Shared→Prop}
  (N1:bH cl.outer frs) (N2:cl.L0=cl.L∨∃φ,(cl.L0,φ)∈frs∧cy φ) (hm:m≤n) (SP:c6 prog w T base a m Sp) (hSp:Sp fa.1 (fun v=>Q v fa.2) fun C=>bP (Nat.beq C 83) (Q .none fa.2))
  (I₄:aM (pm w T) base H₄ ρ₃ ((cl.L,aK m₃)::frs) fa.2.tr s₃.heap) (hlen:ρ₃.length=fa.2.nx) (hnx:fa.2.nx=nx) (L₄:aH base H ρ s H₄ ρ₃ s₃) (R₅:ai (pm w T) H₄ [] fa.1 rs)
  (k1:∀v r ob' H' ρ' m' s',aM (pm w T) base H' ρ' ((cl.L,aK m')::frs) ob'.tr s'.heap→ρ'.length=ob'.nx→ob'.nx=nx→aH base H ρ s H' ρ' s'→ag (pm w T) H' ρ' v r→Q v ob'→QR r s')
  (k2:∀e s' ob' H' ρ' m' s₃,aM (pm w T) base H' ρ' ((cl.L,aK m')::frs) ob'.tr s₃.heap→ρ'.length=ob'.nx→ob'.nx=nx→aH base H ρ s H' ρ' s₃→s'.gens=s₃.gens→s'.drawn=s₃.drawn→s'.os=s₃.os→
   cH (hideAll s₃.heap (((cl.L,aK m')::frs).map (·.1))) (fun C=>bP (Nat.beq C 83) (Q .none ob')) (cl.fenv::cl.outer) ((cl.L,aK m')::frs) H' e s'.heap→EE (.ref e) s') :
  wpAny (model prog w) cl.A (call (.ref a) ([]++rs) []) QR EE s₃:=by
 refine wK (SP _ cl _ fa.1 rs _ H₄ _ s₃ QR EE I₄.keepHid (O.to hm) hSp I₄.hid (ky O N1 N2) (fun e s' g1 g2 g3 t=>k2 e s' fa.2 H₄ ρ₃ m₃ s₃ I₄ hlen hnx L₄ g1 g2 g3 t) R₅ fun v r obx H' ρ' s' I' L' R' hk=>?_)
 refine k1 v r fa.2 H' ρ₃ m₃ s' (I₄.rebase I'.keep L'.le L'.new I'.frz fun p hp=>⟨I'.frNs p hp,(I'.frNew p hp).2⟩) hlen hnx (L₄.trans ⟨L'.le,fun a o e=>(L'.new a o e).imp id (fresh_of_stays I₄.keepHid ·),.refl,L'.gens,L'.drawn,L'.os⟩) (R'.mono (fun _ _ e=>e) fun i a e=>by rw[List.getElem?_nil]at e;cases e) hk
theorem BO(G:aI prog w T c K base)(S:de prog w T base c.R E n){cl:Cx}(O:cl.Ok n)(hcs:cl.cs=[]){g:Str}{gp gpos:Pos}{gas:List Expr}{a:Addr}(hg:cq cl.sc g=true)(eg:c.G g=some (.glob a))(hC:(c.C a).isSome=true)(hp:bb dj gas=true)
    {σ:St} {nx:Nat} {Q:V→aR→Prop} (h:HI E cl.sc gas σ fun vs σ₁=>bP (Nat.beq σ₁.ob.nx nx) (E.heard a vs σ₁.ob Q)) {H:HP} {ρ:List Addr} {frs:aJ} {s:Shared} {QR:Value→Shared→Prop} {EE:Value→Shared→Prop} (N:az (pm w T) base cl H ρ σ frs s.heap)
    (k1:∀v r ob' H' ρ' m' s',aM (pm w T) base H' ρ' ((cl.L,aK m')::frs) ob'.tr s'.heap→ρ'.length=ob'.nx→ob'.nx=nx→aH base H ρ s H' ρ' s'→ag (pm w T) H' ρ' v r→Q v ob'→QR r s')
    (k2:∀e s' ob' H' ρ' m' s₃,aM (pm w T) base H' ρ' ((cl.L,aK m')::frs) ob'.tr s₃.heap→ρ'.length=ob'.nx→ob'.nx=nx→aH base H ρ s H' ρ' s₃→s'.gens=s₃.gens→s'.drawn=s₃.drawn→s'.os=s₃.os→
      cH (hideAll s₃.heap (((cl.L,aK m')::frs).map (·.1))) (fun C=>bP (Nat.beq C 83) (Q .none ob')) (cl.fenv::cl.outer) ((cl.L,aK m')::frs) H' e s'.heap→EE (.ref e) s') :
    wpAny (model prog w) cl.A (eval (.Call (.Name g gp) gas [] gpos) cl.env) QR EE s:=by
  have main:∀vs rs σ₃ H₃ ρ₃ s₃,az (pm w T) base cl H₃ ρ₃ σ₃ frs s₃.heap→aH base H ρ s H₃ ρ₃ s₃→ai (pm w T) H₃ ρ₃ vs rs→bP (Nat.beq σ₃.ob.nx nx) (E.heard a vs σ₃.ob Q)→K.In s₃.heap∧wpAny (model prog w) cl.A (call (.ref a) ([]++rs) []) QR EE s₃:=by
    intro vs rs σ₃ H₃ ρ₃ s₃ N₃ L₃ R₃ h₃
    refine⟨G.kin.keeps N₃.keep,a8 h₃ fun hnx h₃=>?_⟩
    have hnx:=Nat.eq_of_beq_eq_true hnx
    refine cps fun G0 kk=>?_
    refine QC (S.heard _ _ _ _ h₃) fun m Sp fa hm SP hfz hr hSp=>?_
    refine aW N₃.inv fun m₃ mc₃ I₃ F₃=>?_
    refine aq (fW (ix 12) vs σ₃.ob H₃ rs fa I₃ R₃ hfz) fun H₄ F₄ R₄=>?_
    have I₄:=F₄.inv
    rw[hcs]at I₄
    refine kk (Cz G O N₃.outer N₃.self hm SP hSp I₄ (by rw[F₄.nx];exact N₃.len) (by rw[F₄.nx];exact hnx) (L₃.trans ⟨F₄.le,F₄.new,.refl,rfl,rfl,rfl⟩) (d9 (jr (G.named · _ _ ·) 14) R₄ hr) k1 k2)
  refine Call_Name rfl ?_
  refine qr G O.kind hg eg N.keep ?_
  refine callWith_of (P:=K.In) (by rw[hZ hp];rfl) (fL (.inl (G.keep a (.inr (.inl hC))))) ?_
  cases gas with
  |nil=>exact evalArgs_nil3 (main [] [] σ H ρ s N .refl .nil h)
  | cons e r=>
    have q:=FF (EE:=EE) (pos:=gpos) S O (e::r) σ _ h hp H ρ s (fun rs s₂=>K.In s₂.heap∧wpAny (model prog w) cl.A (call (.ref a) ([]++rs) []) QR EE s₂) N fun v r σ' H' ρ' s' N' L' R' q=>main v r σ' H' ρ' s' N' L' R' q
    rw[dp e cl.env r (dH (a9 hp).1)]at q ⊢
    exact evalArgs_plain q
end
end
section
section
variable {prog:Program}{w:World}{T:Nat→V}{base:Heap}{c:ck}{K:Frag}{E:Ev}{n:Nat}
theorem Ec{sc:Scope}{p:Pos}{l:xh}{ls:List xh}(h:EN sc p ls=some l):l∈ls∧p.line=l.line∧p.col=l.col∧sc.names.lookup l.key=some .cell:=by
 induction ls with
 |nil=>cases h
 |cons x r ih=>exact gK h (fun b e=>ar b fun a b=>ar a fun a1 a2=>ae e▸⟨.head _,Nat.eq_of_beq_eq_true a1,Nat.eq_of_beq_eq_true a2,by rw[←eH];exact hO b⟩) fun _ e=>(ih e).imp (.tail _) id
theorem wo{sc:Scope}(h:wW sc=true):sc.kind=.function:=by
 unfold wW at h
 revert h
 cases sc.kind <;> first|exact fun _=>rfl|exact fun h=>nomatch h
theorem yc{f g:Str}{sc lsc:Scope}{a:Addr}(h:De c f g sc lsc=some a):cq sc f=true∧lsc.kind=.function∧cq lsc g=true∧lsc.isGenerator=false∧lsc.isCoroutine=false∧c.G f=some (.glob 1183)∧c.G g=some (.glob a)∧(c.C a).isSome=true:=
 bQ h fun hb h=>ar hb fun b1 hb=>ar hb fun b2 hb=>ar hb fun b3 hb=>ar hb fun b4 b5=>au h fun hd e1 h=>bQ h fun e2 h=>au h fun a' e3 h=>au h fun q e4 h=>
  ⟨b1,wo b2,b3,bS b4,bS b5,Nat.eq_of_beq_eq_true e2▸ED e1,ae h▸ED e3,by rw[←ae h,e4];rfl⟩
noncomputable def RZ(base:Heap)(R:Addr→Prop)(l:List Env)(frs:aJ)(H:HP)(e:Addr)(h:Heap):Prop:=
  ∃ B H₁ C a0,base.StaysIn B∧(∀a o,H a o→H₁ a o)∧(∀a o,H₁ a o→H a o∨base.get? a=none)∧(∀a o,H₁ a o→B.get? a=some o)∧
    (∀p∈frs,((∃o,B.get? p.1=some o∧p.2.φ H₁ o)∨cy p.2∧∃o,h.get? p.1=some o∧p.2.φ H₁ o)∧∀o,¬H₁ p.1 o)∧R C∧Heap.FlyingW B l e (.ref C) a0 h
theorem dA{B h h':Heap}{H₁:HP}{frs:aJ}(k:h.UpToSlots h')(t:∀p∈frs,((∃o,B.get? p.1=some o∧p.2.φ H₁ o)∨cy p.2∧∃o,h.get? p.1=some o∧p.2.φ H₁ o)∧∀o,¬H₁ p.1 o) :
  ∀p∈frs,((∃o,B.get? p.1=some o∧p.2.φ H₁ o)∨cy p.2∧∃o,h'.get? p.1=some o∧p.2.φ H₁ o)∧∀o,¬H₁ p.1 o:=by
 refine fun p hp=>⟨(t p hp).1.imp id fun x=>⟨x.1,x.2.elim fun o y=>(k _ _ y.1 (x.1.nf _ _ y.2)).elim fun q hs=>⟨_,hs,x.1.dat H₁ H₁ o _ rfl y.2⟩⟩,(t p hp).2⟩
theorem n5{M:Model}{R:Addr→Prop}{A:Around}{env:Env}{outer:List Env}{frs:aJ}{H:HP}{L e:Addr}{s:Shared}{Q:Unit→Shared→Prop}{EE:Value→Shared→Prop}(hfr:A.frames=some (env::outer))(hf:env.frame=some L)
  (t:cH base R (env::outer) frs H e s.heap) (q:∀h',RZ base R outer frs H e h'→Q () {s with heap:=h'}):wpAny M A (leaving env (.ref e)) Q EE s:=by
 refine cps fun G0 kk=>?_
 obtain⟨B,H₁,t1,t2,t3,t4,t5,C,a0,hR,hk,hn,hF,h⟩:=t
 refine kk (h.elim (fun h=>?_) fun h=>?_)
 ·refine NF h fun oe vs e1 e2 e3 e4 e5=>?_
  refine wpAny_leaving_firstW hfr hF hf e1 hk hn e3 e5 e4 fun h' kz=>q h' ⟨B,H₁,C,a0,t1,t2,t3,t4,dA kz.2.2.2 t5,hR,kz.1,hn,kz.2.1.elim fun _ k=>k.elim fun _ k=>k,e2▸kz.2.2.1⟩
 ·exact wpAny_leaves_onW hfr hf ⟨hk,hn,hF,h⟩ fun h' k k5=>q h' ⟨B,H₁,C,a0,t1,t2,t3,t4,dA k5 t5,hR,k⟩
noncomputable abbrev jT(cx ch:Cx)(m₁ mh mch:bG)(frs:aJ):aJ:=(ch.L,aK mh)::(aC ch.cs mch++((cx.L,aK m₁)::frs))
theorem HS{P:Pm}{H:HP}{ρ:List Addr}{cx:Cx}{frs:aJ}{m₁ mc₁:bG}{ob:Tr}{h:Heap}(I:aM P base H ρ ((cx.L,aK m₁)::(aC cx.cs mc₁++frs)) ob h)(p)(hp:p∈cx.cs):∃o,h.get? p.2=some o∧o.data=.cell (mc₁ p.1):=
 I.frNs (p.2,dC (mc₁ p.1)) (.tail _ (List.mem_append_left _ (List.mem_map.mpr ⟨p,hp,rfl⟩)))
theorem Au{P:Pm}{H₁:HP}{ρ:List Addr}{cx ch:Cx}{frs:aJ}{m₁ mc₁ mh mch mY:bG}{ob:Tr}{h₃:Heap}{LY:Addr}(I₃:aM P base H₁ ρ ((LY,aK mY)::(ch.L,aK mh)::(aC ch.cs mch++((cx.L,aK m₁)::(aC cx.cs mc₁++frs)))) ob h₃) :
  aM P base (H₁.cells h₃ (cx.cs.map (·.2))) ρ ((LY,aK mY)::jT cx ch m₁ mh mch frs) ob h₃:=by
 have pe:((LY,aK mY)::(ch.L,aK mh)::(aC ch.cs mch++((cx.L,aK m₁)::(aC cx.cs mc₁++frs))):aJ).Perm (aC cx.cs mc₁++((LY,aK mY)::jT cx ch m₁ mh mch frs)):=by
  have:=List.perm_append_comm_assoc ((LY,aK mY)::(ch.L,aK mh)::(aC ch.cs mch++[(cx.L,aK m₁)])) (aC cx.cs mc₁) frs
  rw[List.cons_append,List.cons_append,List.append_assoc,List.cons_append,List.nil_append,List.cons_append,List.cons_append,List.append_assoc]at this
  exact this
 exact(I₃.perm pe).freezeCells
theorem Cu{P:Pm}{H₁:HP}{ρ:List Addr}{cx cl:Cx}{m₁ mc₁ mY:bG}{h₃:Heap}{lsc:Scope}{fm fm':List (Str×V)}(hs:cl.sc=lsc)(hcl:cl.cl=gN cx.cl lsc.names [])(kf:gZ cx.sc lsc fm lsc.names fm')(F₁:iC P H₁ ρ cx fm m₁ mc₁)
  (kept:∀x a,cx.sc.names.lookup x=some .cell→cx.cl.lookup x=some a→(x,a)∈cx.cs) (at₃:∀p∈cx.cs,∃o,h₃.get? p.2=some o∧o.data=.cell (mc₁ p.1)):iC P (H₁.cells h₃ (cx.cs.map (·.2))) ρ cl fm' mY fun _=>none:=fun y v e=>by
 have f:=kf.had y v e
 have hy:cx.sc.names.lookup y=some .cell:=by rw[←eH];exact kf.cell y f.1
 obtain⟨d1,r,na,rv⟩:=F₁ y v f.2.2.1
 have rv:=rv.mono (H':=H₁.cells h₃ (cx.cs.map (·.2))) (ρ':=ρ) (fun _ _ e=>.inl e) .refl
 refine⟨d1,r,na.elim (fun q=>?_) fun na=>na.elim (fun q=>?_) fun q=>?_,rv⟩
 ·rw[hy]at q;cases q.1
 ·obtain⟨_,⟨ad,had⟩,hmc⟩:=q
  have hmem:=kept _ _ hy had
  refine aq (at₃ _ hmem) fun o ho hd=>?_
  exact .inr (.inr ⟨by rw[hs,←eH];exact f.2.1,f.2.2.2,ad,o,by rw[hcl];exact qw f.1 had,.inr ⟨List.mem_map.mpr ⟨_,hmem,rfl⟩,ho⟩,by rw[hd];exact congrArg _ hmc⟩)
 ·rw[hy]at q;cases q.1
theorem uR{ρ ρ':List Addr}(g:bN ρ ρ')(e:ρ'.length=ρ.length):ρ'=ρ:=by
 apply List.ext_getElem?
 intro i
 by_cases hi:i < ρ.length
 ·rw[List.getElem?_eq_getElem hi];exact g _ _ (List.getElem?_eq_getElem hi)
 ·rw[List.getElem?_eq_none (by rw[e];exact Nat.le_of_not_lt hi),List.getElem?_eq_none (Nat.le_of_not_lt hi)]
theorem vP{P:Pm}{H₁ H':HP}{ρ:List Addr}{cx ch:Cx}{frs:aJ}{m₁ mc₁ mh mch m':bG}{σ:St}{ob':aR}{h₁ h₃ h':Heap}{LY:Addr}(I₁:aM P base H₁ ρ ((cx.L,aK m₁)::(aC cx.cs mc₁++frs)) σ.ob.tr h₁)(F₁:iC P H₁ ρ cx σ.fm m₁ mc₁)(N₁:az P base cx H₁ ρ σ frs h₁)
  (at₃:∀p∈cx.cs,∃o,h₃.get? p.2=some o∧o.data=.cell (mc₁ p.1)) (I':aM P base H' ρ ((LY,aK m')::jT cx ch m₁ mh mch frs) ob'.tr h') (hnx:ob'.nx=σ.ob.nx) (le':∀a o,(H₁.cells h₃ (cx.cs.map (·.2))) a o→H' a o) (new':∀a o,H' a o→(H₁.cells h₃ (cx.cs.map (·.2))) a o∨base.get? a=none) :
  az P base cx (H'.less (cx.cs.map (·.2))) ρ ⟨σ.fm,ob'⟩ frs h'∧(∀a o,H₁ a o→(H'.less (cx.cs.map (·.2))) a o)∧(∀a o,(H'.less (cx.cs.map (·.2))) a o→H₁ a o∨base.get? a=none)∧EP H' (H'.less (cx.cs.map (·.2))):=by
 have nodup:=I₁.frDup
 rw[List.map_cons,List.map_append,List.nodup_cons,List.nodup_append,df]at nodup
 have J:aM P base H' ρ ((cx.L,aK m₁)::frs) ob'.tr h':=kH I'.leave.leave
 have hc:∀p∈cx.cs,∃o,H' p.2 o∧o.data=.cell (mc₁ p.1):=fun p hp=>(at₃ p hp).imp fun o q=>⟨le' _ _ (.inr ⟨List.mem_map.mpr ⟨_,hp,rfl⟩,q.1⟩),q.2⟩
 have hl:EP H' (H'.less (cx.cs.map (·.2))):=E3 J.frz fun a ha=>(List.mem_map.mp ha).elim fun p hp=>(hc p hp.1).imp fun o q=>⟨mc₁ p.1,hp.2▸q.1,q.2⟩
 have inP:∀p∈cx.cs,(p.2,dC (mc₁ p.1))∈(cx.L,aK m₁)::(aC cx.cs mc₁++frs):=fun p hp=>.tail _ (List.mem_append_left _ (List.mem_map.mpr ⟨p,hp,rfl⟩))
 have J₂:=J.thawCells (mc:=mc₁) hc nodup.2.1 (fun p hp=>(I₁.frNew _ (inP p hp)).1) (fun p hp z=>by
  rw[List.map_cons,List.mem_cons]at z
  have pm:p.2∈cx.cs.map (·.2):=List.mem_map.mpr ⟨p,hp,rfl⟩
  exact z.elim (fun z=>nodup.1 (List.mem_append_left _ (z▸pm))) fun z=>nodup.2.2.2 _ pm _ z rfl) (fun p hp z=>I₁.rf _ z (List.mem_map.mpr ⟨_,inP p hp,rfl⟩)) hl
 have J₃:aM P base (H'.less (cx.cs.map (·.2))) ρ ((cx.L,aK m₁)::(aC cx.cs mc₁++frs)) ob'.tr h':=J₂.perm List.perm_middle
 have le₁:∀a o,H₁ a o→(H'.less (cx.cs.map (·.2))) a o:=fun a o e=>⟨le' _ _ (.inl e),fun z=>(List.mem_map.mp z).elim fun p hp=>(I₁.frNew _ (inP p hp.1)).2 o (hp.2▸e)⟩
 exact⟨⟨⟨m₁,mc₁,J₃,F₁.mono le₁ .refl⟩,N₁.len.trans hnx.symm,N₁.outer,N₁.self⟩,le₁,fun a o e=>(new' a o e.1).elim (fun q=>q.elim .inl fun q=>absurd q.1 e.2) .inr,hl⟩
theorem vx{H:HP}{cx:Cx}{m mc:bG}{x:Str}{r:Value}(h:Dl H cx m mc x r)(e:cx.sc.names.lookup x=some .local):m x=some r:=
 h.elim (fun q=>q.2) fun h=>h.elim (fun q=>nomatch e.symm.trans q.1) fun q=>nomatch e.symm.trans q.1
theorem zg{d n k:Nat}(h:d+16*(n+1)+128 < k):d+3+3+16*n+128 < k:=by lia
theorem zF{d n:Nat}(h:d+2*(n+1)+8 < recursionLimit):d+1+1+2*n+8 < recursionLimit:=by lia
theorem sY{d n:Nat}(h:d+2*n+8 < recursionLimit):d < recursionLimit:=by lia
theorem za{sc:Scope}{x:Str}(h:sc.names.lookup x=some .globalImplicit)(e:aE x "__debug__"=false):cq sc x=true:=by
 unfold cq;rw[eH,h];show bW (aE x "__debug__")=true;rw[e];rfl
theorem C2(G:aI prog w T c K base)(S:de prog w T base c.R E n):pz prog w T base c E n:=by
 intro cx f g gas lsc lpos fpos gp gpos p O σ Q h H ρ frs s Q' EE N X an
 refine i9 h fun a hG h=>i9 h fun l hlam h=>g9 h fun hpl h=>aB h fun fm hfm h=>?_
 refine Qc (yc hG) fun hf lk1 hg lk2 lk3 eF eG hC=>?_
 refine ym (Ec hlam) fun hl q1 q2 q3=>?_
 refine a7 (O.lam l hl q3) fun hcd hcn=>?_
 have kf:=y7 hfm
 have hcl:=nW (sc:=lsc) (env:=cx.env) fun y hy=>O.cells y (by rw[←eH];exact kf.cell y hy)
 refine aq G.heard fun iH hiH HF=>?_
 refine Call_Name rfl ?_
 refine qr G O.kind hf eF N.keep ?_
 refine callWith_of (P:=K.In) rfl (fL (.inl (G.keep 1183 (.inl (by rw[hiH];rfl))))) ?_
 refine evalArgs_plain ?_
 refine spliced_more (env:=cx.env) (e:=.Lambda mR (.Call (.Name g gp) gas [] gpos) lsc lpos) (rest:=[]) ?_
 refine BI G N hl hcd hcn q1 q2 hcl fun fa c' ctv pmv H₁ h₁ tk N₁ L₁ hfa hrec hnew=>?_
 refine spliced_none ⟨G.kin.keeps N₁.keep,?_⟩
 (with_reducible refine wpAny_call ?_)
 refine aW N₁.inv fun m₁ mc₁ I₁ F₁=>?_
 refine rj (n:=n) (s:={s with heap:=h₁,toks:=tk}) G O.frames O.handled O.depth O.units hiH (as:=[.glob fa]) (ob:=σ.ob) (fm':=[("ask",.glob fa)]) (by rw[HF.ps,HF.ds];rfl) I₁ N₁.len (eW O N₁.outer N₁.self) (.cons .glob .nil) ?_
 intro qual cdv cs h₂ tk₂ Oh N₂ hk₂
 let ch:=qb cx.A (cx.fenv::cx.outer) qual iH h₁.objs.size 1183 cdv cs
 refine Po HF.body fun p1 p2 p3 p4 kk p5 p6 p7 p8 hbody=>?_
 rw[hbody]
 refine wpAny_execs_cons ?_
 refine wpAny_Try_except ?_
 refine wpAny_execs_cons ?_
 (with_reducible refine wpAny_Return_some ?_)
 refine Call_Name rfl ?_
 refine c9 N₂.ns fun mh mch I₂ Fh nsh=>?_
 obtain⟨hdb,rask,hna,hra⟩:=Fh "ask" (.glob fa) rfl
 have hma:mh "ask"=some (.ref fa):=by rw[←hra.inv];exact vx hna HF.ask
 (with_reducible refine wpAny_Name ?_ hdb)
 refine wpAny_loadName_local Oh.kind HF.ask nsh hma ?_
 refine callWith_of (P:=fun h=>h.get? fa=some (kla_obj "<lambda>" l.qual mR (.Call (.Name g gp) gas [] gpos) lsc (gN cx.env.cells lsc.names []) pmv c' ctv)) rfl (fun h hh=>⟨.frame,.inl rfl,(Looks.ld (part:=none) hh).andThen .now⟩) ?_
 refine evalArgs_nil3 ⟨I₂.frz _ _ hfa,?_⟩
 (with_reducible refine wpAny_call ?_)
 refine kla_callFunE (sY Oh.depth) (I₂.frz _ _ hfa) rfl lk3 lk2 rfl (hrec.keeps hk₂) ?_
 refine wpAny_pure (a:=[]) ?_
 refine wpAny_newFunctionEnv kf.none (fun x hx=>nomatch hx) (fun h₃ hns hsb=>⟨((G.nolimit.keeps N₂.keep).fresh _ hsb),?_⟩) lk1
 refine kla_codeExpr ?_
 have noCell:∀x,lsc.names.lookup x≠some .cell:=fun x e=>kf.none _ (bD e) rfl
 let clos:=gN cx.env.cells lsc.names []
 let LY:=h₂.objs.size
 let cl:Cx:=⟨(cx.A.deeper ch.fenv).deeper (envX l.qual lsc LY fa (.ref c') clos),l.qual,lsc,LY,clos,some fa,lsc,LY,fa,clos,.ref c',[],ch.fenv::ch.outer⟩
 have Ocl:cl.Ok n:=⟨Around.frames_deeper Oh.frames,O.handled,lk1,lk1,zF O.depth,zg O.units,fun x a hx _=>absurd hx (noCell x),List.nodup_nil,fun x hx=>absurd hx (noCell x),fun l _ hx=>absurd hx (noCell _)⟩
 have k₃:∀b o,h₂.get? b=some o→h₃.get? b=some o:=fun b o e=>hsb.extBut b o (Nat.ne_of_lt (Heap.lt_size e)) (Heap.get?_push_of_some _ e)
 let mY:bG:=fun x=>(([]:List (Str×Value)).reverse).lookup x
 have I₃:=I₂.enter (m:=aK mY) (cw.mpr hns) k₃
 have at₃:∀p∈cx.cs,∃o,h₃.get? p.2=some o∧o.data=.cell (mc₁ p.1):=fun p hp=>(HS I₁ p hp).imp fun o q=>⟨k₃ _ _ (hk₂ _ _ q.1),q.2⟩
 have I₃':=Au I₃
 have FY:iC (pm w T) (H₁.cells h₃ (cx.cs.map (·.2))) ρ cl fm mY (fun _=>none):=Cu rfl rfl kf F₁ O.kept at₃
 have N₃:az (pm w T) base cl (H₁.cells h₃ (cx.cs.map (·.2))) ρ ⟨fm,σ.ob⟩ (jT cx ch m₁ mh mch frs) h₃:=⟨⟨mY,fun _=>none,I₃',FY⟩,N₁.len,eW (cx:=ch) (f:=mh) (mc:=mch) Oh (ky O N₁.outer N₁.self) (.inl rfl),.inl rfl⟩
 have fin:∀v r ob' H' ρ' m' (s':Shared),aM (pm w T) base H' ρ' ((LY,aK m')::jT cx ch m₁ mh mch frs) ob'.tr s'.heap→ρ'.length=ob'.nx→ob'.nx=σ.ob.nx→(∀a o,(H₁.cells h₃ (cx.cs.map (·.2))) a o→H' a o)→(∀a o,H' a o→(H₁.cells h₃ (cx.cs.map (·.2))) a o∨base.get? a=none)→bN ρ ρ'→s'.gens=s.gens→s'.drawn=s.drawn→s'.os=s.os→
   ag (pm w T) H' ρ' v r→Q v ⟨σ.fm,ob'⟩→Q' r s':=by
  intro v r ob' H' ρ' m' s' I' hlen' hnx' le' new' gr' e1 e2 e3 R' hq
  have hρ:ρ'=ρ:=uR gr' (hlen'.trans (hnx'.trans N₁.len.symm))
  rw[hρ]at I' R'
  have B:=vP I₁ F₁ N₁ at₃ I' hnx' le' new'
  exact an v r ⟨σ.fm,ob'⟩ _ ρ s' B.1 ⟨fun a o e=>B.2.1 _ _ (L₁.le _ _ e),fun a o e=>(B.2.2.1 a o e).elim (L₁.new a o) .inr,L₁.grows,e1,e2,e3⟩ (R'.cut B.2.2.2 .refl) hq
 refine BO G S (cl:=cl) Ocl rfl hg eG hC hpl (σ:=⟨fm,σ.ob⟩) (nx:=σ.ob.nx) (Q:=fun v ob=>Q v ⟨σ.fm,ob⟩) h N₃ ?_ ?_
 ·intro v r ob' H' ρ' m' s' I' hlen' hnx' L' R' hq
  exact fin v r ob' H' ρ' m' s' I' hlen' hnx' L'.le L'.new L'.grows L'.gens L'.drawn L'.os R' hq
 ·intro e s' ob' H' ρ' m' s₃ I' hlen' hnx' L' g1 g2 g3 t
  have hgD:cq ch.sc "DecodeError"=true:=za HF.exc rfl
  have kB:=I'.keepHid
  obtain⟨hp0,gg,dd0,tt0,oo⟩:=s'
  refine n5 (env:=cl.fenv) (outer:=cl.outer) Ocl.frames rfl t fun h₄ tt=>?_
  refine PQ tt fun B H₂ C a0 t1 t2 t3 t4 t5 hR hfl=>?_
  refine wpAny_looks_onW Oh.frames rfl hfl fun h₅ hheld sm₅=>?_
  refine wpAny_landsW hheld fun h₆ hfl₆ sm₆=>?_
  refine a8 hR fun hC83 hR=>?_
  have hC83:=Nat.eq_of_beq_eq_true hC83
  subst hC83
  refine aq ((G.xc _ _ G.exc.1).cls) fun XP hCls hbase=>?_
  have kb₆:∀b o,base.get? b=some o→h₆.get? b=some o:=fun b o e=>hfl₆.1 _ _ (t1 _ _ (kB _ _ e))
  refine aq hfl₆.there fun obE hobE hobc=>?_
  refine wpAny_handleBy_cons (codeAny_handlers_test (qr (cx:=ch) G Oh.kind hgD G.exc.2 kb₆ ?_)) (by intro q;cases q)
  refine wpAny_excMatches_sub_self (kb₆ _ _ hCls) hobE hobc hbase (codeAny_handlers_suite ?_)
  refine lands_againW hfl₆ fun h₇ hfl₇ sm₇=>?_
  refine wpAny_execs_cons ?_
  (with_reducible refine wpAny_Return_some ?_)
  have pl₇:=dA sm₇ (dA sm₆ (dA sm₅ t5))
  have I₇:aM (pm w T) base H₂ ρ' ((LY,aK m')::jT cx ch m₁ mh mch frs) ob'.tr h₇:=I'.rebase (fun b o q=>hfl₇.1 _ _ (t1 _ _ q)) t2 t3 (fun a o q=>hfl₇.1 _ _ (t4 _ _ q)) fun p hp=>⟨(pl₇ p hp).1.elim (fun q=>q.imp fun o q=>⟨hfl₇.1 _ _ q.1,q.2⟩) fun q=>q.2,(pl₇ p hp).2⟩
  refine wpAny_Constant_none ?_
  exact fin .none .none ob' H₂ ρ' m' _ I₇ hlen' hnx' (fun a o e=>t2 _ _ (L'.le _ _ e)) (fun a o e=>(t3 a o e).elim (L'.new a o) fun e=>.inr (fresh_of_stays kB e)) L'.grows (g1.trans L'.gens) (g2.trans L'.drawn) (g3.trans L'.os) .none hR
end
end
section
section
variable {prog:Program}{w:World}{T:Nat→V}{base:Heap}{c:ck}{K:Frag}{E:Ev}{n:Nat}
theorem kQ(G:aI prog w T c K base)(S:de prog w T base c.R E n):∀(cx:Cx) a as fm ob Q,cx.Ok (n+1)→IP c n E a as ob Q→∀H ρ frs s Q' EE ras,az (pm w T) base cx H ρ ⟨fm,ob⟩ frs s.heap→eB base c.R cx frs H s EE→ai (pm w T) H ρ as ras→
  c5 w T base cx frs H ρ s (fun v σ=>Q v σ.ob∧σ.fm=fm) Q'→codeAny (model prog w) cx.A (.call (.ref a) ⟨ras,[]⟩) (jA Q' EE) s:=by
 intro cx a as fm ob Q O h H ρ frs s Q' EE ras N X hv an
 refine du h (fun p hc h=>a8 h fun hm h=>aB h fun fa hfz h=>wu hfz fun hf hr=>?_) fun _ h=>du h (fun i hi h=>MP G S O hi h N X hv an) fun _ h=>aB h fun f hc h=>Ah G S O hc h N X hv an
 exact F4 G (O.less.to (Nat.le_of_ble_eq_true hm)) hc hf hr h N X hv an
theorem td(G:aI prog w T c K base)(S:de prog w T base c.R E n):∀(cx:Cx) f as fm ob Q,cx.Ok (n+1)→sZ c n E f as ob Q→∀H ρ frs s Q' EE rf ras,az (pm w T) base cx H ρ ⟨fm,ob⟩ frs s.heap→eB base c.R cx frs H s EE→ag (pm w T) H ρ f rf→ai (pm w T) H ρ as ras→
  c5 w T base cx frs H ρ s (fun v σ=>Q v σ.ob∧σ.fm=fm) Q'→wpAny (model prog w) cx.A (PySem.call rf ras) Q' EE s:=by
 intro cx f as fm ob Q O h H ρ frs s Q' EE rf ras N X hf hv an
 cases f with
 |glob a=>exact hf.glob' fun er=>er▸wK (kQ G S cx a as fm ob Q O h H ρ frs s Q' EE ras N X hv an)
 |blt i=>exact hf.blt' fun er=>er▸B7 O h N hv an
 |typ i=>exact hf.typ' fun er=>er▸Cg O h N hv an
 |_=>exact h.elim
theorem rA{R:Addr→Prop}{E E':Ev}(S:de prog w T base R E n)(h1:E'.ex=E.ex)(h2:E'.tr=E.tr)(h3:E'.es=E.es)(h4:E'.ss=E.ss)(h5:E'.call=E.call)(h6:E'.heard=E.heard)
  (h0:∀(c:Cx) e σ Q,c.Ok n→(E'.ex0 e c.sc).run σ Q→∀H ρ frs s Q' EE,az (pm w T) base c H ρ σ frs s.heap→c5 w T base c frs H ρ s Q Q'→wpAny (model prog w) c.A (eval e c.env) Q' EE s):de prog w T base R E' n:=
 ⟨h1▸S.ex,h0,h2▸S.tr,h3▸S.es,h4▸S.ss,h5▸S.call,h5▸S.code,h6▸S.heard⟩
theorem sJ{R:Addr→Prop}:de prog w T base R uH n:=⟨fun _ _ _ _ _ h=>h.elim,fun _ _ _ _ _ h=>h.elim,fun _ _ _ _ _ h=>h.elim,fun _ _ _ _ _ h=>h.elim,fun _ _ _ _ _ h=>h.elim,fun _ _ _ _ _ _ _ h=>h.elim,fun _ _ _ _ _ _ _ h=>h.elim,fun _ _ _ _ h=>h.elim⟩
theorem pH(G:aI prog w T c K base){a:Addr}{as:List V}{ob:aR}{Q:V→aR→Prop}(h:pg c n a as ob Q):xQ prog w T base (n+1) a as ob Q:=
 aB h fun p hc h=>a8 h fun hm h=>aB h fun fa hfz h=>wu hfz fun hf hr=>⟨p.1,p.2,fa,Nat.le_succ_of_le (Nat.le_of_ble_eq_true hm),G.spec _ _ _ hc,hf,hr,h⟩
theorem s9(G:aI prog w T c K base)(S:de prog w T base c.R E n)(h0:∀(c:Cx) e σ Q,c.Ok (n+1)→(E.ex0 e c.sc).run σ Q→∀H ρ frs s Q' EE,az (pm w T) base c H ρ σ frs s.heap→c5 w T base c frs H ρ s Q Q'→wpAny (model prog w) c.A (eval e c.env) Q' EE s):de prog w T base c.R (uu c n E) (n+1):=
 ⟨fun cx e σ Q O h=>Ml G S (C2 G S) cx e O σ Q h,h0,Nv S,NA S,OA G S,td G S,kQ G S,fun a as ob Q h=>pH G h⟩
theorem DC(G:aI prog w T c K base)(R:Addr→Prop):aI prog w T {c with R:=R} K base:=⟨G.kin,G.g,G.nolimit,G.fi,G.keep,G.cm,G.cs,G.ci,G.named,G.spec,G.xc,fun k C e=>⟨(G.nm k C e).inst⟩,G.low,G.lamP,G.bm,G.heard,G.exc⟩
theorem kN{G:Prop}{l:List Env}{frs:aJ}{H:HP}{e:Addr}{h:Heap}(t:cH base (fun _=>False) l frs H e h):G:=by
 obtain⟨_,_,_,_,_,_,_,_,_,h,_⟩:=t
 exact h.elim
theorem DB{cx:Cx}{frs:aJ}{H:HP}{s:Shared}:eY prog w base (fun _=>False) cx frs H s (fun _ _=>False):=⟨fun _ _ _ _ _ t=>kN t,PassesOwn.never⟩
theorem qp{E:Ev}(S:de prog w T base (fun _=>False) E n):∀(c:Cx) e σ Q,c.Ok n→(E.ex e c.sc).run σ Q→∀H ρ frs s Q' EE,az (pm w T) base c H ρ σ frs s.heap→c5 w T base c frs H ρ s Q Q'→wpAny (model prog w) c.A (eval e c.env) Q' EE s:=
 fun cx e σ Q O h H ρ frs s Q' EE N a=>wpAny_mono (S.ex cx e σ Q O h H ρ frs s Q' _ N DB a) (fun _ _ z=>z) fun _ _ z=>z.elim
theorem Fx(G:aI prog w T c K base)(n:Nat):de prog w T base (fun _=>False) (EO c n) n:=by
  induction n with
  |zero=>exact sJ
  | succ n S=>
    have S':de prog w T base (fun _=>False) ⟨(EO c n).ex,(EO c n).tr,(EO c n).es,(EO c n).ss,(EO c n).call,(EO c n).ex,(EO c n).heard⟩ n:=rA S rfl rfl rfl rfl rfl rfl (qp S)
    exact s9 (c:={c with R:=fun _=>False}) (DC G _) S' fun cx e σ Q O=>qp S cx e σ Q O.less
theorem B5(G:aI prog w T c K base)(n:Nat):de prog w T base c.R (ev c n) n:=by
  induction n with
  |zero=>exact sJ
  | succ n S=>
    have S0:=Fx G n
    have S':de prog w T base c.R ⟨(ev c n).ex,(ev c n).tr,(ev c n).es,(ev c n).ss,(ev c n).call,(EO c n).ex,(ev c n).heard⟩ n:=rA S rfl rfl rfl rfl rfl rfl (qp S0)
    exact s9 G S' fun cx e σ Q O=>qp S0 cx e σ Q O.less
noncomputable def cu(T:Nat→V)(w:World)(as bs:List V):Prop:=∀H rs,ai (pm w T) H [] as rs→ai (pm w T) H [] bs rs
end
end
section
noncomputable def aV(KU:V→Prop)(v:V)(ob:aR):Prop:=oP (freeze 12 ob v) fun p=>bP (ph 14 p.1) (KU p.1)
noncomputable def IZ(T:Nat→V)(w:World)(v u:V):Prop:=∀H r,ag (pm w T) H [] v r→ag (pm w T) H [] u r
noncomputable def aU(T:Nat→V)(w:World)(KV:V→Prop)(v:V):Prop:=∃u,IZ T w v u∧KV u
section
variable {prog:Program}{w:World}{T:Nat→V}{base:Heap}{c:ck}{K:Frag}
theorem aF(G:aI prog w T c K base){a:Addr}{i:af}{m:Nat}{Sp:bf}(hi:c.FI a=some i)
  (h:∀R as KV,Sp as KV R→∃bs,cu T w as bs∧ao (ev {c with R:=R} m) i bs ⟨.nil,0⟩ (aV (aU T w KV))):c6 prog w T base a (m+1) Sp:=by
 intro B cx R as ras KV H frs s Q' EE k O hS I hout X hv an
 refine aq (h R as KV hS) fun bs hsm he=>?_
 have GB:aI prog w T {c with R:=R} K B:=DC (G.mono k) R
 refine qv GB (B5 GB m) O.frames O.handled O.depth O.units hi he I rfl hout X (hsm _ _ hv) fun v r ob' H' ρ' s' I' hl L' R' q=>?_
 refine aB q fun p hf q=>a8 q fun hn q=>?_
 refine aq q fun u hsu hk=>?_
 refine aq (ix 12 _ _ _ _ _ I' R' hf) fun H₂ F₂ R₂=>?_
 exact an u r p.2.tr H₂ ρ' s' F₂.inv ⟨fun a o e=>F₂.le a o (L'.le a o e),fun a o e=>(F₂.new a o e).elim (L'.new a o) .inr,L'.grows,L'.gens,L'.drawn,L'.os⟩ (hsu _ _ (jr (GB.named · _ _ ·) 14 _ _ R₂ hn)) hk
end
theorem EK{P:Pm}{H:HP}{ρ:List Addr}{rs:List Value}{xs:List Int}(h:IntsAre rs xs):ai P H ρ (bM xs) rs:=by
 induction h with
 |nil=>exact .nil
 |cons _ _ _ ih=>exact .cons .int ih
mutual
inductive aP:V→V→Prop
 |refl {v}:aP v v
 |bool {k k' b}:aP (.bool k b) (.bool k' b)
 |int {k k' x}:aP (.int k x) (.int k' x)
 |str {k k' x}:aP (.str k x) (.str k' x)
 |bytes {k k' xs}:aP (.bytes k xs) (.bytes k' xs)
 |irow {k k' xs}:aP (.irow k xs) (.irow k' xs)
 |tup {vs us}:aS vs us→aP (.tup vs) (.tup us)
 |list {vs us}:aS vs us→aP (.list vs) (.list us)
 |inst {C fs gs}:rV fs gs→aP (.inst C fs) (.inst C gs)
 |row {vs l k}:iR vs=some l→aP (.list vs) (.irow k (nY l))
 |unrow {k xs}:aP (.irow k xs) (.list (bM xs))
inductive aS:List V→List V→Prop
 |nil:aS [] []
 |cons {v u vs us}:aP v u→aS vs us→aS (v::vs) (u::us)
inductive rV:List (Str×V)→List (Str×V)→Prop
 |nil:rV [] []
 |cons {x v u fs gs}:aP v u→rV fs gs→rV ((x,v)::fs) ((x,u)::gs)
end
theorem aP.rel{P:Pm}{H:HP}{ρ:List Addr}{v u:V}{r:Value}(l:aP v u):ag P H ρ v r→ag P H ρ u r:=
 aP.rec (motive_1:=fun v u _=>∀r,ag P H ρ v r→ag P H ρ u r) (motive_2:=fun v u _=>∀r,ai P H ρ v r→ai P H ρ u r) (motive_3:=fun v u _=>∀r,bt P H ρ v r→bt P H ρ u r)
  (fun _ h=>h) (fun _ h=>h.bool' fun e=>e▸.bool) (fun _ h=>h.int' fun _ e=>e▸.int) (fun _ h=>h.str' fun _ a e=>e▸.str a) (fun _ h=>h.bytes' fun _ _ e q=>e▸q▸.bytes) (fun _ h=>h.irow' fun _ _ _ a b e=>e▸.irow a b)
  (fun _ i _ h=>h.tup' fun _ _ a b e=>e▸.tup a (i _ b)) (fun _ i _ h=>h.list' fun _ _ _ a b e=>e▸.list a (i _ b)) (fun _ i _ h=>h.inst' fun _ _ _ _ a b c e=>e▸.inst a b (i _ c)) (fun q _ h=>h.list' fun _ _ _ a b e=>e▸.irow a (gE b q)) (fun _ h=>h.irow' fun _ _ _ a b e=>e▸.list a (EK b))
  (fun _ h=>h) (fun _ _ i j _ h=>h.cons' fun _ _ a b e=>e▸.cons (i _ a) (j _ b)) (fun _ h=>h) (fun _ _ i j _ h=>h.cons' fun _ _ _ a b e=>e▸.cons (i _ a) (j _ b)) l r
theorem aS.rel{P:Pm}{H:HP}{ρ:List Addr}{vs us:List V}{rs:List Value}(l:aS vs us):ai P H ρ vs rs→ai P H ρ us rs:=by
 induction vs generalizing us rs with
 |nil=>cases l;exact id
 |cons v vs ih=>cases l with|cons a l=>exact fun h=>h.cons' fun _ _ x y e=>e▸.cons (a.rel x) (ih l y)
theorem aP.same{T:Nat→V}{w:World}{v u:V}(l:aP v u):IZ T w v u:=fun _ _ h=>l.rel h
theorem aS.same{T:Nat→V}{w:World}{vs us:List V}(l:aS vs us):cu T w vs us:=fun _ _ h=>l.rel h
end
noncomputable def gY{α:Type}:List Str→List α→List α→Option (List (Str×α))
  |[],vs,_=>bO (iJ vs) (some [])
  | x::xs,vs,ds=>match vs with
    |[]=>oO (ds.drop (ds.length - (xs.length+1))).head? fun d=>bO (Nat.ble (xs.length+1) ds.length) (oO (gY xs [] ds) fun r=>some ((x,d)::r))
    |v::vs=>oO (gY xs vs ds) fun r=>some ((x,v)::r)
theorem ai.len{P:Pm}{H:HP}{ρ:List Addr}{vs:List V}{rs:List Value}(h:ai P H ρ vs rs):vs.length=rs.length:=
 ai.ind (M:=fun vs rs=>vs.length=rs.length) rfl (fun _ _ _ _ _ _ i=>congrArg (·+1) i) h
theorem ai.drop{P:Pm}{H:HP}{ρ:List Addr}(n:Nat):∀{vs:List V} {rs:List Value},ai P H ρ vs rs→ai P H ρ (vs.drop n) (rs.drop n):=by
  induction n with
  |zero=>exact fun h=>h
  | succ n ih=>
    intro vs rs h
    cases vs with
    |nil=>exact h.nil' fun e=>e▸.nil
    |cons v vs=>exact h.cons' fun r l a b e=>e▸ih b
theorem ai.hd{P:Pm}{H:HP}{ρ:List Addr}{vs:List V}{rs:List Value}{d:V}(h:ai P H ρ vs rs)(e:O8 vs=some d):∃r,rs.head?=some r∧ag P H ρ d r:=by
 cases vs with
 |nil=>cases e
 |cons v vs=>exact h.cons' fun r l a b er=>⟨r,by rw[er];rfl,ae e▸a⟩
theorem F8{P:Pm}{H:HP}{ρ:List Addr}(ps:List Str):∀{as ds:List V} {ras rs:List Value} {fm:List (Str×V)},iQ ps as ds=some fm→ai P H ρ as ras→ai P H ρ ds rs→∃bs,gY ps ras rs=some bs∧fw P H ρ fm bs:=by
  induction ps with
  |nil=>exact fun e a d=>bQ e fun q e=>⟨[],by rw[bU q]at a;rw[show _=[]from a.inv];rfl,ae e▸.nil⟩
  | cons x xs ih=>
    intro as ds ras rs fm e a d
    cases as with
    |cons v vs=>exact au (o:=iQ xs vs ds) e fun r er e=>a.cons' fun r' l a1 b1 e2=>(ih er b1 d).elim fun bs h=>⟨(x,r')::bs,by rw[e2];show oO (gY xs l rs) _=_;rw[h.1];rfl,ae e▸.cons a1 h.2⟩
    | nil=>exact au (o:=O8 _) e fun q eq e=>bQ e fun hb e=>au e fun r er e=>((d.drop _).hd eq).elim fun r' hr=>(ih er .nil d).elim fun bs h=>⟨(x,r')::bs,by
      rw[show ras=[]from a.inv]
      show oO (rs.drop (rs.length - (xs.length+1))).head? _=_
      rw[←d.len,hr.1]
      show bO (Nat.ble (xs.length+1) ds.length) (oO (gY xs [] rs) _)=_
      rw[hb,h.1];rfl,ae e▸.cons hr.2 h.2⟩
theorem yg{α:Type}{ps:List Str}:∀{as ds:List α} {fm:List (Str×α)},gY ps as ds=some fm→as.length≤ps.length∧ps.length≤as.length+ds.length:=by
  induction ps with
  |nil=>exact fun e=>bQ e fun q _=>by rw[bU q];exact⟨Nat.le_refl _,Nat.zero_le _⟩
  | cons x xs ih=>
    intro as ds fm e
    cases as with
    |nil=>exact au (o:=List.head? _) e fun d _ e=>bQ e fun hb e=>⟨Nat.zero_le _,by rw[List.length_nil,Nat.zero_add];exact Nat.le_of_ble_eq_true hb⟩
    |cons v vs=>exact au (o:=gY xs vs ds) e fun r er e=>⟨Nat.succ_le_succ (ih er).1,by rw[List.length_cons,List.length_cons,Nat.add_right_comm];exact Nat.succ_le_succ (ih er).2⟩
theorem FJ{α:Type}{l:List α}{n:Nat}{d:α}(h:(l.drop n).head?=some d):l.drop n=d::l.drop (n+1):=by
 rw[←List.drop_drop]
 cases e:l.drop n with
 |nil=>rw[e]at h;cases h
 |cons a r=>rw[e]at h;rw[ae h];rfl
theorem KJ{a b:Nat}(h:b+1≤a):a - b=a - (b+1)+1:=by lia
theorem AD {α:Type} {ps:List Str}:∀{as ds:List α} {fm:List (Str×α)},gY ps as ds=some fm→fm=ps.zip (as++ds.drop (ds.length - (ps.length - as.length))):=by
  induction ps with
  |nil=>exact fun e=>bQ e fun _ e=>ae e▸rfl
  | cons x xs ih=>
    intro as ds fm e
    cases as with
    | nil=>
      refine au (o:=List.head? _) e fun d ed e=>bQ e fun hb e=>au e fun r er e=>?_
      · have q:=ih er
        rw[List.nil_append,List.length_nil,Nat.sub_zero]at q ⊢
        rw[←ae e,q,List.length_cons,FJ ed,List.zip_cons_cons,←KJ (Nat.le_of_ble_eq_true hb)]
    |cons v vs=>exact au (o:=gY xs vs ds) e fun r er e=>by rw[←ae e,ih er,List.cons_append,List.zip_cons_cons,List.length_cons,List.length_cons,Nat.add_sub_add_right]
theorem L4{f:(Str×Value)→List (Str×Value)→Sem (ForInStep (List (Str×Value)))}(hf:∀n d s,f (n,d) s=if(s.lookup n).isNone then pure (.yield (s++[(n,d)]))else pure (.yield s))(l:List (Str×Value)):∀(s:List (Str×Value)),(∀p∈l,s.lookup p.1=none)→(l.map (·.1)).Nodup→forIn l s f=pure (s++l):=by
  induction l with
  |nil=>exact fun s _ _=>by rw[List.append_nil];rfl
  | cons p l ih=>
    intro s h hn
    rw[List.forIn_cons,show f p s=_ from hf p.1 p.2 s,if_pos (by rw[h p (.head _)];rfl)]
    show forIn l (s++[p]) f=_
    rw[List.map_cons,List.nodup_cons]at hn
    rw[ih _ (fun q hq=>?_) hn.2,List.append_assoc];rfl
    rw[List.lookup_append,h q (.tail _ hq),List.lookup_cons,beq_eq_false_iff_ne.mpr fun e=>hn.1 (by rw[←e];exact List.mem_map.mpr ⟨q,hq,rfl⟩)];rfl
section
theorem nQ{M:Model}{A:Around}{E:Value→Shared→Prop}{s:Shared}{Q:Option (Array Value)→Shared→Prop}(h:Q none s):wpAny M A (seqItems? .none) Q E s:=by
 unfold seqItems?
 exact wpAny_pure h
theorem gh {α:Type} {n:Str} {ps:List Str}:∀{vs:List α},n∈ps.take vs.length→((ps.zip vs).lookup n).isNone=false:=by
  induction ps with
  |nil=>exact fun h=>by rw[List.take_nil]at h;cases h
  | cons p ps ih=>
    intro vs h
    cases vs with
    |nil=>cases h
    | cons v vs=>
      rw[List.zip_cons_cons,List.lookup_cons]
      cases e:n==p with
      |true=>rfl
      | false=>
        rw[List.length_cons,List.take_succ_cons,List.mem_cons]at h
        refine h.elim (fun h=>?_) ih
        rw[h,beq_self_eq_true]at e;cases e
theorem jW {α:Type} {n:Str} {k:Nat}:∀{ps:List Str} {vs:List α},n∉ps.take k→vs.length≤k→(ps.zip vs).lookup n=none:=by
  induction k with
  |zero=>exact fun{ps vs} _ h=>by rw[List.length_eq_zero_iff.mp (Nat.le_zero.mp h),List.zip_nil_right];rfl
  | succ k ih=>
    intro ps vs h hk
    cases ps with
    |nil=>rfl
    | cons p ps=>cases vs with
      |nil=>rfl
      | cons v vs=>
        rw[List.take_succ_cons,List.mem_cons,not_or]at h
        rw[List.zip_cons_cons,List.lookup_cons,beq_eq_false_iff_ne.mpr h.1]
        exact ih h.2 (Nat.le_of_succ_le_succ hk)
theorem zC{α:Type}(k:Nat):∀(ps:List Str) (vs:List α),(ps.zip vs).drop k=(ps.drop k).zip (vs.drop k):=by
  induction k with
  |zero=>exact fun _ _=>rfl
  | succ k ih=>
    intro ps vs
    cases ps with
    |nil=>rfl
    | cons p ps=>cases vs with
      |nil=>rw[List.zip_nil_right,List.drop_nil,List.drop_nil,List.zip_nil_right]
      |cons v vs=>exact ih ps vs
theorem Bf {α:Type} {ps:List Str}:∀{vs:List α} (pre:List (Str×α)),ps.Nodup→ps.length=vs.length→(∀p∈pre,p.1∉ps)→ps.filterMap (fun n=>((pre++ps.zip vs).lookup n).map fun v=>(n,v))=ps.zip vs:=by
  induction ps with
  |nil=>exact fun _ _ _ _=>rfl
  | cons p ps ih=>
    intro vs pre hn hl hp
    cases vs with
    |nil=>cases hl
    | cons v vs=>
      rw[List.nodup_cons]at hn
      have e1:(pre++(p::ps).zip (v::vs)).lookup p=some v:=by
        have:pre.lookup p=none:=by
          cases q:pre.lookup p with
          |none=>rfl
          |some u=>exact absurd (List.Mem.head _) (hp _ (bD q))
        rw[List.lookup_append,this,List.zip_cons_cons,List.lookup_cons,beq_self_eq_true];rfl
      rw[List.filterMap_cons,e1]
      have ih:=ih (vs:=vs) (pre++[(p,v)]) hn.2 (Nat.succ.inj hl) (fun q hq=>(List.mem_append.mp hq).elim (fun hq z=>hp q hq (.tail _ z)) fun hq=>by
        rw[List.mem_singleton.mp hq];exact hn.1)
      rw[List.append_assoc]at ih
      exact congrArg _ ih
theorem zu{f:(Str×Value)→List (Str×Value)→Sem (ForInStep (List (Str×Value)))}(hf:∀n d s,f (n,d) s=if(s.lookup n).isNone then pure (.yield (s++[(n,d)]))else pure (.yield s))(l1 l2:List (Str×Value)):∀(s:List (Str×Value)),(∀p∈l1,(s.lookup p.1).isNone=false)→(∀p∈l2,s.lookup p.1=none)→(l2.map (·.1)).Nodup→forIn (l1++l2) s f=pure (s++l2):=by
  induction l1 with
  |nil=>exact fun s _ h hn=>L4 hf l2 s h hn
  | cons p l1 ih=>
    intro s h1 h2 hn
    rw[List.cons_append,List.forIn_cons,show f p s=_ from hf p.1 p.2 s,h1 p (.head _)]
    show forIn (l1++l2) s f=_
    exact ih s (fun p hp=>h1 p (.tail _ hp)) h2 hn
theorem qW{α:Type}{p:Str×α}{ps:List Str}{vs:List α}(h:p∈ps.zip vs):p.1∈ps:=(List.of_mem_zip (a:=p.1) (b:=p.2) h).1
theorem yz{α:Type}{ps:List Str}:∀{as xs:List α},as.length≤ps.length→ps.zip (as++xs)=ps.zip as++(ps.drop as.length).zip xs:=by
  induction ps with
  |nil=>exact fun{as xs} h=>by rw[List.length_eq_zero_iff.mp (Nat.le_zero.mp h)];rfl
  | cons p ps ih=>
    intro as xs h
    cases as with
    |nil=>rfl
    |cons a as=>rw[List.cons_append,List.zip_cons_cons,ih (Nat.le_of_succ_le_succ h),List.zip_cons_cons];rfl
theorem ql{n:Str}{ps:List Str}:∀{k:Nat},ps.Nodup→n∈ps.take k→n∉ps.drop k:=by
  induction ps with
  |nil=>exact fun _ h=>by rw[List.take_nil]at h;cases h
  | cons p ps ih=>
    intro k hn h
    cases k with
    |zero=>cases h
    | succ k=>
      rw[List.nodup_cons]at hn
      rw[List.take_succ_cons,List.mem_cons]at h
      rw[List.drop_succ_cons]
      exact h.elim (fun h z=>hn.1 (h▸List.mem_of_mem_drop z)) fun h=>ih hn.2 h
theorem pB {α:Type} {p:Str×α} {ps:List Str}:∀{vs:List α} {k:Nat},p∈(ps.zip vs).take k→p.1∈ps.take k:=by
  induction ps with
  |nil=>exact fun h=>by rw[List.zip_nil_left,List.take_nil]at h;cases h
  | cons q ps ih=>
    intro vs k h
    cases vs with
    |nil=>rw[List.zip_nil_right,List.take_nil]at h;cases h
    | cons v vs=>cases k with
      |zero=>cases h
      | succ k=>
        rw[List.zip_cons_cons,List.take_succ_cons,List.mem_cons]at h
        rw[List.take_succ_cons,List.mem_cons]
        exact h.imp (fun e=>by rw[e]) ih
theorem nC{n:Str}{ps:List Str}{a b c:Nat}(h:n∈(ps.drop a).take b)(hc:a+b≤c):n∈ps.take c:=by
 have e:(ps.drop a).take b=(ps.take (a+b)).drop a:=by rw[List.drop_take];congr 1;lia
 rw[e]at h
 have h:=List.mem_of_mem_drop h
 exact(List.take_prefix_take_left hc).subset h
theorem SJ{p a r:Nat}(h2:p≤a+r)(hr:r≤p):p - r+(a - (p - r))=a:=by lia
theorem S9{p a r:Nat}(h1:a≤p)(h2:p≤a+r):p - r≤a:=by lia
theorem SM{p a r:Nat}(h1:a≤p)(h2:p≤a+r)(hr:r≤p):r - (p - a)=a - (p - r):=by lia
theorem S6{p a r:Nat}(h1:a≤p)(h2:p≤a+r):p=a+(r - (r - (p - a))):=by lia
theorem To{p a r:Nat}(h1:a≤p)(h2:p≤a+r)(hr:r≤p):p - a=r - (a - (p - r)):=by lia
section
variable {ps:List Str}{ras rs:List Value}(hl:ras.length≤ps.length∧ps.length≤ras.length+rs.length)(hr:rs.length≤ps.length)
include hl hr
theorem JB:(ps.take (ps.length - rs.length)).filter (fun n=>((ps.zip ras).lookup n).isNone)=[]:=by
 rw[List.filter_eq_nil_iff]
 intro a ha
 rw[gh ((List.take_prefix_take_left (S9 hl.1 hl.2)).subset ha)]
 exact fun h=>nomatch h
theorem yq:(ps.drop (ps.length - rs.length)).zip rs=((ps.drop (ps.length - rs.length)).zip rs).take (ras.length - (ps.length - rs.length))++(ps.drop ras.length).zip (rs.drop (ras.length - (ps.length - rs.length))):=by
 have h1:=List.take_append_drop (ras.length - (ps.length - rs.length)) ((ps.drop (ps.length - rs.length)).zip rs)
 rw[zC,List.drop_drop,SJ hl.2 hr]at h1
 exact h1.symm
theorem ze(hn:ps.Nodup){f:(Str×Value)→List (Str×Value)→Sem (ForInStep (List (Str×Value)))}(hf:∀n d s,f (n,d) s=if(s.lookup n).isNone then pure (.yield (s++[(n,d)]))else pure (.yield s)) :
  forIn ((ps.drop (ps.length - rs.length)).zip rs) (ps.zip ras) f=pure (ps.zip (ras++rs.drop (rs.length - (ps.length - ras.length)))):=by
 rw[yq hl hr,zu hf,SM hl.1 hl.2 hr,yz hl.1]
 ·exact fun p hp=>gh (nC (pB hp) (Nat.le_of_eq (SJ hl.2 hr)))
 ·exact fun p hp=>jW (k:=ras.length) (fun z=>ql hn z (qW hp)) (Nat.le_refl _)
 ·rw[List.map_fst_zip (by rw[List.length_drop,List.length_drop];exact Nat.le_of_eq (To hl.1 hl.2 hr))]
  exact hn.sublist (List.drop_sublist _ _)
end
theorem mT{M:Model}{A:Around}{E:Value→Shared→Prop}{s:Shared}{d:Value}{rs:List Value}(hd:(∃T o n,d=.ref T∧s.heap.get? T=some o∧o.data=.seq rs.toArray n)∨(d=.none∧rs=[])):wpAny M A (seqItems? d) (fun r s'=>(r.getD #[]).toList=rs∧s'=s) E s:=by
 refine hd.elim (fun h=>?_) fun h=>?_
 ·refine HO h fun T o n e h1 h2=>?_
  rw[e]
  exact wpAny_seqItems h1 h2 ⟨rfl,rfl⟩
 ·rw[h.1]
  exact nQ ⟨by rw[h.2];rfl,rfl⟩
theorem C6{s:Shared}{fd:FuncData}{ras rs:List Value}{bs:List (Str×Value)}(hp:fd.params.posonlyargs=[])(hv:fd.params.vararg=none)(hk:fd.params.kwonlyargs=[])(hkw:fd.params.kwarg=none)(hn:(fd.params.args.map (·.arg)).Nodup)
  (hr:rs.length≤(fd.params.args.map (·.arg)).length) (hd:(∃T o n,fd.defaults=.ref T∧s.heap.get? T=some o∧o.data=.seq rs.toArray n)∨(fd.defaults=.none∧rs=[])) (h:gY (fd.params.args.map (·.arg)) ras rs=some bs):BindsTo s fd ⟨ras,[]⟩ bs:=by
 intro M A E Q hq
 have hl:=yg h
 have he:=AD h
 have hz:=Bf (ps:=fd.params.args.map (·.arg)) (vs:=ras++rs.drop (rs.length - ((fd.params.args.map (·.arg)).length - ras.length))) [] hn (by rw[List.length_append,List.length_drop];exact S6 hl.1 hl.2) (fun p hp=>nomatch hp)
 rw[List.nil_append,←he]at hz
 unfold bindArgs
 simp only [hp,hv,hk,hkw,List.map_nil,List.nil_append,List.forIn_nil,pure_bind]
 generalize hps:fd.params.args.map (·.arg)=ps at *
 refine wpAny_bind (wpAny_mono (mT hd) ?_ fun _ _ x=>x)
 intro r s' hs
 rw[hs.2]
 simp only [hs.1]
 rw[if_neg ?_]
 ·have ed:rs.drop (rs.length - ps.length)=rs:=by rw[Nat.sub_eq_zero_of_le hr];rfl
  simp only [ed,List.append_nil]
  rw[JB hl hr]
  simp only [List.isEmpty_nil,Bool.not_true,Bool.false_eq_true,if_false]
  rw[ze hl hr hn (fun n d s=>rfl),←he]
  refine wpAny_bind (wpAny_pure (wpAny_pure ?_))
  rw[hz]
  exact hq
 ·rw[decide_eq_false (Nat.not_lt.mpr hl.1)];exact fun h=>nomatch h
end
section
open PySem PySem.Builtin PySem.Builtin.ObjectAttr PySem.W PySem.Calls PyProof.Rows
noncomputable abbrev iz:List Value:=[.type "Exception",.type "BaseException",.type "object"]
noncomputable def jw:List Value→List Value
 |.ref _::r=>jw r
 |l=>l
noncomputable def wN(l:List Value):Bool:=jw l==iz
theorem kP:∀(l:List Value),∃as:List Addr,l=as.map Value.ref++jw l
  |[]=>⟨[],rfl⟩
  | v :: r=>by
    cases v with
    | ref a=>
      refine bz (kP r) fun as q=>?_
      refine⟨a::as,?_⟩
      show Value.ref a::r=Value.ref a::(as.map Value.ref++jw r)
      rw[←q]
    |_=>exact⟨[],rfl⟩
theorem ny{l:List Value}(e:wN l=true):∃as:List Addr,l=as.map Value.ref++iz:=by
 refine bz (kP l) fun as q=>?_
 exact⟨as,by rw[←eq_of_beq e];exact q⟩
theorem sL(self:Value):refuseLoop self "__setattr__" iz=pure ():=by kernel_rfl
theorem mH(self:Value):∀as:List Addr,refuseLoop self "__setattr__" (as.map Value.ref++iz)=pure ()
  |[]=>sL self
  | a::as=>by
    show refuseLoop self "__setattr__" (.ref a::(as.map Value.ref++iz))=_
    rw[refuseLoop_ref]
    exact mH self as
theorem gD(as:List Addr){T:String}(h:iz.contains (.type T)=true):(as.map Value.ref++iz).contains (.type T)=true:=by
 induction as with
 |nil=>exact h
 |cons a as ih=>rw[List.map_cons,List.cons_append,List.contains_cons,ih,Bool.or_true]
theorem nt(as:List Addr){T:String}(h:iz.contains (.type T)=false):(as.map Value.ref++iz).contains (.type T)=false:=by
 induction as with
 |nil=>exact h
 |cons a as ih=>rw[List.map_cons,List.cons_append,List.contains_cons,ih];rfl
section
variable {prog:Program}{w:World}{A:Around}{R:Result→Shared→Prop}{s:Shared}{K:Frag}{C x:Addr}{E:Value→Shared→Prop}
noncomputable def fj(K:Frag)(C:Addr):Bool:=(clsIn K C).any fun cd=>wN cd.mro&&cd.hasDict
theorem n9{ox:Obj}{od:Option Obj}{name:Str}{tk:Tok}{v:Value}(X:K.In s.heap)(I:InstAt s.heap x ox C od)(hp:fj K C=true)(ht:findIn K (.ref C) name=some none)
  (h:wpAny (model prog w) A.in1 (storeInOwnDict (.ref x) (.ref C) (.str name tk) name v false)
   (fun fin s'=>match fin with|.done f=>R (.ok f) s'|.again c'=>c'.quiet=true∧codeAny (model prog w) A c' R s') (fun e s'=>R (.error e) s') s) :
  codeAny (model prog w) A (.call (.builtin "object.__setattr__") ⟨[.ref x,.str name tk,v],[]⟩) R s:=by
 have SF:=PySem.F.store_object
 refine aq (any_some hp) fun cd hc ho=>?_
 rw[Bool.and_eq_true]at ho
 refine bz (ny ho.1) fun as hmro=>?_
 have ne:cd.mro.isEmpty=false:=by rw[hmro];cases as <;> rfl
 have sub:Looks (model prog w) s.heap (isInstance (.ref x) (.type "object")) true:=I.type.andThen (looks_mroIn X (by unfold mroIn;rw[hc,Option.bind_some,if_neg (by rw[ne];decide),hmro,gD as (by decide)]))
 refine codeAny_call_builtin SF.slot.plain SF.entry (@check_slot (model prog w) _ _ s "object.__setattr__" "object" "__setattr__" (.ref x) [.str name tk,v] [] _ SF.kind SF.split sub (SF.args (.ref x) (.str name tk) v) ?_)
 have hm:Looks (model prog w) s.heap (mroOf (.ref C)) cd.mro:=(looks_clsIn X hc).andThen .now
 rw[osa_eq,refuse_eq]
 refine wpAny_bind (wpAny_bind (I.type.here (wpAny_bind (hm.here ?_))))
 rw[hmro,mH]
 refine wpAny_pure (wpAny_bind (I.type.here (wpAny_bind ((looks_findIn X ht).here (wpAny_bind (wpAny_pure ?_))))))
 exact h
theorem Eo{Q:Fin→Shared→Prop}{d:Addr}{es:List DictEntry}{n:Nat}{name:Str}{tk:Tok}{v:Value}(D:s.heap.get? d=some (dictOf es n))(hr:es.toArray.any (·.refKey)=false)(hl:(putL name (PyData.keyHash w.params name) (.str name s.toks) v es).length≤1000)
  (h:∀h',Heap.SameBut d s.heap h'→h'.get? d=some (dictOf (putL name (PyData.keyHash w.params name) (.str name s.toks) v es) (putN name es n))→Q (.done (.ret .none)) {s with heap:=h',toks:=s.toks+1}) :
  wpAny (model prog w) A (storeInDict d (.str name tk) name v) Q E s:=by
 refine wpAny_bind (wpAny_pure (wpAny_bind ?_))
 unfold nsSet
 refine wpAny_bind (wpAny_bind (wpAny_askSetting (wpAny_pure (wpAny_bind (wpAny_mkText (wpAny_bind (wpAny_loadPart D ?_)))))))
 dsimp only
 have c:(!es.toArray.any (·.key.isStr name)&&es.toArray.any (·.refKey))=false:=by rw[hr,Bool.and_false]
 rw[aRefKeyMayBeTheName_at,c]
 refine wpAny_updatePart D ?_
 have D':(s.heap.update d (Obj.putName name (PyData.keyHash w.params name) (.str name s.toks) v)).get? d=some (dictOf (putL name (PyData.keyHash w.params name) (.str name s.toks) v es) (putN name es n)):=by
  rw[Heap.get?_update_self _ D (by rw[putName_dict];rfl),putName_dict]
 refine wpAny_bind (wpAny_lookBehind D' (pastItsLine_dict (by rw[List.size_toArray,sizeLine_eq];lia)) ?_)
 exact wpAny_pure (h _ (Heap.SameBut.update ..) D')
noncomputable abbrev bK(C t:Addr):Obj:={cls:=.ref C,dict:=none,data:=.fields #[.ref t,.none,.none,.none,.bool false,.none]}
theorem qF{Q:Option Addr→Shared→Prop}{t d:Addr}(X:K.In s.heap)(hp:fj K C=true)(hx:s.heap.get? x=some (dT C t d))(h:Q (some d) s):wpAny (model prog w) A (ownDictForStores (.ref x)) Q E s:=by
 refine aq (any_some hp) fun cd hc ho=>?_
 rw[Bool.and_eq_true]at ho
 show wpAny _ _ (instanceDict x true) _ _ _
 unfold instanceDict
 refine wpAny_bind (wpAny_loadPart hx (wpAny_bind ((looks_clsIn X hc).here ?_)))
 rw[ho.2]
 exact wpAny_pure h
theorem pA{Q:Option Addr→Shared→Prop}{t:Addr}(X:K.In s.heap)(hp:fj K C=true)(hx:s.heap.get? x=some (bK C t))
  (h:∀h',(∀b o,b≠x→s.heap.get? b=some o→h'.get? b=some o)→h'.get? x=some (dT C t s.heap.objs.size)→h'.get? s.heap.objs.size=some (dictOf [] 0)→Q (some s.heap.objs.size) {s with heap:=h'}):wpAny (model prog w) A (ownDictForStores (.ref x)) Q E s:=by
 refine aq (any_some hp) fun cd hc ho=>?_
 rw[Bool.and_eq_true]at ho
 show wpAny _ _ (instanceDict x true) _ _ _
 unfold instanceDict
 refine wpAny_bind (wpAny_loadPart hx (wpAny_bind ((looks_clsIn X hc).here ?_)))
 rw[ho.2]
 refine wpAny_bind (wpAny_alloc ?_)
 have hx':(s.heap.push {cls:=.type "dict",data:=.dict #[]}).get? x=some (bK C t):=Heap.get?_push_of_some _ hx
 have ne:x≠s.heap.objs.size:=Nat.ne_of_lt (Heap.lt_size hx)
 refine wpAny_bind (wpAny_update hx' (wpAny_pure ?_))
 refine h _ (fun b o q e=>?_) ?_ ?_
 ·rw[Heap.get?_update_other _ _ (Ne.symm q)];exact Heap.get?_push_of_some _ e
 ·rw[Heap.get?_update_self _ hx' rfl]
 ·rw[Heap.get?_update_other _ _ ne];exact Heap.get?_push_size _ rfl
theorem wO{h:Heap}{t:Addr}(hx:h.get? x=some (bK C t)):InstAt h x (bK C t) C none:=⟨hx,rfl,rfl,trivial⟩
theorem xl{h:Heap}{t d:Addr}{o:Obj}(hx:h.get? x=some (dT C t d))(hd:h.get? d=some o):InstAt h x (dT C t d) C (some o):=⟨hx,rfl,rfl,hd⟩
theorem yI{Q:Unit→Shared→Prop}{t:Addr}{name:Str}{v:Value}(X:K.In s.heap)(hp:fj K C=true)(hs:findIn K (.ref C) "__setattr__"=some (some (.builtin "object.__setattr__")))(ht:findIn K (.ref C) name=some none)(hx:s.heap.get? x=some (bK C t))
  (h:∀h' d es n tk,(∀b o,b≠x→s.heap.get? b=some o→h'.get? b=some o)→h'.get? x=some (dT C t d)→h'.get? d=some (dictOf es n)→es.toArray.any (·.refKey)=false→es.length=1→d≠x→s.heap.get? d=none→Q () {s with heap:=h',toks:=tk}) :
  wpAny (model prog w) A (setAttr (.ref x) name v) Q E s:=by
 refine set_plain X (wO hx) hs ?_
 refine n9 (s:={s with toks:=s.toks+1}) X (wO hx) hp ht ?_
 refine wpAny_bind (wpAny_pure (wpAny_bind (pA (s:={s with toks:=s.toks+1}) X hp hx fun h₁ k1 k2 k3=>?_)))
 have ne:s.heap.objs.size≠x:=Ne.symm (Nat.ne_of_lt (Heap.lt_size hx))
 refine Eo (s:={s with heap:=h₁,toks:=s.toks+1}) (es:=[]) (n:=0) k3 (by simp) (by simp[putL]) fun h₂ hs₂ hd₂=>?_
 show Q () _
 refine h h₂ s.heap.objs.size _ _ _ (fun b o q e=>?_) ?_ hd₂ (by simp[putL,DictEntry.refKey]) (by simp[putL]) ne fQ
 ·exact(hs₂.2 b fun z=>by rw[z]at e;exact absurd (Heap.lt_size e) (Nat.lt_irrefl _)).trans (k1 b o q e)
 ·exact(hs₂.2 x (Ne.symm ne)).trans k2
theorem xn(name:Str)(hsh:Int)(key v:Value):∀es:List DictEntry,(putL name hsh key v es).length≤es.length+1
  |[]=>by simp[putL]
  | e::r=>by
    unfold putL
    split
    · simp
    · simp[xn name hsh key v r]
theorem CV{Q:Unit→Shared→Prop}{t d:Addr}{name:Str}{v:Value}{es:List DictEntry}{n:Nat}(X:K.In s.heap)(hp:fj K C=true)(hs:findIn K (.ref C) "__setattr__"=some (some (.builtin "object.__setattr__")))(ht:findIn K (.ref C) name=some none)(hx:s.heap.get? x=some (dT C t d))
  (hd:s.heap.get? d=some (dictOf es n)) (hr:es.toArray.any (·.refKey)=false) (hl:es.length≤100) (ne:d≠x)
  (h:∀h' tk,(∀b o,b≠d→s.heap.get? b=some o→h'.get? b=some o)→h'.get? x=some (dT C t d)→Q () {s with heap:=h',toks:=tk}) :
  wpAny (model prog w) A (setAttr (.ref x) name v) Q E s:=by
 refine set_plain X (xl hx hd) hs ?_
 refine n9 (s:={s with toks:=s.toks+1}) X (xl hx hd) hp ht ?_
 refine wpAny_bind (wpAny_pure (wpAny_bind (qF (s:={s with toks:=s.toks+1}) X hp hx ?_)))
 refine Eo (s:={s with toks:=s.toks+1}) hd hr ?_ fun h₂ hs₂ hd₂=>?_
 ·have:=xn name (PyData.keyHash w.params name) (.str name (s.toks+1)) v es
  exact Nat.le_trans this (by lia)
 ·show Q () _
  exact h h₂ _ (fun b o q e=>(hs₂.2 b q).trans e) ((hs₂.2 x (Ne.symm ne)).trans hx)
end
end
section
open PySem PySem.Builtin PySem.Builtin.ObjectAttr PySem.W PySem.Calls PyProof.Rows
noncomputable abbrev nX:String:="Exception.__new__"
noncomputable abbrev iX:String:="Exception.__init__"
section
variable {M:Model}{A:Around}{E:Value→Shared→Prop}{h:Heap}{g:Array GenState}{d:Drawn}{t:Nat}{os:OsState}
variable {nm q:Str}{C N:Addr}{bs:List Value}{as:List Addr}{hdct:Bool}{sn:List Str}{sub:List Value}{ab:Bool}{col:Option Bool}{dd:Option Addr}{k0 k1 k2 k3 k5:Option Value}
noncomputable abbrev EW(nm q:Str)(C N:Addr)(bs:List Value)(as:List Addr)(hdct:Bool)(sn:List Str)(sub:List Value)(ab:Bool)(col:Option Bool)(dd:Option Addr)(k0 k1 k2 k3 k5:Option Value):Obj:=excClassObj nm q C N bs (as.map Value.ref++iz) hdct sn sub ab col dd k0 k1 k2 k3 k5 nX
theorem nq{l:List Value}{T:String}(h:l.contains (.type T)=true):(Value.ref C::l).contains (.type T)=true:=by rw[List.contains_cons,h,Bool.or_true]
theorem mS{l:List Value}{T:String}(h:l.contains (.type T)=false):(Value.ref C::l).contains (.type T)=false:=by rw[List.contains_cons,h];rfl
theorem uI{rest:List Value}{Q:Unit→Shared→Prop}(hC:h.get? C=some (EW nm q C N bs as hdct sn sub ab col dd k0 k1 k2 k3 k5))(hq:Q () ⟨h,g,d,t,os⟩):wpAny M A (checkBuiltinCall nX ⟨.ref C::rest,[]⟩) Q E ⟨h,g,d,t,os⟩:=by
 have F:=PySem.F.excBase_Exception
 have hcont:(Value.ref C::(as.map Value.ref++iz)).contains (.type "Exception")=true:=nq (gD as (by decide))
 have hstar:=F.noStar
 simp only [checkBuiltinCall,F.newKind,F.newSplit,F.newRow]
 repeat (first|refine wpAny_loadPart_at hC ?_|(refine wpAny_isSubtype_exc hC ?_;rw[hcont])|refine wpAny_staticBase_exc hC ?_|refine wpAny_madeBy_exc hC ?_|simp only [bne_self_eq_false,Bool.false_eq_true,if_false]|wp_step)
 exact hq
end
section
variable {prog:Program}{w:World}{A:Around}{R:Result→Shared→Prop}{h:Heap}{g:Array GenState}{d:Drawn}{t:Nat}{os:OsState}
variable {nm q:Str}{C N:Addr}{bs:List Value}{as:List Addr}{hdct:Bool}{sn:List Str}{sub:List Value}{ab:Bool}{col:Option Bool}{dd:Option Addr}{k0 k1 k2 k3 k5:Option Value}
theorem QB{rest:List Value}(hC:h.get? C=some (EW nm q C N bs as hdct sn sub ab col dd k0 k1 k2 k3 k5))
  (hq:R (.ok (.ret (.ref (h.objs.size+1)))) ⟨(h.push {cls:=.type "tuple",data:=.seq rest.toArray}).push (bK C h.objs.size),g,d,t,os⟩) (hrest:rest.length≤sizeLine) :
  codeAny (model prog w) A (.builtin nX ⟨.ref C::rest,[]⟩) R ⟨h,g,d,t,os⟩:=by
 have F:=PySem.F.excBase_Exception
 have hends:=F.ends
 have hcB:(Value.ref C::(as.map Value.ref++iz)).contains (.type "Exception")=true:=nq (gD as (by decide))
 have hcA:(Value.ref C::(as.map Value.ref++iz)).contains (.type "AttributeError")=false:=mS (nt as (by decide))
 have hcN:(Value.ref C::(as.map Value.ref++iz)).contains (.type "NameError")=false:=mS (nt as (by decide))
 refine codeAny_builtinAt F.entry ?_
 unfold Builtin.«BaseException.__new__»
 refine PySem.wpAt_bind ?_
 show PySem.wpAt _ _ _ (stack >>= _) _ _ _
 refine PySem.wpAt_bind (PySem.wpAt_stack fun p below=>PySem.wpAt_of_wpAny ?_)
 wp_walk
 refine PySem.wpAt_of_wpAny ?_
 rw[F.owner]
 repeat (first|with_reducible refine wpAny_madeHere_exc F.canon hC ?_|with_reducible refine wpAny_loadPart_at hC ?_|(with_reducible refine wpAny_isSubtype_exc hC ?_;first|rw[hcB]|rw[hcA]|rw[hcN])|wp_step)
 show R _ _
 rw[Heap.size_push]
 exact hq
end
section
variable {prog:Program}{w:World}{A:Around}{E:Value→Shared→Prop}{h:Heap}{g:Array GenState}{d:Drawn}{t:Nat}{os:OsState}{K:Frag}{f:Addr}
variable {nm q:Str}{C N:Addr}{bs:List Value}{as:List Addr}{hdct:Bool}{sn:List Str}{sub:List Value}{ab:Bool}{col:Option Bool}{dd:Option Addr}{k0 k1 k2 k3 k5:Option Value}
theorem zo{rest:List Value}{Q:Fin→Shared→Prop}(X:K.In h)(hC:h.get? C=some (EW nm q C N bs as hdct sn sub ab col dd k0 k1 k2 k3 k5))(hi:findIn K (.ref C) "__init__"=some (some (.ref f)))(hf:typeIn K (.ref f)=some (.type "function"))
  (hq:wpAny (model prog w) A (call (.ref f) (.ref (h.objs.size+1)::rest)) (fun r s'=>r=.none∧Q (.done (.ret (.ref (h.objs.size+1)))) s') E ⟨(h.push {cls:=.type "tuple",data:=.seq rest.toArray}).push (bK C h.objs.size),g,d,t,os⟩) (hrest:rest.length≤sizeLine) :
  wpAny (model prog w) A (Builtin.«type.__call__» ⟨.ref C::rest,[]⟩) Q E ⟨h,g,d,t,os⟩:=by
 have F:=PySem.F.excBase_Exception
 repeat (first|with_reducible refine wpAny_loadPart_at hC ?_|with_reducible refine wpAny_madeBy_exc hC ?_|wp_step)
 refine codeAny_call_builtin_code (Code.quiet_builtin _ F.quiet) (uI hC ?_)
 refine QB hC ?_ hrest
 show wpAny _ _ _ _ _ _
 have up:∀b o,h.get? b=some o→((h.push {cls:=.type "tuple",data:=.seq rest.toArray}).push (bK C h.objs.size)).get? b=some o:=fun b o e=>Heap.get?_push_of_some _ (Heap.get?_push_of_some _ e)
 have hC₁:=up _ _ hC
 have X₁:K.In ((h.push {cls:=.type "tuple",data:=.seq rest.toArray}).push (bK C h.objs.size)):=X.keeps up
 have hget:((h.push {cls:=.type "tuple",data:=.seq rest.toArray}).push (bK C h.objs.size)).get? (h.objs.size+1)=some (bK C h.objs.size):=by
  have:=@Heap.get?_push_size (h.push {cls:=.type "tuple",data:=.seq rest.toArray}) (bK C h.objs.size) rfl
  rwa [Heap.size_push]at this
 have hcC:(Value.ref C::(as.map Value.ref++iz)).contains (.ref C)=true:=by simp
 unfold isInstance
 repeat (first|with_reducible refine wpAny_loadPart_at hget ?_|(with_reducible refine wpAny_isSubtype_exc hC₁ ?_;rw[hcC])|wp_step)
 show wpAny _ _ (typeLookup (.ref C) _) _ _ _
 refine(looks_findIn (M:=model prog w) X₁ hi).here ?_
 dsimp only
 refine wpAny_holding (wpAny_bind ((bind_fn (M:=model prog w) X₁ (.ref (h.objs.size+1)) hf).here ?_))
 dsimp only
 refine wpAny_bind (wpAny_mono hq (fun r s' z=>?_) fun _ _ z=>z)
 obtain⟨rfl,z⟩:=z
 first|exact wpAny_pure (wpAny_pure z)|exact wpAny_pure (wpAny_pure (wpAny_pure z))|exact wpAny_pure z|(wp_walk;exact z)
end
end
section
open PySem PySem.Builtin PySem.Builtin.ObjectAttr PySem.W PySem.Calls PyProof.Rows
section
variable {prog:Program}{w:World}{A:Around}{E:Value→Shared→Prop}{h:Heap}{g:Array GenState}{d:Drawn}{t:Nat}{os:OsState}
variable {nm q:Str}{C N e t0:Addr}{bs:List Value}{as:List Addr}{hdct:Bool}{sn:List Str}{sub:List Value}{ab:Bool}{col:Option Bool}{dd:Option Addr}{k0 k1 k2 k3 k5:Option Value}
theorem sH{M:Model}{rest:List Value}{Q:Unit→Shared→Prop}(hC:h.get? C=some (EW nm q C N bs as hdct sn sub ab col dd k0 k1 k2 k3 k5))(he:h.get? e=some (bK C t0))(hq:Q () ⟨h,g,d,t,os⟩) :
  wpAny M A (checkBuiltinCall iX ⟨.ref e::rest,[]⟩) Q E ⟨h,g,d,t,os⟩:=by
 have F:=PySem.F.excBase_Exception
 have hcB:(Value.ref C::(as.map Value.ref++iz)).contains (.type "Exception")=true:=nq (gD as (by decide))
 have hshort:=F.noStar
 simp only [checkBuiltinCall,F.initKind,F.initSplit,F.initRow]
 repeat (first|with_reducible refine wpAny_loadPart_at he ?_|with_reducible refine wpAny_loadPart_at hC ?_|(with_reducible refine wpAny_isSubtype_exc hC ?_;rw[hcB])|wp_step)
 refine wpAny_onRaise ?_
 rw[show ∀(a b:String) (n:Nat),Bind.check ⟨.positional,"*","Exception",.self,[⟨"args",.varPos,false⟩]⟩ a b n (List.map (fun x=>x.fst) ({pos:=Value.ref e::rest}:Args).kw)=pure ()from
  fun a b n=>check_star_args _ _ _ _ _ _]
 exact wpAny_pure hq
theorem Oq{rest:List Value}{Q:Value→Shared→Prop}(hC:h.get? C=some (EW nm q C N bs as hdct sn sub ab col dd k0 k1 k2 k3 k5))(he:h.get? e=some (bK C t0))(hrest:rest.length≤sizeLine)
  (hq:∀h',(∀b o,b≠e→h.get? b=some o→h'.get? b=some o)→h'.get? e=some (bK C h.objs.size)→Q .none ⟨h',g,d,t,os⟩):wpAny (model prog w) A (call (.builtin iX) (.ref e::rest)) Q E ⟨h,g,d,t,os⟩:=by
 have F:=PySem.F.excBase_Exception
 refine wpAny_call (codeAny_call_builtin F.init.plain F.initEntry (sH hC he ?_))
 wp_walk
 refine hq _ (fun b o q x=>?_) ?_
 ·rw[Heap.get?_update_other _ _ (Ne.symm q)]
  exact Heap.get?_push_of_some _ x
 ·rw[Heap.get?_update_self _ (Heap.get?_push_of_some _ he) rfl]
  rfl
end
end
section
open PySem PySem.Builtin PySem.Builtin.ObjectAttr PySem.W PySem.Calls PyProof.Rows
theorem Ms:findCls [] (.type "Exception") (.type "type") "__init__"=some (.val (.builtin iX)):=by rfl
noncomputable abbrev sS:Str:="self"
noncomputable abbrev sW:Str:="what"
noncomputable abbrev sA:Str:="at"
noncomputable abbrev sk(p1 p2 p3 p4 p5 p6 p7 p8 p9 p10 p11 p12 p13 p14:Pos):List Stmt:=
  [.Expr (.Call (.Attribute (.Name "Exception" p1) "__init__" p2) [.Name sS p3,.Name sW p4] [] p5) p6,
   .Assign [.Attribute (.Name sS p7) sW p8] (.Name sW p9) p10,
   .Assign [.Attribute (.Name sS p11) sA p12] (.Name sA p13) p14]
section
variable {prog:Program}{w:World}{A:Around}{EE:Value→Shared→Prop}{s:Shared}{base:Heap}{K:Frag}
variable {nm q:Str}{C N e t0:Addr}{bs:List Value}{as:List Addr}{hdct:Bool}{sn:List Str}{sub:List Value}{ab:Bool}{col:Option Bool}{dd:Option Addr}{k0 k1 k2 k3 k5:Option Value}
theorem MG{env:Env}{L:Addr}{m mg mb:bG}{v1 v2:Value}{p1 p2 p3 p4 p5 p6 p7 p8 p9 p10 p11 p12 p13 p14:Pos}{Q:Flow→Shared→Prop}
  (X₀:K.In base) (hk:∀b o,base.get? b=some o→s.heap.get? b=some o) (hg:base.Ns mainGlobals mg) (hg0:mg "Exception"=none) (hb:base.Ns builtinsNs mb) (hb0:mb "Exception"=some (.type "Exception"))
  (hC:base.get? C=some (EW nm q C N bs as hdct sn sub ab col dd k0 k1 k2 k3 k5)) (hp:fj K C=true) (hs:findIn K (.ref C) "__setattr__"=some (some (.builtin "object.__setattr__"))) (hw:findIn K (.ref C) sW=some none) (ha:findIn K (.ref C) sA=some none)
  (be:base.get? e=none) (he:s.heap.get? e=some (bK C t0)) (hN:s.heap.Ns L m) (eL:L≠e) (bL:base.get? L=none)
  (ek:env.scope.kind=.function) (el:env.locals=L) (eg:env.globals=mainGlobals) (eb:env.builtins=builtinsNs)
  (k1':env.kindOf sS=some .local) (k2':env.kindOf sW=some .local) (k3':env.kindOf sA=some .local) (k4':env.kindOf "Exception"=some .globalImplicit)
  (m1:m sS=some (.ref e)) (m2:m sW=some v1) (m3:m sA=some v2)
  (hm:qB (.Name "Exception" p1) [.Name sS p3,.Name sW p4] p2 p5=true)
  (h:∀h' t d tk,(∀b o,b≠e→s.heap.get? b=some o→h'.get? b=some o)→h'.get? e=some (dT C t d)→Q .next {s with heap:=h',toks:=tk}) :
  wpAny (model prog w) A (execs (sk p1 p2 p3 p4 p5 p6 p7 p8 p9 p10 p11 p12 p13 p14) env) Q EE s:=by
 subst el
 (with_reducible refine wpAny_execs_cons ?_)
 (with_reducible refine wpAny_Expr ?_ ?_ ?_)
 ·refine iN hm rfl fun pl=>?_
  have hgs:=hg.keeps hk
  have hbs:=hb.keeps hk
  (with_reducible refine Name_function_global ek k4' ?_ (by decide))
  refine loadGlobal_builtin (by rw[eg];exact hgs) hg0 (by rw[eb];exact hbs) hb0 ?_
  refine method_type (K:=[]) (dK hN) (fun _ _ e=>by cases e) ?_ ?_ Ms rfl ?_
  ·rfl
  ·decide +kernel
  refine callWith_of (P:=fun _=>True) rfl (fun h _=>fL (K:=[]) (.inr (.inl ⟨_,rfl⟩)) h (fun _ _ e=>by cases e)) ?_
  refine evalArgs_plain ?_
  refine spliced_more (env:=env) (e:=.Name sS p3) (rest:=[.Name sW p4]) ?_
  (with_reducible refine wpAny_Name ?_ (by decide))
  refine wpAny_loadName_local ek k1' hN m1 ?_
  refine spliced_more (env:=env) (e:=.Name sW p4) (rest:=[]) ?_
  (with_reducible refine wpAny_Name ?_ (by decide))
  refine wpAny_loadName_local ek k2' hN m2 ?_
  refine spliced_none ⟨trivial,?_⟩
  obtain⟨hp0,g0,d0,tk0,Sf⟩:=s
  refine Oq (t0:=t0) (rest:=[v1]) (hk _ _ hC) he (by rw[sizeLine_eq];simp) fun h₁ kk ke=>?_
  have k₁:∀b o,base.get? b=some o→h₁.get? b=some o:=fun b o x=>kk b o (fun q=>by rw[q,be]at x;cases x) (hk b o x)
  have N₁:h₁.Ns env.locals m:=let ⟨o,es,ep,x,r⟩:=hN;⟨o,es,ep,kk _ _ eL x,r⟩
  show wpAny _ _ _ _ _ _
  (with_reducible refine wpAny_execs_cons ?_)
  refine plainObj_wpAny_Assign_Attribute ?_ rfl
  (with_reducible refine wpAny_Name ?_ (by decide))
  refine wpAny_loadName_local ek k2' N₁ m2 ?_
  (with_reducible refine wpAny_Name ?_ (by decide))
  refine wpAny_loadName_local ek k1' N₁ m1 ?_
  refine yI (X₀.keeps k₁) hp hs hw ke fun h₂ d es n tk₂ kk₂ ke₂ hd₂ hr₂ hl₂ ne₂ fd₂=>?_
  have k₂:∀b o,base.get? b=some o→h₂.get? b=some o:=fun b o x=>kk₂ b o (fun q=>by rw[q,be]at x;cases x) (k₁ b o x)
  have N₂:h₂.Ns env.locals m:=let ⟨o,es,ep,x,r⟩:=N₁;⟨o,es,ep,kk₂ _ _ eL x,r⟩
  show wpAny _ _ _ _ _ _
  (with_reducible refine wpAny_execs_cons ?_)
  refine plainObj_wpAny_Assign_Attribute ?_ rfl
  (with_reducible refine wpAny_Name ?_ (by decide))
  refine wpAny_loadName_local ek k3' N₂ m3 ?_
  (with_reducible refine wpAny_Name ?_ (by decide))
  refine wpAny_loadName_local ek k1' N₂ m1 ?_
  refine CV (X₀.keeps k₂) hp hs ha ke₂ hd₂ hr₂ (by lia) ne₂ fun h₃ tk₃ kk₃ ke₃=>?_
  show wpAny _ _ _ _ _ _
  (with_reducible refine wpAny_execs_nil ?_)
  refine h h₃ _ d tk₃ (fun b o q x=>?_) ke₃
  have x₁:=kk b o q x
  exact kk₃ b o (fun z=>by rw[z,fd₂]at x₁;cases x₁) (kk₂ b o q x₁)
 ·unfold interactive
  rw[ek];rfl
 ·rfl
end
end
section
open PySem PySem.Builtin PySem.Builtin.ObjectAttr PySem.W PySem.Calls PyProof.Rows
section
variable {prog:Program}{w:World}{base:Heap}{K:Frag}
variable {nm q:Str}{C N f:Addr}{bs:List Value}{as:List Addr}{hdct:Bool}{sn:List Str}{sub:List Value}{ab:Bool}{col:Option Bool}{dd:Option Addr}{k0 k1 k2 k3 k5:Option Value}
structure vp(K:Frag)(C f:Addr)(i:af):Prop where
 over:fj K C=true
 set:findIn K (.ref C) "__setattr__"=some (some (.builtin "object.__setattr__"))
 what:findIn K (.ref C) sW=some none
 at_:findIn K (.ref C) sA=some none
 init:findIn K (.ref C) "__init__"=some (some (.ref f))
 isFn:typeIn K (.ref f)=some (.type "function")
 fn:yR K f i
 ps:i.ps=[sS,sW,sA]
 ds:i.ds=[.none]
 body:∃p1 p2 p3 p4 p5 p6 p7 p8 p9 p10 p11 p12 p13 p14,i.body=sk p1 p2 p3 p4 p5 p6 p7 p8 p9 p10 p11 p12 p13 p14∧qB (.Name "Exception" p1) [.Name sS p3,.Name sW p4] p2 p5=true
 self:i.sc.names.lookup sS=some .local
 what':i.sc.names.lookup sW=some .local
 at':i.sc.names.lookup sA=some .local
 exc:i.sc.names.lookup ("Exception":Str)=some .globalImplicit
theorem F2{i:af}{mg mb:bG}{A:Around}{l:List Env}{x:Str}{t:Tok}{e t0:Addr}{s:Shared}{Q:Value→Shared→Prop}{EE:Value→Shared→Prop}
  (J:vp K C f i) (X₀:K.In base) (nl:base.NoLimit) (hg:base.Ns mainGlobals mg) (hg0:mg "Exception"=none) (hb:base.Ns builtinsNs mb) (hb0:mb "Exception"=some (.type "Exception"))
  (hC:base.get? C=some (EW nm q C N bs as hdct sn sub ab col dd k0 k1 k2 k3 k5)) (hk:∀b o,base.get? b=some o→s.heap.get? b=some o) (hfr:A.frames=some l) (hh:A.handled=none) (hd:A.depth < recursionLimit) (hx:PyData.strOk x=true)
  (be:base.get? e=none) (he:s.heap.get? e=some (bK C t0))
  (h:∀h' t d tk,(∀b o,b≠e→s.heap.get? b=some o→h'.get? b=some o)→h'.get? e=some (dT C t d)→Q .none {s with heap:=h',toks:=tk}):wpAny (model prog w) A (call (.ref f) [.ref e,.str x t]) Q EE s:=by
 have Fo:=J.fn
 refine cps fun G0 kk=>?_
 refine Mj Fo.obj fun Z hK hcd hbind _=>?_
 refine kk ?_
 have Xh:=X₀.keeps hk
 have hb':iQ i.ps [.glob e,.str false x] i.ds=some [(sS,.glob e),(sW,.str false x),(sA,.none)]:=by rw[J.ps,J.ds];rfl
 refine aq (hbind s [.glob e,.str false x] [.ref e,.str x t] _ (pm w fun _=>.none) (fun _ _=>False) [] Xh hb' (.cons .glob (.cons (.str hx) .nil))) fun bs' hbs hfb=>?_
 have hbn:bs'.map (·.1)=i.ps:=by rw[←hfb.names];exact kR _ hb'
 have hloc:∀x∈bs',x.1∈i.ps:=fun x hx=>by rw[←hbn];exact List.mem_map.mpr ⟨x,hx,rfl⟩
 refine wpAny_call ?_
 refine codeAny_call_function hd (Xh _ _ hK) rfl Fo.co Fo.gen rfl (codeRec_of Xh hcd) (hbs _ _ _ _ ?_)
 refine wpAny_newFunctionEnv_cells Fo.kind (fun x hx=>?_) fun env' he' s' y=>?_
 ·exact(Fo.locs x.1 (hloc x hx)).1.imp id fun q=>⟨q.1,q.2 _⟩
 subst he'
 refine⟨(nl.keeps hk).keeps y.toInCall.keep,codeAny_func ?_⟩
 refine aW y.done fun h₁ tk rq2 _=>?_;subst rq2
 have hk₁:=y.toInCall.keep
 obtain⟨p1,p2,p3,p4,p5,p6,p7,p8,p9,p10,p11,p12,p13,p14,hbody,hm⟩:=J.body
 have look:∀{z:Str} {v:V},([(sS,.glob e),(sW,.str false x),(sA,.none)]:List (Str×V)).lookup z=some v→i.sc.names.lookup z=some .local→∃r,bindL (envX Z.qual i.sc s.heap.objs.size f Z.cdv (cellsFrom (s.heap.objs.size+1) i.sc.names [])).kindOf bs' (fun _=>none) z=some r∧ag (pm w fun _=>.none) (fun _ _=>False) [] v r:=by
  intro z v hz hl
  refine aq (hfb.look hz) fun r h1 h2=>?_
  exact⟨r,rF (by rw[hbn];exact Fo.nodup) (bD h1) hl,h2⟩
 refine aq (look (z:=sS) rfl J.self) fun r1 e1 g1=>?_
 refine aq (look (z:=sW) rfl J.what') fun r2 e2 g2=>?_
 refine aq (look (z:=sA) rfl J.at') fun r3 e3 g3=>?_
 cases g1
 have eL:s.heap.objs.size≠e:=fun q=>by rw[←q]at he;exact absurd (Heap.lt_size he) (Nat.lt_irrefl _)
 show wpAny _ _ (execs i.body _) _ _ _
 rw[hbody]
 refine MG (s:={s with heap:=h₁,toks:=tk}) X₀ (fun b o z=>hk₁ _ _ (hk b o z)) hg hg0 hb hb0 hC J.over J.set J.what J.at_ be (hk₁ _ _ he) y.toInCall.ns eL (jb hk (Nat.le_refl _)) Fo.kind rfl rfl rfl J.self J.what' J.at' J.exc e1 e2 e3 hm fun h' t' d tk' kk ke=>?_
 exact h h' t' d tk' (fun b o z w=>kk b o z (hk₁ _ _ w)) ke
theorem Hu{i:af}{mg mb:bG}(J:vp K C f i)(X₀:K.In base)(nl:base.NoLimit)(hg:base.Ns mainGlobals mg)(hg0:mg "Exception"=none)(hb:base.Ns builtinsNs mb)(hb0:mb "Exception"=some (.type "Exception"))
  (hC:base.get? C=some (EW nm q C N bs as hdct sn sub ab col dd k0 k1 k2 k3 k5)) (keep:keepIn K (.ref C)=true):Dy prog w base K C where
 cls:=⟨⟨nm,q,N,bs,_,hdct,sn,sub,ab,col,dd,k0,k1,k2,k3,k5,_⟩,hC,gD as (by decide)⟩
 keep:=keep
 make:=by
  intro A l x t s Q EE hk hfr hh hd hu hx hq
  obtain⟨h,g,d,tk,os⟩:=s
  have hC':=hk _ _ hC
  have f1:=tc_lookup
  have f2:=tc_bind (.ref C)
  have hT:(⟨h,g,d,tk,os⟩:Shared).TypeIs (.ref C) "type":=⟨_,hC',rfl⟩
  refine wpAny_call (codeAny_of_tree ?_)
  show wpAny _ _ (callAny (.ref C) _) _ _ _
  repeat (any_goals (first|assumption|with_reducible refine wpAny_loadPart_at hC' ?_|wp_step))
  refine⟨rfl,?_⟩
  have up:∀b o,h.get? b=some o→((h.push {cls:=.type "tuple",data:=.seq [Value.str x t].toArray}).push (bK C h.objs.size)).get? b=some o:=fun b o e=>Heap.get?_push_of_some _ (Heap.get?_push_of_some _ e)
  have fe:h.get? (h.objs.size+1)=none:=Heap.get?_none_of_le (Nat.le_succ _)
  refine codeAny_call_builtin_at (Code.quiet_builtin _ (by decide +kernel)) entry_typeCall (wpAny_check_type_call_sub hC' (zo (X₀.keeps hk) hC' J.init J.isFn ?_ (by rw[sizeLine_eq];simp)))
  have hget:((h.push {cls:=.type "tuple",data:=.seq [Value.str x t].toArray}).push (bK C h.objs.size)).get? (h.objs.size+1)=some (bK C h.objs.size):=by
   have:=@Heap.get?_push_size (h.push {cls:=.type "tuple",data:=.seq [Value.str x t].toArray}) (bK C h.objs.size) rfl
   rwa [Heap.size_push]at this
  refine F2 (l:=l) J X₀ nl hg hg0 hb hb0 hC (fun b o z=>up _ _ (hk _ _ z)) ?_ ?_ ?_ hx (eV hk fe) hget fun h' t' d' tk' kk ke=>?_
  ·first|exact hfr|exact(jL _).trans hfr
  ·exact hh
  ·show A.depth+Code.weight (Code.builtin "type.__call__" ⟨[.ref C,.str x t],[]⟩) < _
   have w1:(Code.builtin "type.__call__" ⟨[.ref C,.str x t],[]⟩).weight=1:=by kernel_rfl
   rw[w1];lia
  ·refine⟨rfl,?_⟩
   have:=hq (h.objs.size+1) t' d' h' tk' ke fe fun b o z=>kk b o (fun z'=>by rw[z',fe]at z;cases z) (up _ _ z)
   exact this
end
end
inductive mG(α:Type) where
 |leaf
 |one (k:Nat) (v:α)
 |node (k:Nat) (l r:mG α)
noncomputable def RH(x:Str)(y:List Nat)(v:V):Option V:=match fX x.cps.toList y with
 |true=>some v
 |false=>none
noncomputable def mG.get{α:Type}(t:mG α):Nat→Option α:=@mG.rec α (fun _=>Nat→Option α) (fun _=>none) (fun k v a=>match Nat.beq a k with
 |true=>some v
 |false=>none) (fun k _ _ gl gr a=>match Nat.blt a k with
 |true=>gl a
 |false=>gr a) t
noncomputable def mG.getG(x:Str)(t:mG (List Nat×V)):Nat→Option V:=@mG.rec (List Nat×V) (fun _=>Nat→Option V) (fun _=>none) (fun _ p _=>RH x p.1 p.2) (fun k _ _ gl gr a=>match Nat.blt a k with
 |true=>gl a
 |false=>gr a) t
noncomputable def mG.list{α:Type}(t:mG α):List (Nat×α):=@mG.rec α (fun _=>List (Nat×α)) [] (fun k v=>[(k,v)]) (fun _ _ _ a b=>a++b) t
set_option tactic.hygienic true in
theorem mG.get_mem{α:Type}{t:mG α}{a:Nat}{v:α}(e:t.get a=some v):(a,v)∈t.list:=by
  induction t with
  |leaf=>cases e
  | one k u=>
    show(a,v)∈[(k,u)]
    have e:(match Nat.beq a k with|true=>some u|false=>none)=some v:=e
    cases h:Nat.beq a k with
    |true=>rw[h]at e;cases e;rw[Nat.eq_of_beq_eq_true h];exact .head _
    |false=>rw[h]at e;cases e
  | node k l r ih1 ih2=>
    show(a,v)∈l.list++r.list
    have e:(match Nat.blt a k with|true=>l.get a|false=>r.get a)=some v:=e
    cases h:Nat.blt a k with
    |true=>rw[h]at e;exact List.mem_append_left _ (ih1 e)
    |false=>rw[h]at e;exact List.mem_append_right _ (ih2 e)
theorem mG.getG_mem{x:Str}{t:mG (List Nat×V)}{a:Nat}{v:V}(e:t.getG x a=some v):∃k y,(k,(y,v))∈t.list∧fX x.cps.toList y=true:=by
  induction t with
  |leaf=>cases e
  | one k p=>
    have e:(match fX x.cps.toList p.1 with|true=>some p.2|false=>none)=some v:=e
    cases h:fX x.cps.toList p.1 with
    |true=>rw[h]at e;cases e;exact⟨k,p.1,.head _,h⟩
    |false=>rw[h]at e;cases e
  | node k l r ih1 ih2=>
    have e:(match Nat.blt a k with|true=>l.getG x a|false=>r.getG x a)=some v:=e
    cases h:Nat.blt a k with
    |true=>rw[h]at e;exact(ih1 e).elim fun k q=>q.elim fun y q=>⟨k,y,List.mem_append_left _ q.1,q.2⟩
    |false=>rw[h]at e;exact(ih2 e).elim fun k q=>q.elim fun y q=>⟨k,y,List.mem_append_right _ q.1,q.2⟩
noncomputable def aj:List Stmt→Nat→Stmt
  |[],_=>.Pass ⟨0,0,0,0⟩
  | x::r,n=>match n with
    |0=>x
    |n+1=>aj r n
noncomputable def av:Stmt→List Stmt
 |.FunctionDef _ _ b _ _ _ _ _ _ _=>b
 |.ClassDef _ _ _ b _ _ _ _ _ _ _=>b
 |_=>[]
noncomputable def PD:Stmt→Scope
 |.FunctionDef _ _ _ _ _ _ s _ _ _=>s
 |_=>⟨.module,[],false,false,[]⟩
noncomputable def C4:List Arg→List Str
 |[]=>[]
 |a::r=>a.arg::C4 r
noncomputable def KN:Stmt→List Str
 |.FunctionDef _ a _ _ _ _ _ _ _ _=>C4 a.args
 |_=>[]
noncomputable def aX(st:Stmt)(ds:List V):af:=⟨KN st,ds,av st,PD st⟩
noncomputable def Tg:af:=aX (aj pw.main.body 0) []
noncomputable def Qo:af:=aX (aj (av (aj pw.main.body 2)) 0) [.none]
noncomputable def SR:af:=aX (aj (av (aj pw.main.body 2)) 1) []
noncomputable def Tj:af:=aX (aj pw.main.body 6) []
noncomputable def SU:af:=aX (aj pw.main.body 7) []
noncomputable def QF:af:=aX (aj pw.main.body 8) []
noncomputable def PA:af:=aX (aj pw.main.body 9) []
noncomputable def Fm:af:=aX (aj pw.main.body 10) []
noncomputable def FK:af:=aX (aj pw.main.body 19) []
noncomputable def FL:af:=aX (aj pw.main.body 20) []
noncomputable def QI:af:=aX (aj pw.main.body 21) []
noncomputable def Rg:af:=aX (aj pw.main.body 22) []
noncomputable def Gf:af:=aX (aj pw.main.body 23) []
noncomputable def Pc:af:=aX (aj (av (aj pw.main.body 24)) 0) [(.str true (PySem.Str.ofString "")),(.bool true false),(.int true (0)),(.bool true false),(.int true (-1))]
noncomputable def PV:af:=aX (aj (av (aj pw.main.body 24)) 1) []
noncomputable def PS:af:=aX (aj (av (aj pw.main.body 24)) 2) []
noncomputable def R6:af:=aX (aj (av (aj pw.main.body 24)) 3) []
noncomputable def Pp:af:=aX (aj (av (aj pw.main.body 24)) 4) []
noncomputable def Gz:af:=aX (aj (av (aj pw.main.body 24)) 5) []
noncomputable def FC:af:=aX (aj pw.main.body 25) []
noncomputable def Gr:af:=aX (aj pw.main.body 26) []
noncomputable def kY:af:=aX (aj pw.main.body 27) []
noncomputable def PF:af:=aX (aj pw.main.body 32) []
noncomputable def R4:af:=aX (aj pw.main.body 33) []
noncomputable def QJ:af:=aX (aj pw.main.body 34) []
noncomputable def Qr:af:=aX (aj pw.main.body 35) []
noncomputable def R8:af:=aX (aj pw.main.body 36) []
noncomputable def PT:af:=aX (aj pw.main.body 37) []
noncomputable def R3:af:=aX (aj pw.main.body 38) []
noncomputable def Qb:af:=aX (aj (av (aj pw.main.body 39)) 0) [(.int true (0)),(.int true (-1)),(.int true (0)),(.int true (0)),(.bool true false)]
noncomputable def Qu:af:=aX (aj (av (aj pw.main.body 39)) 1) []
noncomputable def Rq:af:=aX (aj (av (aj pw.main.body 39)) 2) []
noncomputable def PC:af:=aX (aj (av (aj pw.main.body 39)) 3) []
noncomputable def QN:af:=aX (aj (av (aj pw.main.body 39)) 4) []
noncomputable def RL:af:=aX (aj (av (aj pw.main.body 39)) 5) []
noncomputable def Ri:af:=aX (aj (av (aj pw.main.body 39)) 6) []
noncomputable def GY:af:=aX (aj pw.main.body 40) []
noncomputable def HE:af:=aX (aj pw.main.body 41) []
noncomputable def RN:af:=aX (aj pw.main.body 44) []
noncomputable def RM:af:=aX (aj pw.main.body 45) []
noncomputable def Qp:af:=aX (aj pw.main.body 46) []
noncomputable def RX:af:=aX (aj pw.main.body 47) []
noncomputable def P8:af:=aX (aj pw.main.body 48) []
noncomputable def P9:af:=aX (aj pw.main.body 49) []
noncomputable def Pn:af:=aX (aj pw.main.body 50) []
noncomputable def RG:af:=aX (aj pw.main.body 51) [(.int true (0))]
noncomputable def QA:af:=aX (aj pw.main.body 52) [(.int true (0))]
noncomputable def PL:af:=aX (aj pw.main.body 53) []
noncomputable def Q0:af:=aX (aj pw.main.body 54) []
noncomputable def Rz:af:=aX (aj pw.main.body 55) []
noncomputable def PX:af:=aX (aj pw.main.body 56) []
noncomputable def P5:af:=aX (aj pw.main.body 57) []
noncomputable def Rm:af:=aX (aj pw.main.body 58) []
noncomputable def Qm:af:=aX (aj pw.main.body 59) []
noncomputable def QE:af:=aX (aj pw.main.body 60) []
noncomputable def Rv:af:=aX (aj (av (aj pw.main.body 62)) 0) []
noncomputable def Pr:af:=aX (aj (av (aj pw.main.body 62)) 1) []
noncomputable def QU:af:=aX (aj (av (aj pw.main.body 62)) 2) []
noncomputable def Pl:af:=aX (aj (av (aj pw.main.body 62)) 3) []
noncomputable def PJ:af:=aX (aj (av (aj pw.main.body 63)) 0) []
noncomputable def Rl:af:=aX (aj (av (aj pw.main.body 63)) 1) []
noncomputable def P4:af:=aX (aj (av (aj pw.main.body 63)) 2) []
noncomputable def RK:af:=aX (aj (av (aj pw.main.body 64)) 0) [(.str true (PySem.Str.ofString ""))]
noncomputable def R5:af:=aX (aj (av (aj pw.main.body 64)) 1) []
noncomputable def Qx:af:=aX (aj (av (aj pw.main.body 64)) 2) []
noncomputable def Q5:af:=aX (aj (av (aj pw.main.body 65)) 0) [(.str true (PySem.Str.ofString ""))]
noncomputable def P6:af:=aX (aj (av (aj pw.main.body 65)) 1) []
noncomputable def Rb:af:=aX (aj (av (aj pw.main.body 65)) 2) []
noncomputable def Ql:af:=aX (aj (av (aj pw.main.body 65)) 3) []
noncomputable def Qz:af:=aX (aj (av (aj pw.main.body 66)) 0) [(.int true (0)),(.str true (PySem.Str.ofString "")),(.str true (PySem.Str.ofString ""))]
noncomputable def RE:af:=aX (aj (av (aj pw.main.body 66)) 1) []
noncomputable def QV:af:=aX (aj (av (aj pw.main.body 66)) 2) []
noncomputable def RP:af:=aX (aj (av (aj pw.main.body 66)) 3) []
noncomputable def Qa:af:=aX (aj (av (aj pw.main.body 66)) 4) []
noncomputable def Qg:af:=aX (aj (av (aj pw.main.body 66)) 5) []
noncomputable def QG:af:=aX (aj (av (aj pw.main.body 67)) 0) [(.str true (PySem.Str.ofString ""))]
noncomputable def QK:af:=aX (aj (av (aj pw.main.body 67)) 1) []
noncomputable def Qs:af:=aX (aj (av (aj pw.main.body 67)) 2) []
noncomputable def Qy:af:=aX (aj (av (aj pw.main.body 67)) 3) []
noncomputable def QH:af:=aX (aj (av (aj pw.main.body 67)) 4) []
noncomputable def RQ:af:=aX (aj (av (aj pw.main.body 67)) 5) []
noncomputable def QW:af:=aX (aj (av (aj pw.main.body 74)) 0) []
noncomputable def Px:af:=aX (aj (av (aj pw.main.body 74)) 1) []
noncomputable def PH:af:=aX (aj (av (aj pw.main.body 74)) 2) []
noncomputable def RS:af:=aX (aj (av (aj pw.main.body 74)) 3) []
noncomputable def Q3:af:=aX (aj (av (aj pw.main.body 74)) 4) []
noncomputable def Rn:af:=aX (aj (av (aj pw.main.body 74)) 5) []
noncomputable def PG:af:=aX (aj pw.main.body 75) []
noncomputable def Ph:af:=aX (aj pw.main.body 76) []
noncomputable def Hs:af:=aX (aj pw.main.body 77) []
noncomputable def EX:af:=aX (aj pw.main.body 78) []
noncomputable def O9:af:=aX (aj pw.main.body 79) []
noncomputable def PO:af:=aX (aj pw.main.body 80) []
noncomputable def Qt:af:=aX (aj pw.main.body 86) []
noncomputable def Fy:af:=aX (aj pw.main.body 87) []
noncomputable def Py:af:=aX (aj pw.main.body 88) []
noncomputable def Gk:af:=aX (aj pw.main.body 89) []
noncomputable def Pa:af:=aX (aj pw.main.body 90) []
noncomputable def Hb:af:=aX (aj pw.main.body 91) []
noncomputable def BL:af:=aX (aj pw.main.body 92) []
noncomputable def Qi:af:=aX (aj (av (aj pw.main.body 99)) 0) []
noncomputable def Ro:af:=aX (aj (av (aj pw.main.body 99)) 1) []
noncomputable def Ra:af:=aX (aj (av (aj pw.main.body 100)) 0) []
noncomputable def Q6:af:=aX (aj (av (aj pw.main.body 100)) 1) []
noncomputable def Rr:af:=aX (aj (av (aj pw.main.body 100)) 2) []
noncomputable def Rx:af:=aX (aj (av (aj pw.main.body 100)) 3) []
noncomputable def PU:af:=aX (aj (av (aj pw.main.body 100)) 4) []
noncomputable def Rh:af:=aX (aj (av (aj pw.main.body 100)) 5) []
noncomputable def P0:af:=aX (aj pw.main.body 101) []
noncomputable def Rf:af:=aX (aj pw.main.body 102) []
noncomputable def GX:af:=aX (aj pw.main.body 103) []
noncomputable def RA:af:=aX (aj pw.main.body 104) []
noncomputable def rT:af:=aX (aj pw.main.body 105) []
noncomputable def LF:af:=aX (aj pw.main.body 106) []
noncomputable def M3:af:=aX (aj pw.main.body 107) []
noncomputable def LM:af:=aX (aj pw.main.body 108) []
noncomputable def MR:af:=aX (aj pw.main.body 109) []
noncomputable def M7:af:=aX (aj pw.main.body 110) []
noncomputable def MH:af:=aX (aj pw.main.body 111) []
noncomputable def MK:af:=aX (aj pw.main.body 112) []
noncomputable def MM:af:=aX (aj pw.main.body 113) []
noncomputable def Of:af:=aX (aj pw.main.body 114) []
noncomputable def OD:af:=aX (aj pw.main.body 115) []
noncomputable def mU:af:=aX (aj pw.main.body 116) [(.int true (0))]
noncomputable def Mr:af:=aX (aj pw.main.body 118) []
noncomputable def Mx:af:=aX (aj (av (aj pw.main.body 119)) 0) []
noncomputable def OF:af:=aX (aj (av (aj pw.main.body 119)) 1) []
noncomputable def Nz:af:=aX (aj (av (aj pw.main.body 119)) 2) []
noncomputable def OJ:af:=aX (aj (av (aj pw.main.body 119)) 3) []
noncomputable def gq:af:=aX (aj (av (aj pw.main.body 119)) 4) []
noncomputable def Og:af:=aX (aj (av (aj pw.main.body 119)) 5) []
noncomputable def Md:af:=aX (aj (av (aj pw.main.body 119)) 6) []
noncomputable def L6:af:=aX (aj (av (aj pw.main.body 119)) 7) []
noncomputable def MZ:af:=aX (aj (av (aj pw.main.body 119)) 8) []
noncomputable def wq:af:=aX (aj pw.main.body 121) []
noncomputable def wA:af:=aX (aj pw.main.body 122) []
noncomputable def xJ:af:=aX (aj pw.main.body 123) []
noncomputable def IM:af:=aX (aj pw.main.body 124) []
noncomputable def wH:af:=aX (aj pw.main.body 125) []
noncomputable def xY:af:=aX (aj pw.main.body 126) []
noncomputable def w3:af:=aX (aj pw.main.body 127) []
noncomputable def wy:af:=aX (aj pw.main.body 128) []
noncomputable def rC:af:=aX (aj pw.main.body 129) []
noncomputable def xV:af:=aX (aj pw.main.body 130) []
noncomputable def xM:af:=aX (aj pw.main.body 131) []
noncomputable def xB:af:=aX (aj pw.main.body 132) []
noncomputable def wj:af:=aX (aj pw.main.body 133) []
noncomputable def vV:mG (af):=(.node 670 (.node 351 (.node 205 (.node 134 (.node 99 (.node 43 (.node 36 (.one 21 Tg) (.one 36 Qo)) (.node 92 (.one 43 SR) (.one 92 Tj))) (.node 113 (.node 106 (.one 99 SU) (.one 106 QF)) (.node 120 (.one 113 PA) (.node 127 (.one 120 Fm) (.one 127 FK))))) (.node 170 (.node 148 (.node 141 (.one 134 FL) (.one 141 QI)) (.node 155 (.one 148 Rg) (.one 155 Gf))) (.node 184 (.node 177 (.one 170 Pc) (.one 177 PV)) (.node 191 (.one 184 PS) (.node 198 (.one 191 R6) (.one 198 Pp)))))) (.node 275 (.node 240 (.node 226 (.node 219 (.one 205 Gz) (.one 219 FC)) (.node 233 (.one 226 Gr) (.one 233 kY))) (.node 254 (.node 247 (.one 240 PF) (.one 247 R4)) (.node 261 (.one 254 QJ) (.node 268 (.one 261 Qr) (.one 268 R8))))) (.node 309 (.node 295 (.node 282 (.one 275 PT) (.one 282 R3)) (.node 302 (.one 295 Qb) (.one 302 Qu))) (.node 323 (.node 316 (.one 309 Rq) (.one 316 PC)) (.node 330 (.one 323 QN) (.node 337 (.one 330 RL) (.one 337 Ri))))))) (.node 479 (.node 415 (.node 379 (.node 365 (.node 358 (.one 351 GY) (.one 358 HE)) (.node 372 (.one 365 RN) (.one 372 RM))) (.node 393 (.node 386 (.one 379 Qp) (.one 386 RX)) (.node 400 (.one 393 P8) (.node 407 (.one 400 P9) (.one 407 Pn))))) (.node 444 (.node 430 (.node 423 (.one 415 RG) (.one 423 QA)) (.node 437 (.one 430 PL) (.one 437 Q0))) (.node 458 (.node 451 (.one 444 Rz) (.one 451 PX)) (.node 465 (.one 458 P5) (.node 472 (.one 465 Rm) (.one 472 Qm)))))) (.node 576 (.node 514 (.node 500 (.node 493 (.one 479 QE) (.one 493 Rv)) (.node 507 (.one 500 Pr) (.one 507 QU))) (.node 542 (.node 535 (.one 514 Pl) (.one 535 PJ)) (.node 549 (.one 542 Rl) (.node 569 (.one 549 P4) (.one 569 RK))))) (.node 624 (.node 603 (.node 583 (.one 576 R5) (.one 583 Qx)) (.node 610 (.one 603 Q5) (.node 617 (.one 610 P6) (.one 617 Rb)))) (.node 651 (.node 644 (.one 624 Ql) (.one 644 Qz)) (.node 658 (.one 651 RE) (.node 663 (.one 658 QV) (.one 663 RP)))))))) (.node 987 (.node 828 (.node 758 (.node 709 (.node 697 (.node 677 (.one 670 Qa) (.one 677 Qg)) (.node 702 (.one 697 QG) (.one 702 QK))) (.node 723 (.node 716 (.one 709 Qs) (.one 716 Qy)) (.node 730 (.one 723 QH) (.node 751 (.one 730 RQ) (.one 751 QW))))) (.node 786 (.node 772 (.node 765 (.one 758 Px) (.one 765 PH)) (.node 779 (.one 772 RS) (.one 779 Q3))) (.node 807 (.node 800 (.one 786 Rn) (.one 800 PG)) (.node 814 (.one 807 Ph) (.node 821 (.one 814 Hs) (.one 821 EX)))))) (.node 898 (.node 856 (.node 842 (.node 835 (.one 828 O9) (.one 835 PO)) (.node 849 (.one 842 Qt) (.one 849 Fy))) (.node 870 (.node 863 (.one 856 Py) (.one 863 Gk)) (.node 877 (.one 870 Pa) (.node 884 (.one 877 Hb) (.one 884 BL))))) (.node 947 (.node 926 (.node 905 (.one 898 Qi) (.one 905 Ro)) (.node 933 (.one 926 Ra) (.node 940 (.one 933 Q6) (.one 940 Rr)))) (.node 961 (.node 954 (.one 947 Rx) (.one 954 PU)) (.node 975 (.one 961 Rh) (.node 980 (.one 975 P0) (.one 980 Rf))))))) (.node 1113 (.node 1050 (.node 1015 (.node 1001 (.node 994 (.one 987 GX) (.one 994 RA)) (.node 1008 (.one 1001 rT) (.one 1008 LF))) (.node 1029 (.node 1022 (.one 1015 M3) (.one 1022 LM)) (.node 1036 (.one 1029 MR) (.node 1043 (.one 1036 M7) (.one 1043 MH))))) (.node 1075 (.node 1062 (.node 1055 (.one 1050 MK) (.one 1055 MM)) (.node 1067 (.one 1062 Of) (.one 1067 OD))) (.node 1094 (.node 1080 (.one 1075 mU) (.one 1080 Mr)) (.node 1099 (.one 1094 Mx) (.node 1106 (.one 1099 OF) (.one 1106 Nz)))))) (.node 1183 (.node 1141 (.node 1127 (.node 1120 (.one 1113 OJ) (.one 1120 gq)) (.node 1134 (.one 1127 Og) (.one 1134 Md))) (.node 1162 (.node 1148 (.one 1141 L6) (.one 1148 MZ)) (.node 1169 (.one 1162 wq) (.node 1176 (.one 1169 wA) (.one 1176 xJ))))) (.node 1218 (.node 1197 (.node 1190 (.one 1183 IM) (.one 1190 wH)) (.node 1204 (.one 1197 xY) (.node 1211 (.one 1204 w3) (.one 1211 wy)))) (.node 1232 (.node 1225 (.one 1218 rC) (.one 1225 xV)) (.node 1237 (.one 1232 xM) (.node 1244 (.one 1237 xB) (.one 1244 wj)))))))))
noncomputable def FV(a:Addr):Option af:=vV.get a
noncomputable def J5:List Nat→Nat→Nat
 |[],h=>h
 |c::r,h=>J5 r (h*2097152+c+1)
noncomputable def lT:mG (List Nat×V):=(.node 29183283605264840665087744005581412723534796012126323 (.node 3123492626388033541645978128351301 (.node 532163858530414 (.node 365038074331245 (.node 347445842149457 (.node 325455672508526 (.node 150995028 (.one 0 ([70,83],((.int true (100))))) (.one 0 ([71,83],((.int true (101)))))) (.node 343047841775726 (.one 0 ([73,109,109],((.glob 586)))) (.one 0 ([77,101,109],((.glob 680)))))) (.node 365038007222361 (.node 365038007222353 (.one 0 ([78,79,80],((.int true (144))))) (.one 0 ([82,69,80],((.int true (243)))))) (.node 365038074331240 (.one 0 ([82,69,88],((.int true (64))))) (.one 0 ([82,101,103],((.glob 552))))))) (.node 479387275231352 (.node 457397074133107 (.node 431008790872186 (.one 0 ([82,101,108],((.glob 627)))) (.one 0 ([97,110,121],(.blt .any)))) (.node 466193162961013 (.one 0 ([103,112,114],((.glob 814)))) (.one 0 ([105,110,116],(.typ .int))))) (.node 505775571075185 (.node 479387283619951 (.one 0 ([108,97,119],((.glob 1244)))) (.one 0 ([108,101,110],(.blt .len)))) (.node 510173640654963 (.one 0 ([114,105,112],((.glob 835)))) (.one 0 ([115,116,114],(.typ .str))))))) (.node 1106805150198127394929 (.node 710199998681681231948 (.node 654859766460571451461 (.node 540959943164017 (.one 0 ([120,109,109],((.glob 828)))) (.one 0 ([122,105,112],(.typ .zip)))) (.node 654859907198139498606 (.one 0 ([70,79,76,68],((.str true (PySem.Str.ofString "add or adc sbb and sub xor cmp"))))) (.one 0 ([70,111,114,109],((.glob 340)))))) (.node 1005348018210344009845 (.node 968454530062899740777 (.one 0 ([76,79,67,75],((.int true (240))))) (.one 0 ([104,105,103,104],((.glob 821))))) (.node 1014571355062826696812 (.one 0 ([108,105,115,116],(.typ .list))) (.one 0 ([109,97,115,107],((.glob 92))))))) (.node 1856911165733145843708461165 (.node 1508740160749202788608639045 (.node 1373340791770433989554208870 (.one 0 ([119,114,97,112],((.glob 99)))) (.one 0 ([70,114,97,109,101],((.glob 964))))) (.node 1605454134084626365777182790 (.one 0 ([77,79,86,69,68],((.str true (PySem.Str.ofString "movsb movsw movsd movsq stosb stosw stosd stosq lodsb lodsw lodsd lodsq"))))) (.one 0 ([82,69,80,78,69],((.int true (242))))))) (.node 2224424411981865476608229478 (.node 1914939623521475680672940148 (.one 0 ([95,119,97,108,108],((.glob 21)))) (.one 0 ([98,121,116,101,115],(.typ .bytes)))) (.node 2263110222676983143397851238 (.one 0 ([114,97,110,103,101],(.typ .range))) (.node 2839538969308162611003003349499974 (.one 0 ([116,117,112,108,101],(.typ .tuple))) (.one 0 ([69,83,67,65,80,69],((.int true (15))))))))))) (.node 14094076580133572078187388447312980851201933363 (.node 6720579991875928148345810615490492497990 (.node 4583826620764389919901833807003749 (.node 4299873079741360778849879148462201 (.node 4097048712905497374408424778891366 (.one 0 ([76,79,67,75,69,68],((.str true (PySem.Str.ofString "add adc and or sbb sub xor inc dec neg not xchg xadd cmpxchg bts btr btc"))))) (.one 0 ([100,101,99,111,100,101],((.glob 1075))))) (.node 4583826466021940349492306898845797 (.one 0 ([105,115,95,114,101,120],((.glob 141)))) (.one 0 ([112,97,105,114,101,100],((.glob 407)))))) (.node 5869874966999681922028379982447440298085 (.node 4705521078386336835946858873356389 (.one 0 ([112,105,99,107,101,100],((.glob 994)))) (.one 0 ([115,105,103,110,101,100],((.glob 106))))) (.node 6720579423968111075490659927040567803961 (.one 0 ([68,101,99,111,100,101,100],((.glob 908)))) (.one 0 ([78,65,77,69,83,95,56],((.str true (PySem.Str.ofString "al cl dl bl spl bpl sil dil")))))))) (.node 9868193062274675432649900402027840667751 (.node 9187628206738321540852440856824324816999 (.node 6805651922245312662543307250774365438053 (.one 0 ([78,79,95,66,65,83,69],((.int true (5))))) (.one 0 ([79,112,101,114,97,110,100],((.glob 517))))) (.node 9783122186590725708335434077218457780340 (.one 0 ([107,105,110,100,95,111,102],((.glob 386)))) (.one 0 ([114,101,112,101,97,116,115],((.glob 358)))))) (.node 12131612193651161465229638139362471946659823685 (.node 9868193183969191082999264447911734280295 (.one 0 ([115,108,111,116,95,111,102],((.glob 282)))) (.one 0 ([115,111,114,116,95,111,102],((.glob 155))))) (.node 12666830333627752740910729419478342890900422737 (.one 0 ([67,79,77,80,65,82,69,68],((.str true (PySem.Str.ofString "cmpsb cmpsw cmpsd cmpsq scasb scasw scasd scasq"))))) (.node 14094076580133572078187388447312980851197739063 (.one 0 ([70,82,79,77,95,82,73,80],((.int true (5))))) (.one 0 ([78,65,77,69,83,95,49,54],((.str true (PySem.Str.ofString "ax cx dx bx sp bp si di")))))))))) (.node 17840604495746990773009851205906802583829217388 (.node 14807700766768675550817122327822536372853407827 (.node 14094077771122586468295113235597726299126235225 (.node 14094076580133572078187388447312980851208224821 (.one 0 ([78,65,77,69,83,95,51,50],((.str true (PySem.Str.ofString "eax ecx edx ebx esp ebp esi edi"))))) (.one 0 ([78,65,77,69,83,95,54,52],((.str true (PySem.Str.ofString "rax rcx rdx rbx rsp rbp rsi rdi")))))) (.node 14450892671770030386247425681865464108837503092 (.one 0 ([78,79,95,73,78,68,69,88],((.int true (4))))) (.one 0 ([80,114,101,102,105,120,101,115],((.glob 208)))))) (.node 15699730914992794740047366763100726870818160707 (.node 14807703489028908993158434056517264505439256691 (.one 0 ([82,69,71,73,83,84,69,82],((.int true (3))))) (.one 0 ([82,101,103,105,115,116,101,114],((.glob 789))))) (.node 17126981585169992522876015196859335569968201830 (.one 0 ([87,73,84,72,95,83,73,66],((.int true (4))))) (.one 0 ([95,108,97,119,95,100,117,101],((.glob 1176))))))) (.node 18375823061076702959585735333617505949297148017 (.node 18375823061076094487162226137824743277738328181 (.node 17840605686734869348218457237555987940028448871 (.one 0 ([99,97,110,95,108,111,99,107],((.glob 351)))) (.one 0 ([99,111,100,101,115,95,111,102],((.glob 1080))))) (.node 18375823061076702959585735333617501551250636901 (.one 0 ([102,105,101,108,100,95,97,116],((.glob 1036)))) (.one 0 ([102,105,116,115,95,109,111,100],((.glob 980)))))) (.node 19981476204947357444097812664283346698164502645 (.node 18911041796546503355873941382193700900960206949 (.one 0 ([102,105,116,115,95,110,111,112],((.glob 987)))) (.one 0 ([105,115,95,102,105,120,101,100],((.glob 240))))) (.node 20516694259853438119124673803173945584549625972 (.one 0 ([111,99,116,101,116,95,97,116],((.glob 863)))) (.node 21408724408076867706621822074445525971527270521 (.one 0 ([114,101,120,95,98,105,116,115],((.glob 134)))) (.one 0 ([119,105,116,104,95,114,101,120],((.glob 219))))))))))) (.node 171132564194784778763650239854301815166690425558168588721198202996 (.node 84740913087048423993493174440823462166386199832316642066537 (.node 41155904304655665947237836165824490633970997646065767 (.node 35917883685302420159334481022124087659784118974021749 (.node 35917883685302420159334481022124023096153472703135846 (.node 35917883685302420159334481022123940085787548819914861 (.one 0 ([77,105,110,116,69,114,114,111,114],((.glob 46)))) (.one 0 ([95,108,97,119,95,99,101,108,108],((.glob 1162))))) (.node 35917883685302420159334481022124041542862362038501478 (.one 0 ([95,108,97,119,95,108,105,110,101],((.glob 1225)))) (.one 0 ([95,108,97,119,95,110,97,109,101],((.glob 1218)))))) (.node 38536894084183129765101144026366665953414208573931622 (.node 38162750557056311629614267806048943664478420541112422 (.one 0 ([95,108,97,119,95,115,111,114,116],((.glob 1169)))) (.one 0 ([101,110,117,109,101,114,97,116,101],(.typ .enumerate)))) (.node 40407616179966175076243006916438763043944237038043238 (.one 0 ([102,105,116,115,95,115,105,122,101],((.glob 975)))) (.one 0 ([107,105,110,100,95,115,105,122,101],((.glob 268))))))) (.node 78463810977515718419206873647653419647569955709591371120741 (.node 57278581022103324802070971666836250540096607021206889037908 (.node 43026626400440157458398548167130361470140064387301493 (.one 0 ([109,101,109,111,114,121,95,111,102],((.glob 884)))) (.one 0 ([114,101,120,95,111,99,116,101,116],((.glob 127))))) (.node 75325261606399341041988625544509361912855098704737568030821 (.one 0 ([72,73,71,72,95,78,65,77,69,83],((.str true (PySem.Str.ofString "ah ch dh bh"))))) (.one 0 ([95,108,97,119,95,104,101,97,114,100],((.glob 1183)))))) (.node 80817726747297906644439511922207980309272988611913155870836 (.node 80033091649384256805397939289322764846969866877907649953894 (.one 0 ([99,104,101,99,107,95,117,115,101,100],((.glob 1055)))) (.one 0 ([101,118,101,114,121,95,115,105,122,101],((.glob 379))))) (.node 80817726747297906644439511922208135051648772053941302067316 (.one 0 ([102,111,108,100,95,102,111,114,109,115],((.glob 458)))) (.one 0 ([102,111,108,100,95,110,97,109,101,115],((.glob 365)))))))) (.node 113539894488247757550769759907495685774698465820977048850916180083 (.node 90233378602086770200206031950560613823884891077096010416229 (.node 90233375608931773757504254760749853036561668444953144983654 (.node 85525553048835954751738883294777274978141762139448655478900 (.one 0 ([107,105,110,100,95,119,105,100,116,104],((.glob 275)))) (.one 0 ([108,111,97,100,95,102,111,114,109,115],((.glob 423))))) (.node 90233375608931773757504254760749988436225795180504297767022 (.one 0 ([114,101,97,100,95,102,114,97,109,101],((.glob 1067)))) (.one 0 ([114,101,97,100,95,109,111,100,114,109],((.glob 877)))))) (.node 92587292127004227543511611397588236502615004444079203287139 (.node 91802651042781655257132919993967904637844347058509313998964 (.one 0 ([114,109,95,111,112,101,114,97,110,100],((.glob 1015)))) (.one 0 ([116,101,115,116,95,102,111,114,109,115],((.glob 465))))) (.node 94156565690126661079716046717513796177691309542439968047220 (.one 0 ([117,110,112,97,99,107,95,115,105,98],((.glob 856)))) (.one 0 ([119,105,100,101,95,115,105,122,101,115],((.glob 372))))))) (.node 157968523028383590864888530037919384132407868765546627108075208805 (.node 121767424336599226383159003512828659887945321277575687168013107311 (.node 115185406107308415902940588405316137388305919801760503736303616115 (.one 0 ([68,101,99,111,100,101,69,114,114,111,114],((.glob 83)))) (.one 0 ([69,110,99,111,100,101,69,114,114,111,114],((.glob 71))))) (.node 128349418242102853301268913235501498529579597382415298439820607572 (.one 0 ([73,110,115,116,114,117,99,116,105,111,110],((.glob 733)))) (.one 0 ([77,79,83,84,95,79,67,84,69,84,83],((.int true (15))))))) (.node 161259536850855297644027077849922372449881745480718516273136271476 (.node 161259525081287298927664111777876939138048145576537770932402389107 (.one 0 ([95,108,97,119,95,116,117,114,110,101,100],((.glob 1211)))) (.one 0 ([97,99,99,117,109,117,108,97,116,111,114],((.glob 393))))) (.node 167841541741302301414295495582916890976461059167500831985814732916 (.one 0 ([97,114,105,116,104,95,102,111,114,109,115],((.glob 479)))) (.node 169487059637463572720068021532838972709368657432632825945736085606 (.one 0 ([101,97,114,108,121,95,110,97,109,101,115],((.glob 800)))) (.one 0 ([102,114,111,109,95,108,105,116,116,108,101],((.glob 113)))))))))) (.node 407203217111737790211199782859675984950317939151747171744082263954948206 (.node 190878620451914685115644842183396133040422228208536677083884028020 (.node 185942105210671891696177305366530565510081480376228443913420013669 (.node 179360073642551491996969749340159608304863792076353884201301311592 (.node 174423574094058921460053547499996515139114742568136610089128689766 (.one 0 ([103,114,111,117,112,95,102,111,114,109,115],((.glob 430)))) (.one 0 ([105,115,95,114,101,108,97,116,105,118,101],((.glob 254))))) (.node 184296599084075251809493016083519659534797283507698163647881674855 (.one 0 ([108,97,116,101,95,101,110,100,105,110,103],((.glob 807)))) (.one 0 ([111,112,101,114,97,110,100,115,95,111,102],((.glob 1050)))))) (.node 189233104125024732066504534656252064092805620194256831748795007093 (.node 189233104125024732064720474700087085061267470055706972614658359397 (.one 0 ([112,114,101,102,105,120,95,119,111,114,100],((.glob 1062)))) (.one 0 ([114,101,103,95,111,112,101,114,97,110,100],((.glob 1008))))) (.node 190878611036262082035623697705770874182441842042658288256963051636 (.one 0 ([114,101,103,105,115,116,101,114,95,97,116],((.glob 1001)))) (.one 0 ([115,104,111,114,116,95,102,111,114,109,115],((.glob 444))))))) (.node 331284004006020704349482710546082542130214928988741362189741141463662693 (.node 238110357567641928096729891750963022468708568678752242166865671521042547 (.node 197460630050186493847890392068844905976297525772253777424843538554 (.one 0 ([115,116,111,114,101,95,102,111,114,109,115],((.glob 415)))) (.one 0 ([119,105,116,104,95,108,101,103,97,99,121],((.glob 226))))) (.node 276070039813717561883825803869153013793501448258240806415596784420126835 (.one 0 ([68,65,84,65,95,100,101,99,111,100,101,114],((.int true (102))))) (.one 0 ([79,112,101,114,97,110,100,69,114,114,111,114],((.glob 59)))))) (.node 389948847953756189295520024400719748150037823437618328419448006052413541 (.node 365792747258503855254426918901550069170197341011920550879450286086160486 (.one 0 ([95,108,97,119,95,114,101,102,117,115,101,100],((.glob 1232)))) (.one 0 ([105,115,95,105,109,109,101,100,105,97,116,101],((.glob 247))))) (.node 400301462537422870544545837672955498516773847899822470922344805217337460 (.one 0 ([112,108,117,115,95,111,112,101,114,97,110,100],((.glob 1022)))) (.node 403752322546779339954715820769581910763773794982628407259607934150115450 (.one 0 ([115,105,110,103,108,101,95,102,111,114,109,115],((.glob 472)))) (.one 0 ([116,97,107,101,115,95,109,101,109,111,114,121],((.glob 261))))))))) (.node 1457002458003242918174631113024361070577074851681723591753021837328391757248564559989 (.node 745411940257978494070587900881373500307436496201497868393639770020763190427749 (.node 499353612593695404791913285945317745368942088935226723929271592611490218115188 (.node 407203217111737790211199782859675984950317939287146798977378046162501734 (.one 0 ([117,110,112,97,99,107,95,109,111,100,114,109],((.glob 849)))) (.one 0 ([117,110,112,97,99,107,95,116,104,114,101,101],((.glob 842))))) (.node 730937929103305742128485934740515608989151130364446066471855547878366454480999 (.one 0 ([68,65,84,65,95,112,114,101,102,105,120,101,115],((.int true (102))))) (.one 0 ([100,105,115,112,95,119,105,100,116,104,95,111,102],((.glob 870)))))) (.node 839492998959777235699914392938237842418460091308705583686038913812991880200309 (.node 832255993382435100451535537441765744374706263252003160746371181167430177128564 (.one 0 ([102,105,120,101,100,95,111,112,101,114,97,110,100],((.glob 1029)))) (.one 0 ([114,101,97,100,95,112,114,101,102,105,120,101,115],((.glob 233))))) (.node 1123106256626019004487057642045689283689982725889903038353795477933938560188471574645 (.one 0 ([115,101,103,109,101,110,116,95,111,99,116,101,116],((.glob 148)))) (.one 0 ([73,110,115,116,114,117,99,116,105,111,110,83,101,116],((.glob 1151))))))) (.node 3819444049223547610672520711498270388473111621103360571339590788076982515931309158940278886 (.node 3055555618806416892335763987941278206720674071996500091855324555240835325790284043413094517 (.node 3055555618806416892335763987941274283530592878179613819734021162812096892393216112553099381 (.one 0 ([95,108,97,119,95,97,110,121,95,114,105,103,104,116],((.glob 1197)))) (.one 0 ([95,108,97,119,95,109,97,100,101,95,114,105,103,104,116],((.glob 1204))))) (.node 3373842505285867907833529271566508020460632506293075892711158050441929049621409573491441780 (.one 0 ([95,108,97,119,95,114,101,97,100,95,114,105,103,104,116],((.glob 1190)))) (.one 0 ([105,109,109,101,100,105,97,116,101,95,102,111,114,109,115],((.glob 437)))))) (.node 13718443220801720913012262768525962126750119656699967254552405804356281995371069829811867223413168799860 (.node 3819444200994511393801747393577683342737149859958268876697371285276575197969490927197093989 (.one 0 ([119,104,111,108,101,95,105,109,109,101,100,105,97,116,101],((.glob 400)))) (.one 0 ([119,114,105,116,116,101,110,95,111,112,101,114,97,110,100],((.glob 1043))))) (.node 28182526251553596285081903283804476973975418186045246968332576758553289712806689322056791008346943707215298677 (.one 0 ([97,99,99,117,109,117,108,97,116,111,114,95,102,111,114,109,115],((.glob 451)))) (.node 30237501851385913170171706291894844353171171430958135974478725389558122213310365597865053732312363518394368101 (.one 0 ([95,108,97,119,95,100,101,99,111,100,101,100,95,114,105,103,104,116],((.glob 1237)))) (.one 0 ([102,114,111,109,95,108,105,116,116,108,101,95,115,105,103,110,101,100],((.glob 120))))))))))))
noncomputable def Mv(x:Str)(a:Nat):Option V:=lT.getG x a
noncomputable def G0(x:Str):Option V:=Mv x (J5 x.cps.toList 0)
noncomputable def Q4:List (Str×bY):=[((PySem.Str.ofString "at"),.own),((PySem.Str.ofString "what"),.own),((PySem.Str.ofString "__init__"),.fn 36),((PySem.Str.ofString "told"),.fn 43)]
noncomputable def QD:List (Str×bY):=[((PySem.Str.ofString "at"),.own),((PySem.Str.ofString "what"),.own),((PySem.Str.ofString "__init__"),.fn 36),((PySem.Str.ofString "told"),.fn 43)]
noncomputable def Qe:List (Str×bY):=[((PySem.Str.ofString "at"),.own),((PySem.Str.ofString "what"),.own),((PySem.Str.ofString "__init__"),.fn 36),((PySem.Str.ofString "told"),.fn 43)]
noncomputable def RT:List (Str×bY):=[((PySem.Str.ofString "at"),.own),((PySem.Str.ofString "what"),.own),((PySem.Str.ofString "__init__"),.fn 36),((PySem.Str.ofString "told"),.fn 43)]
noncomputable def N6:List (Str×bY):=[((PySem.Str.ofString "is_data"),.own),((PySem.Str.ofString "is_lock"),.own),((PySem.Str.ofString "repeat"),.own),((PySem.Str.ofString "rex"),.own),((PySem.Str.ofString "segment"),.own),((PySem.Str.ofString "__init__"),.fn 170),((PySem.Str.ofString "told"),.fn 177),((PySem.Str.ofString "has_rex"),.fn 184),((PySem.Str.ofString "bits"),.fn 191),((PySem.Str.ofString "count"),.fn 198),((PySem.Str.ofString "octets"),.fn 205)]
noncomputable def Nx:List (Str×bY):=[((PySem.Str.ofString "digit"),.own),((PySem.Str.ofString "escape"),.own),((PySem.Str.ofString "is_wide"),.own),((PySem.Str.ofString "kinds"),.own),((PySem.Str.ofString "must"),.own),((PySem.Str.ofString "name"),.own),((PySem.Str.ofString "number"),.own),((PySem.Str.ofString "opcode"),.own),((PySem.Str.ofString "places"),.own),((PySem.Str.ofString "size"),.own),((PySem.Str.ofString "__init__"),.fn 295),((PySem.Str.ofString "told"),.fn 302),((PySem.Str.ofString "slots"),.fn 309),((PySem.Str.ofString "has_modrm"),.fn 316),((PySem.Str.ofString "has_plus"),.fn 323),((PySem.Str.ofString "memory_size"),.fn 330),((PySem.Str.ofString "needs_memory"),.fn 337)]
noncomputable def N0:List (Str×bY):=[((PySem.Str.ofString "kind"),.own),((PySem.Str.ofString "__init__"),.fn 493),((PySem.Str.ofString "told"),.fn 500),((PySem.Str.ofString "symbol"),.fn 507),((PySem.Str.ofString "registers"),.fn 514)]
noncomputable def OH:List (Str×bY):=[((PySem.Str.ofString "register"),.own),((PySem.Str.ofString "kind"),.own),((PySem.Str.ofString "__init__"),.fn 535),((PySem.Str.ofString "told"),.fn 542),((PySem.Str.ofString "registers"),.fn 549),((PySem.Str.ofString "symbol"),.fn 507)]
noncomputable def Nq:List (Str×bY):=[((PySem.Str.ofString "name"),.own),((PySem.Str.ofString "worth"),.own),((PySem.Str.ofString "kind"),.own),((PySem.Str.ofString "__init__"),.fn 569),((PySem.Str.ofString "told"),.fn 576),((PySem.Str.ofString "symbol"),.fn 583),((PySem.Str.ofString "registers"),.fn 514)]
noncomputable def NV:List (Str×bY):=[((PySem.Str.ofString "name"),.own),((PySem.Str.ofString "worth"),.own),((PySem.Str.ofString "kind"),.own),((PySem.Str.ofString "__init__"),.fn 603),((PySem.Str.ofString "told"),.fn 610),((PySem.Str.ofString "symbol"),.fn 617),((PySem.Str.ofString "target"),.fn 624),((PySem.Str.ofString "registers"),.fn 514)]
noncomputable def NT:List (Str×bY):=[((PySem.Str.ofString "base"),.own),((PySem.Str.ofString "index"),.own),((PySem.Str.ofString "name"),.own),((PySem.Str.ofString "scale"),.own),((PySem.Str.ofString "segment"),.own),((PySem.Str.ofString "size"),.own),((PySem.Str.ofString "worth"),.own),((PySem.Str.ofString "kind"),.own),((PySem.Str.ofString "__init__"),.fn 644),((PySem.Str.ofString "told"),.fn 651),((PySem.Str.ofString "symbol"),.fn 658),((PySem.Str.ofString "registers"),.fn 663),((PySem.Str.ofString "is_rip"),.fn 670),((PySem.Str.ofString "is_absolute"),.fn 677)]
noncomputable def LJ:List (Str×bY):=[((PySem.Str.ofString "name"),.own),((PySem.Str.ofString "operands"),.own),((PySem.Str.ofString "prefix"),.own),((PySem.Str.ofString "__init__"),.fn 697),((PySem.Str.ofString "told"),.fn 702),((PySem.Str.ofString "memory_at"),.fn 709),((PySem.Str.ofString "memory"),.fn 716),((PySem.Str.ofString "symbols"),.fn 723),((PySem.Str.ofString "replaced"),.fn 730)]
noncomputable def Mo:List (Str×bY):=[((PySem.Str.ofString "kind"),.own),((PySem.Str.ofString "name"),.own),((PySem.Str.ofString "number"),.own),((PySem.Str.ofString "size"),.own),((PySem.Str.ofString "__init__"),.fn 751),((PySem.Str.ofString "code"),.fn 758),((PySem.Str.ofString "is_extended"),.fn 765),((PySem.Str.ofString "is_high"),.fn 772),((PySem.Str.ofString "needs_rex"),.fn 779),((PySem.Str.ofString "told"),.fn 786)]
noncomputable def MJ:List (Str×bY):=[((PySem.Str.ofString "form"),.own),((PySem.Str.ofString "instruction"),.own),((PySem.Str.ofString "length"),.own),((PySem.Str.ofString "prefixes"),.own),((PySem.Str.ofString "__init__"),.fn 898),((PySem.Str.ofString "told"),.fn 905)]
noncomputable def NZ:List (Str×bY):=[((PySem.Str.ofString "b"),.own),((PySem.Str.ofString "begin"),.own),((PySem.Str.ofString "code_at"),.own),((PySem.Str.ofString "disp"),.own),((PySem.Str.ofString "escape"),.own),((PySem.Str.ofString "mod"),.own),((PySem.Str.ofString "modrm_at"),.own),((PySem.Str.ofString "must"),.own),((PySem.Str.ofString "opcode"),.own),((PySem.Str.ofString "prefixes"),.own),((PySem.Str.ofString "r"),.own),((PySem.Str.ofString "reg"),.own),((PySem.Str.ofString "rest_at"),.own),((PySem.Str.ofString "rm"),.own),((PySem.Str.ofString "sib"),.own),((PySem.Str.ofString "w"),.own),((PySem.Str.ofString "width"),.own),((PySem.Str.ofString "x"),.own),((PySem.Str.ofString "__init__"),.fn 926),((PySem.Str.ofString "has_rex"),.fn 933),((PySem.Str.ofString "is_narrow"),.fn 940),((PySem.Str.ofString "take_code"),.fn 947),((PySem.Str.ofString "take_must"),.fn 954),((PySem.Str.ofString "take_modrm"),.fn 961)]
noncomputable def vq:List (Str×bY):=[((PySem.Str.ofString "by_code"),.own),((PySem.Str.ofString "by_name"),.own),((PySem.Str.ofString "forms"),.own),((PySem.Str.ofString "__init__"),.fn 1094),((PySem.Str.ofString "told"),.fn 1099),((PySem.Str.ofString "find"),.fn 1106),((PySem.Str.ofString "has"),.fn 1113),((PySem.Str.ofString "at"),.fn 1120),((PySem.Str.ofString "names"),.fn 1127),((PySem.Str.ofString "codes"),.fn 1134),((PySem.Str.ofString "counts"),.fn 1141),((PySem.Str.ofString "memory_sizes"),.fn 1148)]
noncomputable def HN:mG (List (Str×bY)):=(.node 586 (.node 208 (.node 71 (.node 59 (.one 46 Q4) (.one 59 QD)) (.node 83 (.one 71 Qe) (.one 83 RT))) (.node 517 (.node 340 (.one 208 N6) (.one 340 Nx)) (.node 552 (.one 517 N0) (.one 552 OH)))) (.node 789 (.node 680 (.node 627 (.one 586 Nq) (.one 627 NV)) (.node 733 (.one 680 NT) (.one 733 LJ))) (.node 964 (.node 908 (.one 789 Mo) (.one 908 MJ)) (.node 1151 (.one 964 NZ) (.one 1151 vq)))))
noncomputable def SV(a:Addr):Option (List (Str×bY)):=HN.get a
noncomputable def O2(a:Addr):Option (List (Str×bY)):=match Nat.blt a 200 with
 |true=>none
 |false=>SV a
noncomputable def OO(a:Addr)(x:Str):Option bY:=match O2 a with
 |some l=>lk x l
 |none=>none
noncomputable def KY:mG (Addr):=(.node 586 (.node 208 (.node 71 (.node 59 (.one 46 (36)) (.one 59 (36))) (.node 83 (.one 71 (36)) (.one 83 (36)))) (.node 517 (.node 340 (.one 208 (170)) (.one 340 (295))) (.node 552 (.one 517 (493)) (.one 552 (535))))) (.node 789 (.node 680 (.node 627 (.one 586 (569)) (.one 627 (603))) (.node 733 (.one 680 (644)) (.one 733 (697)))) (.node 964 (.node 908 (.one 789 (751)) (.one 908 (898))) (.node 1151 (.one 964 (926)) (.one 1151 (1094))))))
noncomputable def RW(a:Addr):Option Addr:=match Nat.blt a 200 with
 |true=>none
 |false=>KY.get a
noncomputable def RI:mG (List (Str×Addr)):=(.node 586 (.node 208 (.node 71 (.node 59 (.one 46 [((PySem.Str.ofString "__init__"),(36:Addr)),((PySem.Str.ofString "told"),(43:Addr))]) (.one 59 [((PySem.Str.ofString "__init__"),(36:Addr)),((PySem.Str.ofString "told"),(43:Addr))])) (.node 83 (.one 71 [((PySem.Str.ofString "__init__"),(36:Addr)),((PySem.Str.ofString "told"),(43:Addr))]) (.one 83 [((PySem.Str.ofString "__init__"),(36:Addr)),((PySem.Str.ofString "told"),(43:Addr))]))) (.node 517 (.node 340 (.one 208 [((PySem.Str.ofString "__init__"),(170:Addr)),((PySem.Str.ofString "told"),(177:Addr)),((PySem.Str.ofString "has_rex"),(184:Addr)),((PySem.Str.ofString "bits"),(191:Addr)),((PySem.Str.ofString "count"),(198:Addr)),((PySem.Str.ofString "octets"),(205:Addr))]) (.one 340 [((PySem.Str.ofString "__init__"),(295:Addr)),((PySem.Str.ofString "told"),(302:Addr)),((PySem.Str.ofString "slots"),(309:Addr)),((PySem.Str.ofString "has_modrm"),(316:Addr)),((PySem.Str.ofString "has_plus"),(323:Addr)),((PySem.Str.ofString "memory_size"),(330:Addr)),((PySem.Str.ofString "needs_memory"),(337:Addr))])) (.node 552 (.one 517 [((PySem.Str.ofString "__init__"),(493:Addr)),((PySem.Str.ofString "told"),(500:Addr)),((PySem.Str.ofString "symbol"),(507:Addr)),((PySem.Str.ofString "registers"),(514:Addr))]) (.one 552 [((PySem.Str.ofString "__init__"),(535:Addr)),((PySem.Str.ofString "told"),(542:Addr)),((PySem.Str.ofString "registers"),(549:Addr)),((PySem.Str.ofString "symbol"),(507:Addr))])))) (.node 789 (.node 680 (.node 627 (.one 586 [((PySem.Str.ofString "__init__"),(569:Addr)),((PySem.Str.ofString "told"),(576:Addr)),((PySem.Str.ofString "symbol"),(583:Addr)),((PySem.Str.ofString "registers"),(514:Addr))]) (.one 627 [((PySem.Str.ofString "__init__"),(603:Addr)),((PySem.Str.ofString "told"),(610:Addr)),((PySem.Str.ofString "symbol"),(617:Addr)),((PySem.Str.ofString "target"),(624:Addr)),((PySem.Str.ofString "registers"),(514:Addr))])) (.node 733 (.one 680 [((PySem.Str.ofString "__init__"),(644:Addr)),((PySem.Str.ofString "told"),(651:Addr)),((PySem.Str.ofString "symbol"),(658:Addr)),((PySem.Str.ofString "registers"),(663:Addr)),((PySem.Str.ofString "is_rip"),(670:Addr)),((PySem.Str.ofString "is_absolute"),(677:Addr))]) (.one 733 [((PySem.Str.ofString "__init__"),(697:Addr)),((PySem.Str.ofString "told"),(702:Addr)),((PySem.Str.ofString "memory_at"),(709:Addr)),((PySem.Str.ofString "memory"),(716:Addr)),((PySem.Str.ofString "symbols"),(723:Addr)),((PySem.Str.ofString "replaced"),(730:Addr))]))) (.node 964 (.node 908 (.one 789 [((PySem.Str.ofString "__init__"),(751:Addr)),((PySem.Str.ofString "code"),(758:Addr)),((PySem.Str.ofString "is_extended"),(765:Addr)),((PySem.Str.ofString "is_high"),(772:Addr)),((PySem.Str.ofString "needs_rex"),(779:Addr)),((PySem.Str.ofString "told"),(786:Addr))]) (.one 908 [((PySem.Str.ofString "__init__"),(898:Addr)),((PySem.Str.ofString "told"),(905:Addr))])) (.node 1151 (.one 964 [((PySem.Str.ofString "__init__"),(926:Addr)),((PySem.Str.ofString "has_rex"),(933:Addr)),((PySem.Str.ofString "is_narrow"),(940:Addr)),((PySem.Str.ofString "take_code"),(947:Addr)),((PySem.Str.ofString "take_must"),(954:Addr)),((PySem.Str.ofString "take_modrm"),(961:Addr))]) (.one 1151 [((PySem.Str.ofString "__init__"),(1094:Addr)),((PySem.Str.ofString "told"),(1099:Addr)),((PySem.Str.ofString "find"),(1106:Addr)),((PySem.Str.ofString "has"),(1113:Addr)),((PySem.Str.ofString "at"),(1120:Addr)),((PySem.Str.ofString "names"),(1127:Addr)),((PySem.Str.ofString "codes"),(1134:Addr)),((PySem.Str.ofString "counts"),(1141:Addr)),((PySem.Str.ofString "memory_sizes"),(1148:Addr))])))))
noncomputable def O4(a:Addr):Option (List (Str×Addr)):=match Nat.beq a 517 with
 |true=>RI.get a
 |false=>none
noncomputable def PM(a:Addr)(x:Str):Option Addr:=match O4 a with
 |some l=>lk x l
 |none=>none
noncomputable def X0(x:Str):Option Addr:=match aE x (PySem.Str.ofString "DecodeError")with
 |true=>some 83
 |false=>none
noncomputable def gx:ck:=⟨G0,FV,fun _=>none,RW,OO,PM,X0,fun _=>none,fun _ _=>none,fun _=>False⟩
noncomputable def Nf(r:Value):Option V:=match r with
 |.none=>some .none
 |.bool b=>some (.bool true b)
 |.int x _=>some (.int true x)
 |.str x _=>bO (PyData.strOk x) (some (.str true x))
 |.ref a=>some (.glob a)
 |_=>none
theorem wG{r:Value}{v:V}(h:Nf r=some v)(P:Pm)(H:HP)(ρ:List Addr):ag P H ρ v r:=by
 cases r with
 |none=>exact ae h▸.none
 |bool b=>exact ae h▸.bool
 |int x t=>exact ae h▸.int
 |str x t=>exact bQ h fun e h=>ae h▸.str e
 |ref a=>exact ae h▸.glob
 |_=>cases h
theorem BW{rs:List Value}:∀{ds:List V},rs.map Nf=ds.map some→∀P H ρ,ai P H ρ ds rs:=by
  induction rs with
  | nil=>
    intro ds h P H ρ
    cases ds with
    |nil=>exact .nil
    |cons _ _=>cases h
  | cons r rs ih=>
    intro ds h P H ρ
    cases ds with
    |nil=>cases h
    |cons d ds=>exact .cons (wG (List.cons.inj h).1 P H ρ) (ih (List.cons.inj h).2 P H ρ)
noncomputable def LP:List Nat:=[208,207,340,339,517,516,552,551,586,585,627,626,680,679,733,732,789,788,908,907,964,963,1151,1150,83,82,46,45,2]
noncomputable def yu:List Nat:=[29,163,290,408,416,562,596,637,690,1068]
noncomputable def CP(v:Value):Option Addr:=match v with
 |.ref d=>some d
 |_=>none
noncomputable def CQ(v:Value):Bool:=match v with
 |.none=>true
 |_=>false
noncomputable def oV(o:Obj):Option (Array Value):=match o.data with
 |.seq xs _=>some xs
 |_=>none
noncomputable def pj(o:Obj):Option FuncData:=match o.data with
 |.func f=>some f
 |_=>none
theorem Gw{v:Value}{d:Addr}(h:CP v=some d):v=.ref d:=by
 cases v with
 |ref _=>exact congrArg _ (ae h)
 |_=>cases h
theorem FU{v:Value}(h:CQ v=true):v=.none:=by
 cases v with
 |none=>rfl
 |_=>cases h
theorem Gp{o:Obj}{xs:Array Value}(h:oV o=some xs):∃n,o.data=.seq xs n:=by
 unfold oV at h
 revert h
 cases o.data with
 |seq ys n=>exact fun h=>⟨n,by rw[ae h]⟩
 |_=>exact fun h=>nomatch h
theorem GV{o:Obj}{f:FuncData}(h:pj o=some f):o=⟨o.cls,o.dict,.func f,o.slots⟩:=by
 have e:o.data=.func f:=by
  unfold pj at h
  revert h
  cases o.data with
  |func g=>exact fun h=>congrArg _ (ae h)
  |_=>exact fun h=>nomatch h
 rw[←e]
noncomputable def mq(K:Frag)(v:Value):Option (List (Option V)):=bX (CQ v) (some []) (oO (CP v) fun d=>oO (K.lookup d) fun o=>oO (oV o) fun xs=>some (xs.toList.map Nf))
noncomputable abbrev fv:=FuncBody×Scope×List Str×Option (List (Option V))×List Bool
noncomputable def LS(f:FuncData)(l:xh):Bool:=bX (jO (f.scope.names.lookup l.key)) (ay (f.code==.ref l.code) (f.qualname==l.fn)) true
noncomputable def lA(cd:Bool)(dfl:Option (List (Option V)))(f:FuncData):fv:=(f.body,f.scope,f.params.args.map (·.arg),dfl,
   [iJ f.params.posonlyargs,k9 f.params.vararg,iJ f.params.kwonlyargs,k9 f.params.kwarg,iJ f.closure,Nat.beq f.globals mainGlobals,Nat.beq f.builtins builtinsNs,cd,bb (LS f) iF])
noncomputable def pv(K:Frag)(a:Addr):Option fv:=oO (K.lookup a) fun o=>oO (pj o) fun f=>some (lA (codeIn K f.code f.qualname) (mq K f.defaults) f)
noncomputable def nu(i:af):Option fv:=some (.stmts i.body,i.sc,i.ps,some (i.ds.map some),[true,true,true,true,true,true,true,true,true])
noncomputable def GI(i:af)(x:Str):Bool:=ay (bX (l9 (i.sc.names.lookup x)) true (jO (i.sc.names.lookup x))) (bW (x==("__debug__":Str)))
noncomputable def tc(i:af):Bool:=ay (decide ((cellsFrom 0 i.sc.names []).map (·.1)).Nodup) (ay (bW i.sc.isCoroutine) (ay (bW i.sc.isGenerator) (ay (wW i.sc) (ay (bb (GI i) i.ps) (ay (decide i.ps.Nodup) (Nat.ble i.ds.length i.ps.length))))))
theorem sy{α:Type}{f:α→Bool}{l:List α}(h:bb f l=true):∀x∈l,f x=true:=by
 induction l with
 |nil=>exact fun _ hx=>nomatch hx
 |cons y r ih=>exact fun x hx=>(List.mem_cons.mp hx).elim (fun e=>e▸(a9 h).1) (ih (a9 h).2 x)
theorem DI{f:FuncData}{i:af}(h1:f.body=.stmts i.body)(h2:f.scope=i.sc)(h3:f.closure=[])(h4:f.globals=mainGlobals)(h5:f.builtins=builtinsNs) :
  f=OU.fn ⟨f.name,f.qualname,f.params,f.doc,f.pyModule,f.annotations,f.defaults,f.kwdefaults,f.code,f.closureTuple,.none,none,#[]⟩ i:=by
 show f=fnX f.name f.qualname f.params i.body i.sc [] f.defaults f.kwdefaults f.doc f.pyModule f.annotations f.code f.closureTuple
 unfold fnX
 rw[←h1,←h2,←h3,←h4,←h5]
theorem KD{K:Frag}{v:Value}{ds:List V}(h:mq K v=some (ds.map some)){s:Shared}(X:K.In s.heap)(P:Pm)(H:HP)(ρ:List Addr):∃rs,ai P H ρ ds rs∧((∃T o n,v=.ref T∧s.heap.get? T=some o∧o.data=.seq rs.toArray n)∨(v=.none∧rs=[])):=
 gK h (fun e h=>⟨[],by rw[List.map_eq_nil_iff.mp (ae h).symm];exact .nil,.inr ⟨FU e,rfl⟩⟩) fun _ h=>au h fun d ed h=>au h fun o eo h=>au h fun xs ex h=>(Gp ex).elim fun n en=>⟨xs.toList,BW (ae h) P H ρ,.inl ⟨d,o,n,Gw ed,X _ _ eo,en⟩⟩
theorem FG{K:Frag}{a:Addr}{i:af}(h:pv K a=nu i)(hs:tc i=true):yR K a i:=by
 refine au h fun o hK h=>au h fun f hf h=>?_
 have h:=ae h
 refine ar hs fun s1 hs=>ar hs fun s2 hs=>ar hs fun s3 hs=>ar hs fun s4 hs=>ar hs fun s5 hs=>ar hs fun s6 s7=>?_
 have hb:bb id (lA (codeIn K f.code f.qualname) (mq K f.defaults) f).2.2.2.2=true:=by rw[h];rfl
 refine gy hb fun b1 hb=>gy hb fun b2 hb=>gy hb fun b3 hb=>gy hb fun b4 hb=>gy hb fun b5 hb=>gy hb fun b6 hb=>gy hb fun b7 hb=>gy hb fun b8 hb=>gy hb fun b9 _=>?_
 have h1:f.body=.stmts i.body:=congrArg (fun z:fv=>z.1) h
 have h2:f.scope=i.sc:=congrArg (fun z:fv=>z.2.1) h
 have h3:f.params.args.map (·.arg)=i.ps:=congrArg (fun z:fv=>z.2.2.1) h
 have h4:mq K f.defaults=some (i.ds.map some):=congrArg (fun z:fv=>z.2.2.2.1) h
 have hw:=DI (i:=i) h1 h2 (bU b5) (Nat.eq_of_beq_eq_true b6) (Nat.eq_of_beq_eq_true b7)
 have hp:=of_decide_eq_true s6
 refine⟨⟨⟨f.name,f.qualname,f.params,f.doc,f.pyModule,f.annotations,f.defaults,f.kwdefaults,f.code,f.closureTuple,o.cls,o.dict,o.slots⟩,?_,b8,fun s as ras fm P H ρ X hb hv=>?_,fun l hl e=>?_⟩,of_decide_eq_true s1,bS s2,bS s3,wo s4,fun x hx=>ar (sy s5 x hx) fun z1 z2=>⟨?_,bS z2⟩,hp⟩
 ·show K.lookup a=some ⟨o.cls,o.dict,.func _,o.slots⟩
  rw[hK,GV hf]
  exact congrArg (fun z=>some (⟨o.cls,o.dict,.func z,o.slots⟩:Obj)) hw
 ·refine(KD h4 X P H ρ).elim fun rs d=>(F8 i.ps hb hv d.1).elim fun bs g=>⟨bs,?_,g.2⟩
  exact C6 (rs:=rs) (bU b1) (ja b2) (bU b3) (ja b4) (h3▸hp) (by show _≤(f.params.args.map (·.arg)).length;rw[h3,←d.1.len];exact Nat.le_of_ble_eq_true s7) d.2 (by show gY (f.params.args.map (·.arg)) _ _=_;rw[h3];exact g.1)
 ·refine gK (sy b9 l hl) (fun _ q=>ar q fun q1 q2=>⟨eq_of_beq q1,eq_of_beq q2⟩) fun q _=>?_
  rw[h2,e]at q;cases q
 ·exact gK z1 (fun q _=>.inl (gU q)) fun _ q=>.inr ⟨hO q,fun n=>iS _ _ _ (hO q)⟩
noncomputable def Mw(K:Frag)(C:Addr)(name:Str):Bool:=ay (plainGet K C name) (ay (hasDictIn K C) (ay (oB (findIn K (.ref C) name) (noGet K)) (ay (findIn K (.ref C) "__setattr__"==some (some (.builtin "object.__setattr__"))) (ay (plainOver K C) (takerIn K C name==some none)))))
noncomputable def HZ(K:Frag)(C:Addr)(name:Str)(f:Addr):Bool:=ay (plainGet K C name) (ay (findIn K (.ref C) name==some (some (.ref f))) (typeIn K (.ref f)==some (.type "function")))
noncomputable def Sm(K:Frag)(C:Addr)(name:Str):bY→Bool
 |.own=>Mw K C name
 |.fn f=>HZ K C name f
theorem Hy{K:Frag}{C:Addr}{name:Str}(h:Mw K C name=true):Eg K C name:=
 ar h fun a h=>ar h fun b h=>ar h fun c h=>ar h fun d h=>ar h fun e f=>⟨a,b,jI c fun x hx c=>⟨x,hx,c⟩,eq_of_beq d,e,eq_of_beq f⟩
theorem DP{K:Frag}{C:Addr}{name:Str}{f:Addr}(h:HZ K C name f=true):tZ K C name f:=
 ar h fun a h=>ar h fun b c=>⟨a,eq_of_beq b,eq_of_beq c⟩
noncomputable def Ew(K:Frag)(C:Addr)(name:Str)(f:Addr):Bool:=ay (specialIn K (.ref C) "__getattribute__"==some (some (.builtin "type.__getattribute__"))) (ay (readsIn K C (.type "type")) (match findCls K (.ref C) (.type "type") name with
 |some (.val v)=>v==.ref f
 |_=>false))
set_option tactic.hygienic true in
theorem EI{K:Frag}{C:Addr}{name:Str}{f:Addr}(h:Ew K C name f=true):uW K C name f:=by
 refine ar h fun a h=>ar h fun b c=>⟨eq_of_beq a,_,b,?_⟩
 split at c
 ·rename_i v hv
  rw[hv,eq_of_beq c]
 ·cases c
noncomputable def CE(K:Frag)(C f:Addr):Bool:=ay (makesIn K C) (ay (findIn K (.ref C) "__init__"==some (some (.ref f))) (typeIn K (.ref f)==some (.type "function")))
theorem Ap{K:Frag}{C f:Addr}(h:CE K C f=true):uB K C f:=
 ar h fun a h=>ar h fun b c=>⟨a,eq_of_beq b,eq_of_beq c⟩
noncomputable def JO(K:Frag):Bool:=(HN.list.all fun p=>Nat.blt p.1 200||p.2.all fun q=>Sm K p.1 q.1 q.2)&&(KY.list.all fun p=>Nat.blt p.1 200||(CE K p.1 p.2&&keepIn K (.ref p.1)))&&((O4 517).any fun l=>l.all fun q=>Ew K 517 q.1 q.2)
noncomputable def Ei(h:Heap)(e:List Nat×V):Option V×Option Value×Bool:=match e.2 with
 |.blt _=>(none,h.nsMap builtinsNs ⟨e.1.toArray⟩,(h.nsMap mainGlobals ⟨e.1.toArray⟩).isNone)
 |.typ _=>(none,h.nsMap builtinsNs ⟨e.1.toArray⟩,(h.nsMap mainGlobals ⟨e.1.toArray⟩).isNone)
 |_=>((h.nsMap mainGlobals ⟨e.1.toArray⟩).bind Nf,none,true)
noncomputable def D7(e:List Nat×V):Option V×Option Value×Bool:=match e.2 with
 |.blt s=>(none,some (.builtin s.name),true)
 |.typ s=>(none,some (.type s.name),true)
 |v=>(some v,none,true)
noncomputable def uk(K:Frag):Option (Value×List Value×Bool×List Bool×Option Value):=match K.lookup 83 with
 |some ⟨c,_,.cls cd,sl⟩=>some (c,cd.mro,cd.hasDel,[Nat.beq sl.size 6],(sl.toList[4]?).join)
 |_=>none
noncomputable def u0:Option (Value×List Value×Bool×List Bool×Option Value):=some (.type "type",[.ref 83,.ref 46,.type "Exception",.type "BaseException",.type "object"],false,[true],some (.builtin nX))
noncomputable def O5(K:Frag):Bool:=fj K 83&&(findIn K (.ref 83) "__setattr__"==some (some (.builtin "object.__setattr__")))&&(findIn K (.ref 83) sW==some none)&&(findIn K (.ref 83) sA==some none)&&(findIn K (.ref 83) "__init__"==some (some (.ref 36)))&&(typeIn K (.ref 36)==some (.type "function"))&&keepIn K (.ref 83)
noncomputable def H5:List Nat:=LP++(vV.list.flatMap fun p=>[p.1,p.1 - 1])++yu
noncomputable def qJ(h:Heap)(K:Frag)(l:xh):Option (Value×Option Value×Value×Bool)×Option Obj×Bool:=(match h.get? l.code with
  | some ⟨c,_,.fields vs,_⟩=>some (c,vs[11]?,vs.getD 11 .none,(match vs.getD 18 .none,vs.getD 7 .none,vs.getD 9 .none,vs.getD 10 .none with
    |.str _ _,.int _ _,.bool _,.int _ _=>true
    |_,_,_,_=>false)&&!(Nat.beq l.code l.P))
  |_=>none,h.get? l.P,(K.lookup l.P).isNone)
noncomputable def qI(l:xh):Option (Value×Option Value×Value×Bool)×Option Obj×Bool:=(some (.type "code",some (.ref l.P),.ref l.P,true),some (tabObj #[]),true)
theorem zL:(vV.list.all fun p=>tc p.2)=true:=by kernel_rfl
section
noncomputable def dD(v:V):Option Int:=oO (vI v) fun p=>some p.2
noncomputable def J8(v:V):Option Bool:=oO (vB v) fun p=>some p.2
noncomputable def H9(v:V):Option Str:=oO (vS v) fun p=>some p.2
noncomputable def yo(v:V):Option (List Int):=oO (vY v) fun p=>some p.2
noncomputable def HL(v:V):Option (List Int):=oO (vW v) fun p=>some p.2
noncomputable def Ie(v:V):Option Unit:=oO (vM v) fun n=>bO (Nat.beq n 1) (some ())
noncomputable def mM{α β:Type}(a:Option α)(b:Option β):Option (α×β):=oO a fun x=>oO b fun y=>some (x,y)
noncomputable def fY{α:Type}(f:V→Option α)(as:List V):Option α:=oO (wm as) f
noncomputable def eI{α β:Type}(f:V→Option α)(g:V→Option β)(as:List V):Option (α×β):=oO (ET as) fun p=>mM (f p.1) (g p.2)
noncomputable def uL{α β γ:Type}(f:V→Option α)(g:V→Option β)(k:V→Option γ)(as:List V):Option (α×β×γ):=oO (Ll as) fun p=>mM (f p.1) (mM (g p.2.1) (k p.2.2))
noncomputable def Cr{α β γ δ:Type}(f:V→Option α)(g:V→Option β)(k:V→Option γ)(l:V→Option δ)(as:List V):Option (α×β×γ×δ):=oO (Si as) fun p=>mM (f p.1) (mM (g p.2.1) (mM (k p.2.2.1) (l p.2.2.2)))
noncomputable def mN:List (Str×V)→List Str→Bool
  |[],l=>iJ l
  | p::r,l=>match l with
    |[]=>false
    |y::s=>bX (aE p.1 y) (mN r s) false
noncomputable def nI:List (Str×V)→Nat→V
  |[],_=>.none
  | p::r,n=>match n with
    |0=>p.2
    |n+1=>nI r n
noncomputable def mK{α:Type}(o:Option α)(P:α→Prop):Prop:=oP o P
noncomputable def d4{α β:Type}(o:Option (α×β))(P:α→β→Prop):Prop:=mK o fun p=>P p.1 p.2
noncomputable def uT{α β γ:Type}(o:Option (α×β×γ))(P:α→β→γ→Prop):Prop:=mK o fun p=>P p.1 p.2.1 p.2.2
noncomputable def A1{α β γ δ:Type}(o:Option (α×β×γ×δ))(P:α→β→γ→δ→Prop):Prop:=mK o fun p=>P p.1 p.2.1 p.2.2.1 p.2.2.2
theorem KC{α:Type}{o:Option α}{P:α→Prop}(h:mK o P):∃x,o=some x∧P x:=aB h fun x e h=>⟨x,e,h⟩
theorem cb{v:V}{x:Int}(h:dD v=some x):∃k,v=.int k x:=au h fun p e q=>⟨p.1,by rw[vJ e,ae q]⟩
theorem Ay{v:V}{x:Bool}(h:J8 v=some x):∃k,v=.bool k x:=au h fun p e q=>⟨p.1,by rw[LG e,ae q]⟩
theorem u6{v:V}{x:Str}(h:H9 v=some x):∃k,v=.str k x:=au h fun p e q=>⟨p.1,by rw[CY e,ae q]⟩
theorem uX{v:V}{x:List Int}(h:yo v=some x):∃k,v=.bytes k x:=au h fun p e q=>⟨p.1,by rw[Ol e,ae q]⟩
theorem uV{v:V}{x:List Int}(h:HL v=some x):∃k,v=.irow k x:=au h fun p e q=>⟨p.1,by rw[N5 e,ae q]⟩
theorem u7{v:V}{x:Unit}(h:Ie v=some x):v=.named 1:=au h fun p e q=>bQ q fun b _=>by rw[Mh e,Nat.eq_of_beq_eq_true b]
theorem bk{α β:Type}{a:Option α}{b:Option β}{p:α×β}(h:mM a b=some p):a=some p.1∧b=some p.2:=au h fun x e h=>au h fun y f h=>by rw[←ae h];exact⟨e,f⟩
theorem jM{α:Type}{f:V→Option α}{as:List V}{P:α→Prop}(h:mK (fY f as) P):∃a x,as=[a]∧f a=some x∧P x:=
 aB h fun x e h=>au e fun a q e=>⟨a,x,DK q,e,h⟩
theorem gb{α β:Type}{f:V→Option α}{g:V→Option β}{as:List V}{P:α→β→Prop}(h:d4 (eI f g as) P):∃a b x y,as=[a,b]∧f a=some x∧g b=some y∧P x y:=
 aB h fun x e h=>au e fun p q e=>⟨p.1,p.2,x.1,x.2,C1 q,(bk e).1,(bk e).2,h⟩
theorem xG{α β γ:Type}{f:V→Option α}{g:V→Option β}{k:V→Option γ}{as:List V}{P:α→β→γ→Prop}(h:uT (uL f g k as) P):∃a b c x y z,as=[a,b,c]∧f a=some x∧g b=some y∧k c=some z∧P x y z:=
 aB h fun x e h=>au e fun p q e=>⟨p.1,p.2.1,p.2.2,x.1,x.2.1,x.2.2,xI q,(bk e).1,(bk (bk e).2).1,(bk (bk e).2).2,h⟩
theorem wB{α β γ δ:Type}{f:V→Option α}{g:V→Option β}{k:V→Option γ}{l:V→Option δ}{as:List V}{P:α→β→γ→δ→Prop}(h:A1 (Cr f g k l as) P):∃a b c d x y z u,as=[a,b,c,d]∧f a=some x∧g b=some y∧k c=some z∧l d=some u∧P x y z u:=
 aB h fun x e h=>au e fun p q e=>⟨p.1,p.2.1,p.2.2.1,p.2.2.2,x.1,x.2.1,x.2.2.1,x.2.2.2,N9 q,(bk e).1,(bk (bk e).2).1,(bk (bk (bk e).2).2).1,(bk (bk (bk e).2).2).2,h⟩
theorem pd{a b:Str}(h:aE a b=true):a=b:=by rw[cA]at h;exact eq_of_beq h
theorem lN{fs:List (Str×V)}:∀{ns:List Str},mN fs ns=true→fs=ns.zip (fs.map (·.2))∧(fs.map (·.2)).length=ns.length:=by
  induction fs with
  |nil=>exact fun h=>by rw[bU h];exact⟨rfl,rfl⟩
  | cons p r ih=>
    intro ns h
    cases ns with
    |nil=>cases h
    | cons y s=>
      refine gy h fun e h=>⟨?_,congrArg (·+1) (ih h).2⟩
      show p::r=(y,p.2)::s.zip (r.map (·.2))
      rw[←(ih h).1,←pd e]
theorem da{α:Type}{l:List α}{n:Nat}(h:l.length=n+1):∃a r,l=a::r∧r.length=n:=by
 cases l with
 |nil=>cases h
 |cons a r=>exact⟨a,r,rfl,Nat.succ.inj h⟩
theorem Cy{α:Type}{l:List α}(h:l.length=0):l=[]:=List.length_eq_zero_iff.mp h
section
variable {as:List V}
theorem dI{P:Int→Prop}(h:mK (fY dD as) P):∃k x,as=[.int k x]∧P x:=by
 refine c9 (jM h) fun a x0 q e0 g=>?_
 exact(cb e0).elim fun k0 f0=>⟨k0,x0,by rw[q,f0],g⟩
theorem dS{P:Str→Prop}(h:mK (fY H9 as) P):∃k x,as=[.str k x]∧P x:=by
 refine c9 (jM h) fun a x0 q e0 g=>?_
 exact(u6 e0).elim fun k0 f0=>⟨k0,x0,by rw[q,f0],g⟩
theorem dY{P:List Int→Prop}(h:mK (fY yo as) P):∃k x,as=[.bytes k x]∧P x:=by
 refine c9 (jM h) fun a x0 q e0 g=>?_
 exact(uX e0).elim fun k0 f0=>⟨k0,x0,by rw[q,f0],g⟩
theorem dR{P:List Int→Prop}(h:mK (fY HL as) P):∃k x,as=[.irow k x]∧P x:=by
 refine c9 (jM h) fun a x0 q e0 g=>?_
 exact(uV e0).elim fun k0 f0=>⟨k0,x0,by rw[q,f0],g⟩
theorem dV{P:V→Prop}(h:mK (fY some as) P):∃v,as=[v]∧P v:=by
 refine c9 (jM h) fun a x0 q e0 g=>?_
 exact⟨a,q,(by rw[ae e0];exact g)⟩
theorem Sd{P:V→V→Prop}(h:d4 (eI some some as) P):∃v u,as=[v,u]∧P v u:=by
 refine mA (gb h) fun a b x0 x1 q e0 e1 g=>?_
 exact⟨a,b,q,(by rw[ae e0,ae e1];exact g)⟩
theorem Tb{P:List Int→V→Prop}(h:d4 (eI HL some as) P):∃k x u,as=[.irow k x,u]∧P x u:=by
 refine mA (gb h) fun a b x0 x1 q e0 e1 g=>?_
 exact(uV e0).elim fun k0 f0=>⟨k0,x0,b,by rw[q,f0],(by rw[ae e1];exact g)⟩
theorem Te{P:Int→Int→Prop}(h:d4 (eI dD dD as) P):∃k x l y,as=[.int k x,.int l y]∧P x y:=by
 refine mA (gb h) fun a b x0 x1 q e0 e1 g=>?_
 exact(cb e0).elim fun k0 f0=>(cb e1).elim fun k1 f1=>⟨k0,x0,k1,x1,by rw[q,f0,f1],g⟩
theorem LB{P:List Int→Int→Prop}(h:d4 (eI yo dD as) P):∃k x l y,as=[.bytes k x,.int l y]∧P x y:=by
 refine mA (gb h) fun a b x0 x1 q e0 e1 g=>?_
 exact(uX e0).elim fun k0 f0=>(cb e1).elim fun k1 f1=>⟨k0,x0,k1,x1,by rw[q,f0,f1],g⟩
theorem S7{P:List Int→Int→Prop}(h:d4 (eI HL dD as) P):∃k x l y,as=[.irow k x,.int l y]∧P x y:=by
 refine mA (gb h) fun a b x0 x1 q e0 e1 g=>?_
 exact(uV e0).elim fun k0 f0=>(cb e1).elim fun k1 f1=>⟨k0,x0,k1,x1,by rw[q,f0,f1],g⟩
theorem Q7{P:V→Int→Prop}(h:d4 (eI some dD as) P):∃v l y,as=[v,.int l y]∧P v y:=by
 refine mA (gb h) fun a b x0 x1 q e0 e1 g=>?_
 exact(cb e1).elim fun k1 f1=>⟨a,k1,x1,by rw[q,f1],(by rw[ae e0];exact g)⟩
theorem Ni{P:Int→Int→Bool→Prop}(h:uT (uL dD dD J8 as) P):∃k x l y m z,as=[.int k x,.int l y,.bool m z]∧P x y z:=by
 refine NI (xG h) fun a b c x0 x1 x2 q e0 e1 e2 g=>?_
 exact(cb e0).elim fun k0 f0=>(cb e1).elim fun k1 f1=>(Ay e2).elim fun k2 f2=>⟨k0,x0,k1,x1,k2,x2,by rw[q,f0,f1,f2],g⟩
theorem NU{P:Unit→List Int→Int→Prop}(h:uT (uL Ie yo dD as) P):∃k x l y,as=[.named 1,.bytes k x,.int l y]∧P () x y:=by
 refine NI (xG h) fun a b c x0 x1 x2 q e0 e1 e2 g=>?_
 exact(uX e1).elim fun k1 f1=>(cb e2).elim fun k2 f2=>⟨k1,x1,k2,x2,by rw[q,u7 e0,f1,f2],g⟩
theorem SN{P:Unit→V→Prop}(h:d4 (eI Ie some as) P):∃v,as=[.named 1,v]∧P () v:=by
 refine mA (gb h) fun a b x0 x1 q e0 e1 g=>?_
 exact⟨b,by rw[q,u7 e0],(by rw[ae e1];exact g)⟩
theorem NJ{P:Unit→Int→Int→Int→Prop}(h:A1 (Cr Ie dD dD dD as) P):∃k x l y m z,as=[.named 1,.int k x,.int l y,.int m z]∧P () x y z:=by
 obtain⟨a,b,c,d,x0,x1,x2,x3,q,e0,e1,e2,e3,g⟩:=wB h
 exact(cb e1).elim fun k1 f1=>(cb e2).elim fun k2 f2=>(cb e3).elim fun k3 f3=>⟨k1,x1,k2,x2,k3,x3,by rw[q,u7 e0,f1,f2,f3],g⟩
theorem Od{P:Int→Int→Int→Int→Prop}(h:A1 (Cr dD dD dD dD as) P):∃k x l y m z n u,as=[.int k x,.int l y,.int m z,.int n u]∧P x y z u:=by
 obtain⟨a,b,c,d,x0,x1,x2,x3,q,e0,e1,e2,e3,g⟩:=wB h
 exact(cb e0).elim fun k0 f0=>(cb e1).elim fun k1 f1=>(cb e2).elim fun k2 f2=>(cb e3).elim fun k3 f3=>⟨k0,x0,k1,x1,k2,x2,k3,x3,by rw[q,f0,f1,f2,f3],g⟩
end
end
structure Pf where
 seg:Str
 data:Bool
 rep:Int
 lock:Bool
 rex:Int
noncomputable abbrev s0(x:String):Str:=Str.ofString x
noncomputable def jN:Pf:=⟨s0 "",false,0,false,-1⟩
noncomputable def bq(x:Int):Bool:=x.fdiv 16==4
inductive Cm where
 |seg|data|rep|lock|barred|none
noncomputable def aT(x:Int):Cm:=if x==100||x==101 then .seg else if x==102 then .data else if x==242||x==243 then .rep else if x==240 then .lock else if x==38||x==46||x==54||x==62||x==103 then .barred else .none
noncomputable def kI:Cm→Str
 |.seg=>s0 "segment"
 |.data=>s0 "data"
 |.rep=>s0 "repeat"
 |.lock=>s0 "lock"
 |.barred=>s0 "barred"
 |.none=>s0 ""
noncomputable def dn(p:Pf)(x:Int):Option Pf:=match aT x with
  |.barred=>none
  | s=>if 0≤p.rex then none else match s with
    |.seg=>if p.seg != s0 "" then none else some {p with seg:=if x==100 then s0 "fs" else s0 "gs",rex:=-1}
    |.data=>if p.data then none else some {p with data:=true,rex:=-1}
    |.rep=>if p.rep != 0||p.lock then none else some {p with rep:=x,lock:=false,rex:=-1}
    |_=>if p.lock||p.rep != 0 then none else some {p with rep:=0,lock:=true,rex:=-1}
noncomputable def fA:List Int→Pf→Nat→Option (Pf×Nat)
  |[],p,n=>some (p,n)
  | x :: r,p,n=>if bq x then(if 0≤p.rex then none else fA r {p with rex:=x} (n+1))else match aT x with
    |.none=>some (p,n)
    | _=>match dn p x with
      |some p'=>fA r p' (n+1)
      |none=>none
noncomputable def rp(xs:List Int)(at_:Nat):Option (Pf×Nat):=fA (xs.drop at_) jN at_
noncomputable def nv(p:Pf):V:=.inst 208 [(s0 "segment",.str false p.seg),(s0 "is_data",.bool false p.data),(s0 "repeat",.int false p.rep),(s0 "is_lock",.bool false p.lock),(s0 "rex",.int false p.rex)]
noncomputable def KG:List Str:=[s0 "segment",s0 "is_data",s0 "repeat",s0 "is_lock",s0 "rex"]
noncomputable def Sj(fs:List (Str×V)):Option Pf:=oO (mM (H9 (nI fs 0)) (mM (J8 (nI fs 1)) (mM (dD (nI fs 2)) (mM (J8 (nI fs 3)) (dD (nI fs 4)))))) fun p=>some ⟨p.1,p.2.1,p.2.2.1,p.2.2.2.1,p.2.2.2.2⟩
noncomputable def F0(v:V):Option Pf:=oO (vN v) fun p=>bO (ay (Nat.beq p.1 208) (mN p.2 KG)) (Sj p.2)
noncomputable def gv:bf:=fun as KV R=>d4 (eI yo dD as) fun xs at_=>0≤at_∧few xs.length=true∧xs.length≤90∧(∀p e,rp xs at_.toNat=some (p,e)→KV (.tup [nv p,.int false (Int.ofNat e)]))∧(rp xs at_.toNat=none→R 83)
noncomputable def j4:bf:=fun as KV _=>mK (fY dD as) fun x=>KV (.str false (kI (aT x)))
noncomputable def fu:bf:=fun as KV R=>d4 (eI some dD as) fun v x=>oP (F0 v) fun p=>(∀q,dn p x=some q→KV (nv q))∧(dn p x=none→R 83)
noncomputable def jn(s:Str):List Int:=if aE s (s0 "")then[]else if aE s (s0 "fs")then[100]else[101]
noncomputable def eZ(p:Pf):List Int:=jn p.seg++(if p.data then[102]else[])++(if p.rep==0 then[]else[p.rep])++(if p.lock then[240]else[])++(if 0≤p.rex then[p.rex]else[])
structure Pf.Ok(p:Pf):Prop where
 seg:p.seg=s0 ""∨p.seg=s0 "fs"∨p.seg=s0 "gs"
 rep:p.rep=0∨p.rep=242∨p.rep=243
 lock:p.lock=true→p.rep=0
 rex:p.rex=-1∨(64≤p.rex∧p.rex < 80)
noncomputable def gT:bf:=fun as KV _=>mK (fY some as) fun v=>match F0 v with
  |some p=>p.Ok∧KV (.bytes false (eZ p))
  |none=>False
noncomputable def gB:bf:=fun as KV _=>A1 (Cr dD dD dD dD as) fun w r x b=>(0≤w∧w≤1)∧(0≤r∧r≤1)∧(0≤x∧x≤1)∧(0≤b∧b≤1)∧KV (.int false (64+8*w+4*r+2*x+b))
noncomputable def J9(size:Int):List String:=if size==64 then["rax","rcx","rdx","rbx","rsp","rbp","rsi","rdi","r8","r9","r10","r11","r12","r13","r14","r15"]
 else if size==32 then["eax","ecx","edx","ebx","esp","ebp","esi","edi","r8d","r9d","r10d","r11d","r12d","r13d","r14d","r15d"]
 else if size==16 then["ax","cx","dx","bx","sp","bp","si","di","r8w","r9w","r10w","r11w","r12w","r13w","r14w","r15w"]
 else["al","cl","dl","bl","spl","bpl","sil","dil","r8b","r9b","r10b","r11b","r12b","r13b","r14b","r15b"]
noncomputable def d5(n size:Int):Str:=s0 ((J9 size).getD n.toNat "")
noncomputable def gG(n:Int):Str:=s0 (["","","","","ah","ch","dh","bh"].getD n.toNat "")
noncomputable def DA(name kind:Str)(n size:Int):V:=.inst 789 [(s0 "name",.str false name),(s0 "kind",.str false kind),(s0 "number",.int false n),(s0 "size",.int false size)]
noncomputable def AE:bf:=fun as KV _=>d4 (eI dD dD as) fun n size=>(0≤n∧n < 16)∧(size=8∨size=16∨size=32∨size=64)∧KV (DA (d5 n size) (s0 "gpr") n size)
noncomputable def wa:bf:=fun as KV _=>mK (fY dD as) fun n=>(4≤n∧n < 8)∧KV (DA (gG n) (s0 "high") n 8)
noncomputable def bC(d:Int):Str:=s0 (["add","or","adc","sbb","and","sub","xor","cmp"].getD d.toNat "")
noncomputable def o8(n:Int):String:=if n==8 then "8" else if n==16 then "16" else if n==32 then "32" else "64"
noncomputable def kD(d size:Int)(rm r:String)(num:Int):V:=.inst 340 [(s0 "name",.str false (bC d)),(s0 "kinds",.tup [.str true (s0 rm),.str true (s0 r)]),(s0 "opcode",.int false (8*d+(if size==8 then 0 else 1))),(s0 "escape",.int true 0),(s0 "digit",.int true (-1)),(s0 "size",.int true size),
 (s0 "must",.int true 0),(s0 "is_wide",.bool true false),(s0 "number",.int false num),(s0 "places",.tup [.str true (s0 "rm"),.str true (s0 "reg")])]
noncomputable def BK(d:Int):List V:=[kD d 8 "rm8" "r8" (19*d)]
noncomputable def AN(d:Int):List V:=[kD d 16 "rm16" "r16" (19*d+1),kD d 32 "rm32" "r32" (19*d+2),kD d 64 "rm64" "r64" (19*d+3)]
noncomputable def wU(k:Nat):Option Addr:=match Nat.beq k 1 with
 |true=>some 1151
 |false=>none
noncomputable def lM:bf:=fun as KV _=>d4 (eI HL dD as) fun xs k=>xs.length≤63∧(0≤k∧k < 18)∧∀y,0≤y→KV (.int false y)
inductive L7 where
 |seg|rep|barred|data|lock|rex|none
noncomputable def cz(x:Int):L7:=if x==100||x==101 then .seg else if x==242||x==243 then .rep else if x==38||x==46||x==54||x==62||x==103 then .barred else if x==102 then .data else if x==240 then .lock else if decide (64≤x)&&decide (x < 80)then .rex else .none
noncomputable def i3:bf:=fun as KV _=>mK (fY dD as) fun x=>(cz x=.seg→KV (.str true (s0 "segment")))∧(cz x=.rep→KV (.str true (s0 "repeat")))∧(cz x=.barred→KV (.str true (s0 "barred")))∧(cz x=.data→KV (.str true (s0 "data")))∧
   (cz x=.lock→KV (.str true (s0 "lock")))∧(cz x=.rex→KV (.str true (s0 "rex")))∧(cz x=.none→KV (.str true (s0 "")))
noncomputable def aY(o k:Int):Int:=if o < 0 then 0 else(o.fdiv k).fmod 2
noncomputable def i7:bf:=fun as KV _=>mK (fY dD as) fun o=>KV (.tup [.int false (aY o 8),.int false (aY o 4),.int false (aY o 2),.int false (aY o 1)])
noncomputable def i4:bf:=fun as KV _=>d4 (eI some dD as) fun v x=>oP (F0 v) fun p=>KV (nv {p with rex:=x})
noncomputable def AQ(d size:Int)(v:V):Prop:=∃num,0≤d∧d < 7∧(size=8∨size=16∨size=32∨size=64)∧aP v (kD d size ("rm"++o8 size) ("r"++o8 size) num)
noncomputable def fV:bf:=fun as KV _=>mK (fY some as) fun v=>(∃d size,AQ d size v)∧KV (.bool true true)
noncomputable def ir:bf:=fun as KV _=>mK (fY H9 as) fun x=>(∃d,0≤d∧d < 7∧x=bC d)∧KV (.list [])
noncomputable def nV(y:Int):Int:=if 127 < y then y - 256 else y
noncomputable def Cf:bf:=fun as KV _=>mK (fY yo as) fun xs=>∃y,xs=[y]∧0≤y∧y < 256∧KV (.int false (nV y))
noncomputable def lK:bf:=fun as KV _=>mK (fY dD as) fun m=>((64≤m∧m < 128)∨(192≤m∧m < 256))∧(m < 128→KV (.tup [.int true 1,.int false ((m.fdiv 8).fmod 8),.int false (m.fmod 8)]))∧(192≤m→KV (.tup [.int true 3,.int false ((m.fdiv 8).fmod 8),.int false (m.fmod 8)]))
noncomputable def i8:bf:=fun as KV _=>d4 (eI yo dD as) fun xs a=>few xs.length=true∧0≤a∧a.toNat < xs.length∧KV (.int false (aG xs a.toNat))
noncomputable def iZ:bf:=fun as KV _=>uT (uL dD dD J8 as) fun n size b=>(0≤n∧n < 16)∧(size=8∨size=16∨size=32∨size=64)∧KV (.str false (if size==8&&!b&&decide (4≤n)&&decide (n < 8)then gG n else d5 n size))
noncomputable abbrev Kk:=List (Nat×Nat×bf)
noncomputable def xS{α:Type}(a:Nat):List (Nat×α)→Option α
 |[]=>none
 |p::r=>bX (Nat.beq a p.1) (some p.2) (xS a r)
noncomputable def GK{α:Type}(M:α→Prop):List α→Prop
 |[]=>True
 |p::r=>M p∧GK M r
theorem IV{α:Type}{M:Nat→α→Prop}{l:List (Nat×α)}{a:Nat}{y:α}(e:xS a l=some y)(h:GK (fun p=>M p.1 p.2) l):M a y:=by
 induction l with
 |nil=>cases e
 |cons p r ih=>exact gK e (fun q e=>by rw[Nat.eq_of_beq_eq_true q,←ae e];exact h.1) fun _ e=>ih e h.2
theorem JP{α:Type}{f:α→Bool}{l:List α}(h:bb f l=true):GK (fun p=>f p=true) l:=by
 induction l with
 |nil=>trivial
 |cons p r ih=>exact gy h fun a b=>⟨a,ih b⟩
theorem FQ{α:Type}{f:Nat→Bool}{l:List (Nat×α)}{a:Nat}(h:bb (fun p=>f p.1) l=true)(e:(xS a l).isSome=true):f a=true:=
 pY e fun y e=>IV (M:=fun a _=>f a=true) e (JP h)
noncomputable def G3:Kk:=[(155,41,j4),(226,41,fu),(219,41,i4),(1162,41,lM),(1169,41,i3),(127,41,gB),(134,41,i7),(205,41,gT),(814,41,AE),(821,41,wa),(351,41,fV),(358,41,ir),(120,41,Cf),(849,41,lK),(863,41,i8)]
noncomputable def CT(lv:Nat)(a:Nat):Option (Nat×bf):=match Nat.ble 1 lv with
 |false=>none
 |true=>xS a G3
noncomputable def ID:Stmt→Expr
 |.While t _ _ _=>t
 |_=>.Constant .none 0 ⟨0,0,0,0⟩
noncomputable def H6:Stmt→List Stmt
 |.While _ b _ _=>b
 |_=>[]
noncomputable def MI(E:Ev)(t:Expr)(body:List Stmt)(sc:Scope)(f:bw Fl):bw Fl:=⟨fun σ Q=>(E.tr t sc).run σ fun g σ₁=>match g with
  | true=>(E.ss body sc).run σ₁ fun r σ₂=>match r with
    |.next=>f.run σ₂ Q
    |.cont=>f.run σ₂ Q
    |.brk=>Q .next σ₂
    |.ret v=>Q (.ret v) σ₂
  |false=>Q .next σ₁⟩
noncomputable def Oe(lv:Nat):ck:={gx with C:=CT lv,NM:=wU}
structure FD where
 nm:Str
 ks:List Str
 op:Int
 dg:Int
 sz:Int
 pl:List Str
noncomputable def Gm(a b c d:String)(s:Int):Str:=if s==8 then s0 a else if s==16 then s0 b else if s==32 then s0 c else s0 d
noncomputable def Om(s:Int):Str:=Gm "rm8" "rm16" "rm32" "rm64" s
noncomputable def rS(s:Int):Str:=Gm "r8" "r16" "r32" "r64" s
noncomputable def Sk(s:Int):Str:=Gm "imm8" "imm16" "imm32" "simm32" s
noncomputable def Tn(s:Int):Str:=Gm "al" "ax" "eax" "rax" s
noncomputable def Mq(op s:Int):Int:=if s==8 then op else op+1
noncomputable def NW:List Int:=[8,16,32,64]
noncomputable def Es(nm:Str)(op:Int):List FD:=NW.map fun s=>⟨nm,[Om s,rS s],Mq op s,-1,s,[s0 "rm",s0 "reg"]⟩
noncomputable def LX(nm:Str)(op:Int):List FD:=NW.map fun s=>⟨nm,[rS s,Om s],Mq op s,-1,s,[s0 "reg",s0 "rm"]⟩
noncomputable def Ky(nm:Str)(op dg:Int):List FD:=[16,32,64].map fun s=>⟨nm,[Om s,s0 "simm8"],op,dg,s,[s0 "rm",s0 "imm"]⟩
noncomputable def Nh(nm:Str)(op:Int):List FD:=NW.map fun s=>⟨nm,[Tn s,Sk s],Mq op s,-1,s,[s0 "fixed",s0 "imm"]⟩
noncomputable def N7(nm:Str)(op dg:Int):List FD:=NW.map fun s=>⟨nm,[Om s,Sk s],Mq op s,dg,s,[s0 "rm",s0 "imm"]⟩
noncomputable def qE(nm:Str)(op dg:Int):List FD:=NW.map fun s=>⟨nm,[Om s],Mq op s,dg,s,[s0 "rm"]⟩
noncomputable def kM(nm:Str)(d:Int):List FD:=Es nm (8*d)++(LX nm (8*d+2)++(Ky nm 131 d++(Nh nm (8*d+4)++N7 nm 128 d)))
noncomputable def JV:List FD:=kM (s0 "add") 0++(kM (s0 "or") 1++(kM (s0 "adc") 2++(kM (s0 "sbb") 3++(kM (s0 "and") 4++(kM (s0 "sub") 5++(kM (s0 "xor") 6++(kM (s0 "cmp") 7 ++
 (Es (s0 "test") 132++(Nh (s0 "test") 168++(N7 (s0 "test") 246 0++(qE (s0 "inc") 254 0++(qE (s0 "dec") 254 1++(qE (s0 "not") 246 2++qE (s0 "neg") 246 3)))))))))))))
noncomputable def BG:List Str→List V
 |[]=>[]
 |x::r=>.str true x::BG r
noncomputable def Sr(f:FD)(n:Int):V:=.inst 340 [(s0 "name",.str true f.nm),(s0 "kinds",.tup (BG f.ks)),(s0 "opcode",.int true f.op),(s0 "escape",.int true 0),(s0 "digit",.int true f.dg),(s0 "size",.int true f.sz),
 (s0 "must",.int true 0),(s0 "is_wide",.bool true false),(s0 "number",.int true n),(s0 "places",.tup (BG f.pl))]
noncomputable def I3(k:V)(v:V):List (V×List V)→List (V×List V)
  |[]=>[(k,[v])]
  | (j,l)::r=>match bu k j with
    |true=>(j,bc l [v])::r
    |false=>(j,l)::I3 k v r
noncomputable def qS(key:FD→V):List FD→Int→List (V×List V)→List (V×List V)
 |[],_,acc=>acc
 |f::r,n,acc=>qS key r (n+1) (I3 (key f) (Sr f n) acc)
noncomputable def pL:List (V×List V)→List (V×V)
 |[]=>[]
 |(k,l)::r=>(k,.list l)::pL r
noncomputable def MA:List FD→Int→List V
 |[],_=>[]
 |f::r,n=>Sr f n::MA r (n+1)
noncomputable def cU:V:=.inst 1151 [(s0 "forms",.list (MA JV 0)),(s0 "by_name",.dict (pL (qS (fun f=>.str true f.nm) JV 0 []))),(s0 "by_code",.dict (pL (qS (fun f=>.tup [.int true 0,.int true 0,.int true f.op]) JV 0 [])))]
section
structure dM(h:Heap)(K:Frag):Prop where
 kin:K.In h
 lam:∀l∈iF,qJ h K l=qI l
 fn:∀p∈vV.list,pv K p.1=nu p.2
 gl:∀p∈lT.list,Ei h p.2=D7 p.2
 xc:uk K=u0
 cls:JO K=true
 xcb:O5 K=true
 ex:h.nsMap mainGlobals "Exception"=none
 bx:h.nsMap builtinsNs "Exception"=some (.type "Exception")
 sm:∃o,h.get? sysModules=some o
 ns:h.Ns mainGlobals (h.nsMap mainGlobals)
 nb:h.Ns builtinsNs (h.nsMap builtinsNs)
 lim:h.Ns cStatics (h.nsMap cStatics)
 lim0:h.nsMap cStatics "sys.recursionlimit"=none
noncomputable def jJ:List Addr:=iF.map (·.P)
theorem AW{h B:Heap}{a:Addr}{m:Str→Option Value}(k:∀o,h.get? a=some o→B.get? a=some o)(n:h.Ns a m):B.Ns a m:=
 let ⟨o,es,ep,e,r⟩:=n;⟨o,es,ep,k _ e,r⟩
section
variable {h B:Heap}{K:Frag}{prog:Program}{w:World}{T:Nat→V}
set_option tactic.hygienic true in
theorem ib(S:dM h K){l:xh}(hl:l∈iF):CodeHd h l.code l.P∧h.get? l.P=some (tabObj #[])∧K.lookup l.P=none:=by
 have e:=S.lam l hl
 unfold qJ qI at e
 refine a7 (Prod.mk.inj e) fun e1 e=>?_
 refine a7 (Prod.mk.inj e) fun e2 e3=>?_
 refine⟨?_,e2,Option.isNone_iff_eq_none.mp e3⟩
 split at e1
 case h_2=>cases e1
 rename_i c od vs sl hc
 simp only [Option.some.injEq,Prod.mk.injEq]at e1
 refine ym e1 fun rq0 a1 a2 a3=>?_;subst rq0
 refine a7 (Bool.and_eq_true_iff.mp a3) fun a3 a4=>?_
 split at a3
 case h_2=>cases a3
 rename_i x1 t1 x2 t2 x3 x4 t4 q1 q2 q3 q4
 refine⟨_,vs,x1,t1,x2,t2,x3,x4,t4,hc,rfl,rfl,a1,a2,q1,q2,q3,q4,fun z=>?_⟩
 rw[z,Nat.beq_refl]at a4
 cases a4
theorem F6(S:dM h K)(k:∀b o,h.get? b=some o→b∉jJ→B.get? b=some o):K.In B:=fun a o e=>k a o (S.kin a o e) fun q=>by
 refine aq (List.mem_map.mp q) fun l hl rq2=>?_;subst rq2
 rw[(ib S hl).2.2]at e
 cases e
theorem HY(S:dM h K)(x:Str)(v:V)(e:G0 x=some v):∃r,(∀P H ρ,ag P H ρ v r)∧(h.nsMap mainGlobals x=some r∨(h.nsMap mainGlobals x=none∧h.nsMap builtinsNs x=some r)):=by
  have e:lT.getG x (J5 x.cps.toList 0)=some v:=e
  refine aW (mG.getG_mem e) fun k y hm hy=>?_
  have hy:=oq hy
  have hx:x=⟨y.toArray⟩:=by rw[←hy]
  have g:=S.gl _ hm
  rw[hx]
  unfold Ei D7 at g
  dsimp only at g
  cases v with
  | blt s=>
    refine a7 (Prod.mk.inj g) fun _ g=>?_
    refine a7 (Prod.mk.inj g) fun g1 g2=>?_
    exact⟨_,fun _ _ _=>.blt,.inr ⟨Option.isNone_iff_eq_none.mp g2,g1⟩⟩
  | typ s=>
    refine a7 (Prod.mk.inj g) fun _ g=>?_
    refine a7 (Prod.mk.inj g) fun g1 g2=>?_
    exact⟨_,fun _ _ _=>.typ,.inr ⟨Option.isNone_iff_eq_none.mp g2,g1⟩⟩
  | _=>
    refine a7 (Prod.mk.inj g) fun g1 g=>?_
    refine aq (Option.bind_eq_some_iff.mp g1) fun r h1 h2=>?_
    exact⟨r,wG h2,.inl h1⟩
theorem Dk(S:dM h K)(a:Addr)(i:af)(e:FV a=some i):yR K a i:=
 have m:=mG.get_mem e
 FG (S.fn _ m) (List.all_eq_true.mp zL _ m)
theorem xx(S:dM h K)(a:Addr)(e:(FV a).isSome=true):keepIn K (.ref a)=true:=by
 refine bz (Option.isSome_iff_exists.mp e) fun i e=>?_
 refine aq ((Dk S a i e).obj) fun Z hK _=>?_
 unfold keepIn
 dsimp only
 rw[hK]
theorem jZ(S:dM h K):(∀p∈HN.list,Nat.blt p.1 200=false→∀q∈p.2,Sm K p.1 q.1 q.2=true)∧(∀p∈KY.list,Nat.blt p.1 200=false→CE K p.1 p.2=true∧keepIn K (.ref p.1)=true)∧∀l,O4 517=some l→∀q∈l,Ew K 517 q.1 q.2=true:=by
 have e:=S.cls
 unfold JO at e
 refine a7 (Bool.and_eq_true_iff.mp e) fun e e3=>?_
 refine a7 (Bool.and_eq_true_iff.mp e) fun e1 e2=>?_
 refine⟨fun p hp hb q hq=>?_,fun p hp hb=>?_,fun l hl q hq=>?_⟩
 ·have z:=List.all_eq_true.mp e1 p hp
  rw[hb,Bool.false_or]at z
  exact List.all_eq_true.mp z q hq
 ·have z:=List.all_eq_true.mp e2 p hp
  rw[hb,Bool.false_or]at z
  exact Bool.and_eq_true_iff.mp z
 ·rw[hl]at e3
  exact List.all_eq_true.mp e3 q hq
set_option tactic.hygienic true in
theorem NQ(S:dM h K):∀C name x,OO C name=some x→match x with|.own=>Eg K C name|.fn f=>tZ K C name f:=by
 intro C name x e
 unfold OO O2 at e
 split at e
 case h_2=>cases e
 rename_i l hl
 split at hl
 ·cases hl
 rename_i hb
 have m:(C,l)∈HN.list:=mG.get_mem hl
 rw[eH]at e
 have z:=(jZ S).1 _ m hb _ (bD e)
 cases x with
 |own=>exact Hy z
 |fn f=>exact DP z
set_option tactic.hygienic true in
theorem IJ(S:dM h K):∀C f,RW C=some f→uB K C f∧keepIn K (.ref C)=true:=by
 intro C f e
 unfold RW at e
 split at e
 ·cases e
 rename_i hb
 have z:=(jZ S).2.1 _ (mG.get_mem e) hb
 exact⟨Ap z.1,z.2⟩
set_option tactic.hygienic true in
theorem Ot(S:dM h K):∀C name f,PM C name=some f→uW K C name f:=by
 intro C name f e
 unfold PM at e
 split at e
 case h_2=>cases e
 rename_i l hl
 have hC:C=517:=by
  unfold O4 at hl
  split at hl
  ·rename_i hb
   exact Nat.eq_of_beq_eq_true hb
  ·cases hl
 subst hC
 rw[eH]at e
 have z:=(jZ S).2.2 _ hl _ (bD e)
 exact EI z
theorem Hi:FV 36=some Qo:=by kernel_rfl
theorem M1{x:Str}{C:Addr}(e:X0 x=some C):C=83:=by
 unfold X0 at e
 split at e
 ·cases e;rfl
 ·cases e
theorem Kt(S:dM h K):vp K 83 36 Qo:=by
 have e:=S.xcb
 unfold O5 at e
 simp only [Bool.and_eq_true,beq_iff_eq]at e
 obtain⟨⟨⟨⟨⟨⟨e1,e2⟩,e3⟩,e4⟩,e5⟩,e6⟩,e7⟩:=e
 exact⟨e1,e2,e3,e4,e5,e6,Dk S _ _ Hi,by kernel_rfl,by kernel_rfl,⟨_,_,_,_,_,_,_,_,_,_,_,_,_,_,rfl,rfl⟩,by kernel_rfl,by kernel_rfl,by kernel_rfl,by kernel_rfl⟩
end
end
section
noncomputable def Iv(n:Nat):V→Bool:=@Nat.rec (fun _=>V→Bool) (fun _=>false) (fun _ f v=>match v with
 |.ref _=>false
 |.named _=>false
 |.tup vs=>bb f vs
 |.list vs=>bb f vs
 |.inst _ fs=>bb (fun p=>f p.2) fs
 |.dict kvs=>bb (fun p=>ay (f p.1) (f p.2)) kvs
 |_=>true) n
theorem G1{P:Pm}{H:HP}{ρ:List Addr}(n:Nat):A6 P H ρ (Iv n):=by
  induction n with
  |zero=>exact fun _ _ _ e=>nomatch e
  | succ n ih=>
    intro v r hv e
    cases hv with
    |none=>exact .none
    |bool=>exact .bool
    |int=>exact .int
    |str h=>exact .str h
    |bytes=>exact .bytes
    |irow a b=>exact .irow a b
    |tup a b=>exact .tup a (d9 ih b e)
    |inst a b c=>exact .inst a b (oS ih c e)
    |list a b=>exact .list a (d9 ih b e)
    |dict a b c d=>exact .dict a b c (oR ih d e)
    |ref=>cases e
    |glob=>exact .glob
    |blt=>exact .blt
    |typ=>exact .typ
    |named a=>cases e
    |rng a=>exact .rng a
theorem zR:Iv 6 cU=true:=by kernel_rfl
noncomputable abbrev TI:Nat→V:=fun _=>cU
theorem ui(w:World):∀k H ρ r,ag (pm w TI) H ρ (TI k) r→ag (pm w TI) H [] (TI k) r:=fun _ _ _ _ h=>G1 6 _ _ h zR
noncomputable def u3:List (Str×V):=match cU with
 |.inst _ fs=>fs
 |_=>[]
theorem B8:cU=.inst 1151 u3:=by kernel_rfl
theorem E0:O2 1151=some vq:=by kernel_rfl
theorem uD:(vq.all fun q=>match q.2 with|.fn _=>(lk q.1 u3).isNone|.own=>true)=true:=by kernel_rfl
theorem Gs{c:ck}(hc:c.CM=OO):∀k D,wU k=some D→Mu TI c k D:=by
 intro k D e
 unfold wU at e
 split at e
 case h_2=>cases e
 cases e
 refine⟨u3,B8,fun name f e=>?_⟩
 rw[hc]at e
 have e:(match O2 1151 with|some l=>lk name l|none=>none)=some (.fn f):=e
 rw[E0]at e
 dsimp only at e
 rw[eH]at e
 have z:=List.all_eq_true.mp uD _ (bD e)
 exact Option.isNone_iff_eq_none.mp z
theorem yk{α:Type}{l:List α}{n:Nat}(h:l.length=n+1){G:Prop}(k:∀a t,l=a::t→t.length=n→G):G:=by
 cases l with
 |nil=>cases h
 |cons a t=>exact k a t rfl (Nat.succ.inj h)
theorem SX{α:Type}{a:Array α}(h:a.size=6):∃k0 k1 k2 k3 k4 k5,a=#[k0,k1,k2,k3,k4,k5]:=
 yk (l:=a.toList) h fun a0 _ e h=>yk h fun a1 _ e1 h=>yk h fun a2 _ e2 h=>yk h fun a3 _ e3 h=>yk h fun a4 _ e4 h=>yk h fun a5 _ e5 h=>by
  refine⟨a0,a1,a2,a3,a4,a5,?_⟩
  rw[e1,e2,e3,e4,e5,List.eq_nil_of_length_eq_zero h]at e
  exact congrArg List.toArray e
section
variable {h B:Heap}{K:Frag}{prog:Program}{w:World}
set_option tactic.hygienic true in
theorem Jn(S:dM h K):∃nm q N bs hdct sn sub ab col dd k0 k1 k2 k3 k5,K.lookup 83=some (EW nm q 83 N bs [46] hdct sn sub ab col dd k0 k1 k2 k3 k5):=by
 have e:=S.xc
 unfold uk u0 at e
 split at e
 case h_2=>cases e
 rename_i c dd cd sl hK
 simp only [Option.some.injEq,Prod.mk.injEq,List.cons.injEq,and_true]at e
 refine t7 e fun rq0 e2 e3 e4 e5=>?_;subst rq0
 refine BQ (SX (Nat.eq_of_beq_eq_true e4)) fun k0 k1 k2 k3 k4 k5 rq6=>?_;subst rq6
 have e5:k4=some (.builtin nX):=e5
 subst e5
 obtain⟨nm,bs,mro,ns,q,hdct,sn,sub,ab,col,hd⟩:=cd
 dsimp only at e2 e3
 subst e2 e3
 exact⟨nm,q,ns,bs,hdct,sn,sub,ab,col,dd,k0,k1,k2,k3,k5,hK⟩
noncomputable def Gi(h B:Heap):Prop:=∃bm ob,h.nsMap mainGlobals "__builtins__"=some (.ref bm)∧bm≠builtinsNs∧B.get? bm=some ob∧ob.cls=.type "module"∧ob.dict=some builtinsNs∧ob.data=.plain
theorem ur:∃i,FV 1183=some i∧w4 i:=by
 refine⟨IM,by kernel_rfl,by kernel_rfl,by kernel_rfl,⟨_,_,_,_,_,_,_,_,_,rfl⟩,by kernel_rfl,by kernel_rfl⟩
theorem yr:X0 "DecodeError"=some 83∧G0 "DecodeError"=some (.glob 83):=⟨by kernel_rfl,by kernel_rfl⟩
theorem ig{a:Nat}(h1:a≠1185)(h2:a≠1227):a∉jJ:=by
 show a∉[1185,1227]
 simp only [List.mem_cons,List.not_mem_nil,or_false,not_or]
 exact⟨h1,h2⟩
theorem AP (S:dM h K) (k:∀b o,h.get? b=some o→b∉jJ→B.get? b=some o) (hb:Gi h B) {C:Addr→Option (Nat×bf)} {J:Nat→Nat→Option JT}
    (hC:∀a,(C a).isSome=true→(FV a).isSome=true) (hS:∀a m Sp,C a=some (m,Sp)→c6 prog w TI B a m Sp):aI prog w TI {gx with C:=C,NM:=wU,J:=J} K B:=by
  have kin:=F6 S k
  have nG:B.Ns mainGlobals (h.nsMap mainGlobals):=AW (fun o e=>k _ o e (ig (by decide) (by decide))) S.ns
  have nB:B.Ns builtinsNs (h.nsMap builtinsNs):=AW (fun o e=>k _ o e (ig (by decide) (by decide))) S.nb
  have nL:B.NoLimit:=⟨_,AW (fun o e=>k _ o e (ig (by decide) (by decide))) S.lim,S.lim0⟩
  exact {
    kin:=kin
    g:=⟨_,_,nG,nB,fun x v e=>HY S x v e⟩
    nolimit:=nL
    fi:=fun a i e=>Dk S a i e
    keep:=fun a e=>by
      rcases e with e|e|e
      · exact xx S a e
      · exact xx S a (hC a e)
      · refine bz (Option.isSome_iff_exists.mp e) fun f e=>?_
        exact(IJ S a f e).2
    cm:=NQ S
    cs:=Ot S
    ci:=fun a f e=>(IJ S a f e).1
    named:=ui w
    spec:=hS
    xc:=fun x D e=>by
      obtain rfl:=M1 e
      obtain⟨nm,q,N,bs,hdct,sn,sub,ab,col,dd,k0,k1,k2,k3,k5,hK⟩:=Jn S
      have z:=S.xcb
      unfold O5 at z
      simp only [Bool.and_eq_true,beq_iff_eq]at z
      exact Hu (Kt S) kin nL nG S.ex nB S.bx (kin _ _ hK) z.2
    nm:=Gs rfl
    low:=by
      refine bz S.sm fun o e=>?_
      exact⟨o,k _ o e (ig (by decide) (by decide))⟩
    lamP:=fun l hl=>by
      refine Qf ((ib S hl).1) fun o vs file tf flags tg inF text tt e r=>?_
      refine⟨o,vs,file,tf,flags,tg,inF,text,tt,k _ _ e ?_,r⟩
      have:l=⟨1189,1185,"ahead",779,47,"_law_read_right"⟩∨l=⟨1231,1227,"iset",833,22,"_law_refused"⟩:=by
        rcases List.mem_cons.mp hl with e|e
        · exact .inl e
        · exact .inr (List.mem_singleton.mp e)
      rcases this with rfl|rfl
      · exact ig (by decide) (by decide)
      · exact ig (by decide) (by decide)
    bm:=let ⟨bm,ob,h1,h2,h3,h4,h5,h6⟩:=hb;⟨_,bm,ob,nG,h1,h2,h3,h4,h5,h6⟩
    heard:=ur
    exc:=yr}
end
theorem gF{prog:Program}{w:World}{T:Nat→V}{base:Heap}{a:Addr}{m:Nat}{S S':bf}(x:c6 prog w T base a m S)(h:∀R as KV,S' as KV R→∃bs,cu T w as bs∧S bs (aU T w KV) R):c6 prog w T base a m S':=by
 intro B cx R as ras KV H frs s Q' EE k O hS I hout X hv an
 refine aq (h R as KV hS) fun bs hsm he=>?_
 exact x B cx R bs ras _ H frs s Q' EE k O he I hout X (hsm _ _ hv) fun v r ob' H' ρ' s' I' L' R' ⟨u,hu,hk⟩=>an u r ob' H' ρ' s' I' L' (hu _ _ R') hk
theorem uP{prog:Program}{w:World}{T:Nat→V}{base:Heap}{K:Frag}{P:ck→Prop}(G:∀c,P c→aI prog w T c K base){a:Addr}{i:af}{m:Nat}{Sp:bf}(hi:∀c,P c→c.FI a=some i)
  (h:∀R as KV,Sp as KV R→∃c,P c∧∃bs,cu T w as bs∧ao (ev {c with R:=R} m) i bs ⟨.nil,0⟩ (aV (aU T w KV))):c6 prog w T base a (m+1) Sp:=by
 intro B cx R as ras KV H frs s Q' EE k O hS I hout X hv an
 obtain⟨c,hc,bs,hsm,he⟩:=h R as KV hS
 exact aF (G c hc) (hi c hc) (Sp:=fun as' KV' R'=>as'=as∧R'=R∧KV'=KV) (fun R' as' KV' ⟨e1,e2,e3⟩=>by subst e1 e2 e3;exact⟨bs,hsm,he⟩) B cx R as ras KV H frs s Q' EE k O ⟨rfl,rfl,rfl⟩ I hout X hv an
end
structure Dc where
 P:Pf
 n:Nat
 d:Int
 is8:Bool
 w:Int
 md:Bool
 m:Int
 y:Int
noncomputable def Sx(p:Pf):V:=.inst 208 [(s0 "segment",.str false p.seg),(s0 "is_data",.bool true p.data),(s0 "repeat",.int true p.rep),(s0 "is_lock",.bool true p.lock),(s0 "rex",.int false p.rex)]
noncomputable def IH(D:Dc):bf:=fun as KV _=>d4 (eI yo dD as) fun xs a=>(0≤a∧few xs.length=true∧xs.length≤90∧rp xs a.toNat=some (D.P,D.n))∧KV (.tup [Sx D.P,.int false (Int.ofNat D.n)])
noncomputable def v9(m:Int):Bool:=match m==102 with
  |true=>true
  | false=>match m==242 with
    |true=>true
    |false=>m==243
noncomputable def Bk(D:Dc):bf:=fun as KV _=>A1 (Cr Ie dD dD dD as) fun _ m e o=>match e==0 with
  | true=>match m==0 with
    |true=>o=8*D.d+(match D.is8 with|true=>0|false=>1)∧KV (.list (match D.is8 with|true=>BK D.d|false=>AN D.d))
    | false=>match v9 m with
      |true=>o=8*D.d+(match D.is8 with|true=>0|false=>1)∧KV (.list [])
      |false=>False
  |false=>False
noncomputable def w7(D:Dc):bf:=fun as KV _=>mK (fY dD as) fun o=>o=D.P.rex∧KV (.tup [.int true D.w,.int false (aY o 4),.int false (aY o 2),.int false (aY o 1)])
noncomputable def mI(D:Dc):bf:=fun as KV _=>d4 (eI yo dD as) fun xs a=>match D.md with
  |true=>(0≤a∧few xs.length=true∧a.toNat+1 < xs.length∧aG xs a.toNat=D.m∧aG xs (a.toNat+1)=D.y)∧KV (.tup [.int true 1,.int false ((D.m.fdiv 8).fmod 8),.int false (D.m.fmod 8),.int true (-1),.int false (nV D.y),.int true 1,.int false (a+2)])
  |false=>(0≤a∧few xs.length=true∧a.toNat < xs.length∧aG xs a.toNat=D.m)∧KV (.tup [.int true 3,.int false ((D.m.fdiv 8).fmod 8),.int false (D.m.fmod 8),.int true (-1),.int true 0,.int true 0,.int false (a+1)])
noncomputable def Ld:List Str:=[s0 "begin",s0 "prefixes",s0 "code_at",s0 "w",s0 "r",s0 "x",s0 "b",s0 "escape",s0 "opcode",s0 "must",s0 "modrm_at",s0 "mod",s0 "reg",s0 "rm",s0 "sib",s0 "disp",s0 "width",s0 "rest_at"]
noncomputable def EV(v:V):Bool:=match dD v with
 |some _=>true
 |none=>false
noncomputable def zW(v:V):Int:=match dD v with
 |some x=>x
 |none=>0
noncomputable def Oa(v:V):Bool:=match v with
 |.inst C fs=>ay (Nat.beq C 964) (ay (mN fs Ld) (ay (EV (nI fs 7)) (EV (nI fs 8))))
 |_=>false
noncomputable def Ox(v:V):Int:=match v with
 |.inst _ fs=>zW (nI fs 8)
 |_=>0
noncomputable def Dt:bf:=fun as KV _=>d4 (eI some some as) fun _ fr=>Oa fr=true∧true=true∧(0≤Ox fr∧Ox fr < 56)∧KV (.bool true true)
noncomputable def iV(n size:Int)(b:Bool):Bool:=match size==8 with
  | true=>match b with
    |true=>false
    |false=>ay (decide (4≤n)) (decide (n < 8))
  |false=>false
noncomputable def HC(n size:Int)(b:Bool):V:=.inst 789 [(s0 "name",.str false (match iV n size b with|true=>gG n|false=>d5 n size)),(s0 "kind",.str false (match iV n size b with|true=>s0 "high"|false=>s0 "gpr")),(s0 "number",.int false n),(s0 "size",.int false size)]
noncomputable def Eb:bf:=fun as KV _=>uT (uL dD dD J8 as) fun n size b=>(0≤n∧n < 16)∧(size=8∨size=16∨size=32∨size=64)∧KV (HC n size b)
noncomputable def Jy(rm b disp size:Int)(seg:Str):V:=.inst 680 [(s0 "kind",.str true (s0 "mem")),(s0 "base",DA (d5 (rm+8*b) 64) (s0 "gpr") (rm+8*b) 64),(s0 "index",.none),(s0 "scale",.int true 1),(s0 "worth",.int false disp),(s0 "size",.int false size),(s0 "segment",.str false seg),(s0 "name",.str true (s0 ""))]
noncomputable def rU:List V→Option (List Int×Str)
  |[]=>none
  | a :: r=>match r with
    | []=>match H9 a with
      |some s=>some ([],s)
      |none=>none
    | _ :: _=>match dD a with
      | some x=>match rU r with
        |some p=>some (x::p.1,p.2)
        |none=>none
      |none=>none
noncomputable def SH(l:List Int):Int:=match Nat.beq l.length 7 with
 |true=>aG l 0
 |false=>0
noncomputable def DH:bf:=fun as KV _=>d4 (rU as) fun l seg=>SH l=1∧(0≤aG l 1∧aG l 1 < 8∧aG l 1≠4)∧(aG l 5=0∨aG l 5=1)∧KV (Jy (aG l 1) (aG l 5) (aG l 3) (aG l 6) seg)
noncomputable def Lb(D:Dc):Kk:=[(233,91,IH D),(1120,41,Bk D),(134,41,w7 D),(877,91,mI D),(884,91,DH),(987,41,Dt),(1001,91,Eb),(351,41,fV),(358,41,ir)]
noncomputable def CD(D:Dc)(a:Nat):Option (Nat×bf):=xS a (Lb D)
noncomputable def GG(D:Dc):ck:={gx with C:=CD D,NM:=wU}
noncomputable def Qw(p:Pf):V:=.tup [.str false p.seg,.bool false p.data,.int false p.rep,.bool false p.lock,.int false p.rex]
noncomputable def DZ:bf:=fun as KV _=>mK (fY HL as) fun xs=>xs.length≤6∧(∀p e,fA xs jN 0=some (p,e)→KV (.tup [Qw p,.int false (Int.ofNat e)]))∧(fA xs jN 0=none→KV .none)
noncomputable def dm:List Int→Prop
 |[]=>True
 |x::r=>(0≤x∧x < 256)∧dm r
noncomputable def o3(v:V):Option (List Int):=match v with
  |.irow _ xs=>some xs
  | .list vs=>match iR vs with
    |some l=>some (nY l)
    |none=>none
  |_=>none
noncomputable def d6:bf:=fun as KV _=>d4 (eI some some as) fun v u=>match o3 v with
    | some xs=>match o3 u with
      |some ah=>xs.length≤6∧ah.length≤3∧dm xs∧dm ah∧KV (.bool true true)
      |none=>False
    |none=>False
noncomputable def jH:bf:=fun as KV _=>d4 (eI some dD as) fun v _=>match o3 v with
  |some xs=>xs.length≤3∧∀ys:List Int,ys.Perm xs→KV (.irow false ys)
  |none=>False
noncomputable def d8:bf:=fun as KV _=>mK (fY HL as) fun xs=>xs.length≤63∧KV (.bool true true)
noncomputable def II:bf:=fun as KV R=>d4 (eI yo dD as) fun xs a=>(0≤a∧few xs.length=true∧xs.length≤90)∧(∀p e,rp xs a.toNat=some (p,e)→KV (.tup [nv p,.int false (Int.ofNat e)]))∧(rp xs a.toNat=none→R 83)
structure Ln where
 d:Int
 size:Int
 word:Str
 lock:Bool
 base:Int
 number:Int
 idle:Int
 has:Bool
 disp:Int
noncomputable def bI(b:Bool):Int:=match b with
 |true=>1
 |false=>0
noncomputable def Ln.rexv(L:Ln):Int:=64+8*bI (L.size==64)+4*L.number.fdiv 8+2*L.idle+L.base.fdiv 8
noncomputable def Ln.legacy(L:Ln):List Int:=jn L.word++(if L.size==16 then[102]else[])++(if L.lock then[240]else[])
noncomputable def Ln.rexl(L:Ln):List Int:=if L.has then[L.rexv]else[]
noncomputable def Ln.t0(L:Ln):Int:=8*L.d+bI (decide (8 < L.size))
noncomputable def Ln.t1(L:Ln):Int:=64+8*L.number.fmod 8+L.base.fmod 8
noncomputable def Ln.pf(L:Ln):Pf:=⟨L.word,L.size==16,0,L.lock,if L.has then L.rexv else -1⟩
structure Ln.Ok(L:Ln):Prop where
 d:0≤L.d∧L.d < 7
 size:L.size=8∨L.size=16∨L.size=32∨L.size=64
 word:L.word=s0 ""∨L.word=s0 "fs"∨L.word=s0 "gs"
 base:0≤L.base∧L.base < 16∧L.base.fmod 8≠4
 number:0≤L.number∧L.number < 16
 idle:L.idle=0∨L.idle=1
 has:L.has=false→L.rexv=64
 disp:0≤L.disp∧L.disp < 256
noncomputable def kC(n size:Int)(b:Bool):Str:=if size==8&&!b&&decide (4≤n)&&decide (n < 8)then gG n else d5 n size
noncomputable def kT(b:Bool):Str:=match b with
 |true=>s0 "lock"
 |false=>s0 ""
noncomputable def Mi(L:Ln):V:=.tup [.str false (bC L.d),.str false (kT L.lock),.tup [.tup [.str false (s0 "mem"),.str false (d5 L.base 64),.str false (s0 ""),.int false 1,.int false (L.disp - 256*bI (decide (127 < L.disp))),.int false L.size,.str false L.word,.str false (s0 "")],.tup [.str false (s0 "reg"),.str false (kC L.number L.size L.has)]]]
noncomputable def cZ(lg rx:List Int)(L:Ln):V:=.tup [.irow false lg,.irow false rx,.irow false [L.t0,L.t1,L.disp],Mi L]
noncomputable def pJ:bf:=fun as KV _=>mK (fY HL as) fun xs=>xs.length≤63∧∀L:Ln,L.Ok→
    ((L.legacy=[]→(L.rexl=[]→KV (cZ [] [] L))∧(∀r,L.rexl=[r]→KV (cZ [] [r] L)))∧
     (∀x,L.legacy=[x]→(L.rexl=[]→KV (cZ [x] [] L))∧(∀r,L.rexl=[r]→KV (cZ [x] [r] L))))∧
     (∀x y,L.legacy=[x,y]→(L.rexl=[]→KV (cZ [x,y] [] L))∧(∀r,L.rexl=[r]→KV (cZ [x,y] [r] L)))∧
     (∀x y z,L.legacy=[x,y,z]→(L.rexl=[]→KV (cZ [x,y,z] [] L))∧(∀r,L.rexl=[r]→KV (cZ [x,y,z] [r] L)))
noncomputable def z8:Kk:=(233,91,II)::(1176,91,DZ)::(1218,91,iZ)::G3
noncomputable def CB(a:Nat):Option (Nat×bf):=xS a z8
noncomputable def CC(a:Nat):Option (Nat×bf):=xS a ((1190,141,d6)::z8)
noncomputable def gm(l c l' c':Nat):Bool:=ay (Nat.beq l l') (Nat.beq c c')
noncomputable def JC (l c:Nat):Option JT:=match gm l c 788 22 with
  |true=>some .itemI
  | false => match gm l c 792 21 with
    |true=>some .itemS
    | false => match gm l c 793 23 with
      |true=>some .itemI
      | false => match gm l c 798 11 with
        |true=>some .itemI
        | false => match gm l c 799 24 with
          |true=>some .bit
          | false => match gm l c 799 50 with
            |true=>some .bit
            | false => match gm l c 799 76 with
              |true=>some .bit
              | false => match gm l c 818 29 with
                |true=>some .itemI
                | false=>match gm l c 819 21 with
                  |true=>some .itemS
                  | false=>match gm l c 826 14 with
                    |true=>some .itemI
                    | false=>match gm l c 830 11 with
                      |true=>some .itemS
                      |false=>none
noncomputable def Nk:ck:={gx with C:=CB,NM:=wU,J:=JC}
noncomputable def NK:ck:={gx with C:=CC,NM:=wU,J:=JC}
section
noncomputable def AV{α κ:Type}(f:α→κ)(l:List α):List κ:=@List.rec α (fun _=>List κ) [] (fun x _ r=>f x::r) l
noncomputable def BU{α κ:Type}(f:α→κ)(l:List α):List κ:=@List.rec α (fun _=>List κ) [] (fun x _ r=>f x::r) l
theorem gX{α κ:Type}{f g:α→κ}{l:List α}(h:AV f l=BU g l):∀x,x∈l→f x=g x:=by
  intro x m
  induction l with
  |nil=>cases m
  | cons a r ih=>
    have h:f a::AV f r=g a::BU g r:=h
    cases m with
    |head=>exact(List.cons.inj h).1
    |tail _ m=>exact ih (List.cons.inj h).2 m
noncomputable def zx{α β:Type}(l:List α)(r:List β):List (α×β):=l.flatMap fun a=>r.map fun b=>(a,b)
theorem hU{α β:Type}{l:List α}{r:List β}{a:α}{b:β}(h:a∈l)(k:b∈r):(a,b)∈zx l r:=List.mem_flatMap.mpr ⟨a,h,List.mem_map.mpr ⟨b,k,rfl⟩⟩
theorem mD{α β κ:Type}{f g:α→β→κ}{l:List α}{r:List β}(h:AV (fun p=>f p.1 p.2) (zx l r)=BU (fun p=>g p.1 p.2) (zx l r)):∀x y,x∈l→y∈r→f x y=g x y:=
 fun x y m n=>gX (f:=fun p:α×β=>f p.1 p.2) (g:=fun p=>g p.1 p.2) h (x,y) (hU m n)
theorem jY{α β γ κ:Type}{f g:α→β→γ→κ}{l:List α}{r:List β}{t:List γ}(h:AV (fun p=>f p.1 p.2.1 p.2.2) (zx l (zx r t))=BU (fun p=>g p.1 p.2.1 p.2.2) (zx l (zx r t))):∀x y z,x∈l→y∈r→z∈t→f x y z=g x y z:=
 fun x y z m n o=>gX (f:=fun p:α×β×γ=>f p.1 p.2.1 p.2.2) (g:=fun p=>g p.1 p.2.1 p.2.2) h (x,y,z) (hU m (hU n o))
theorem qT{α β γ δ κ:Type}{f g:α→β→γ→δ→κ}{l:List α}{r:List β}{t:List γ}{u:List δ}(h:AV (fun p=>f p.1 p.2.1 p.2.2.1 p.2.2.2) (zx l (zx r (zx t u)))=BU (fun p=>g p.1 p.2.1 p.2.2.1 p.2.2.2) (zx l (zx r (zx t u)))):∀x y z v,x∈l→y∈r→z∈t→v∈u→f x y z v=g x y z v:=
 fun x y z v m n o q=>gX (f:=fun p:α×β×γ×δ=>f p.1 p.2.1 p.2.2.1 p.2.2.2) (g:=fun p=>g p.1 p.2.1 p.2.2.1 p.2.2.2) h (x,y,z,v) (hU m (hU n (hU o q)))
noncomputable def Jj(i k:Nat):List Int:=@Nat.rec (fun _=>Nat→List Int) (fun _=>[]) (fun _ r i=>Int.ofNat i::r (i+1)) k i
theorem Er{k:Nat}:∀{i n:Nat},i≤n→n < i+k→Int.ofNat n∈Jj i k:=by
  induction k with
  |zero=>intro i n h1 h2;exact absurd h1 (Nat.not_le_of_lt h2)
  | succ k ih=>
    intro i n h1 h2
    rcases Nat.eq_or_lt_of_le h1 with e|e
    · rw[e];exact .head _
    · exact .tail _ (ih e (by rw[Nat.succ_add];exact h2))
theorem BY{i k:Nat}{n:Int}(h1:Int.ofNat i≤n)(h2:n < Int.ofNat (i+k)):n∈Jj i k:=by
 cases n with
 |ofNat n=>exact Er (Int.ofNat_le.mp h1) (Int.ofNat_lt.mp h2)
 |negSucc n=>exact absurd (Int.le_trans (Int.natCast_nonneg i) h1) (Int.not_le.mpr (Int.negSucc_lt_zero n))
theorem fZ{k:Nat}{n:Int}(h1:0≤n)(h2:n < Int.ofNat k):n∈Jj 0 k:=BY h1 (by rw[Nat.zero_add];exact h2)
section
variable {α:Type}{x a b c d e f g:α}{p:Prop}{l:List α}
theorem Lu(h:x=a∨p)(k:p→x∈l):x∈a::l:=List.mem_cons.mpr (h.imp_right k)
theorem in1(h:x=a):x∈[a]:=List.mem_singleton.mpr h
theorem zV(h:x=a∨x=b):x∈[a,b]:=Lu h in1
theorem z0(h:x=a∨x=b∨x=c):x∈[a,b,c]:=Lu h zV
theorem Sy(h:x=a∨x=b∨x=c∨x=d):x∈[a,b,c,d]:=Lu h z0
theorem Th(h:x=a∨x=b∨x=c∨x=d∨x=e∨x=f∨x=g):x∈[a,b,c,d,e,f,g]:=Lu h fun h=>Lu h fun h=>Lu h Sy
theorem rM(b:Bool):b∈[true,false]:=by cases b with|true=>exact .head _|false=>exact .tail _ (.head _)
end
end
noncomputable def GP(x:Int):Bool:=dy (fun y=>fB 8 y (.int x)) [.int 38,.int 46,.int 54,.int 62,.int 103]
noncomputable def BR(x:Int)(a b c d e f g h:Prop):Prop:=aZ false (x==100) a (aZ false (x==101) b (aZ false (x==102) c (aZ false (x==243) d (aZ false (x==242) e (aZ false (x==240) f (aZ false (GP x) g h))))))
theorem uh(R:Addr→Prop)(KU:V→Prop)(x:Int):ao (ev {gx with R:=R} 40) Gf [.int false x] ⟨.nil,0⟩ (aV KU) =
  BR x (KU (.str true (s0 "segment"))) (KU (.str true (s0 "segment"))) (KU (.str true (s0 "data"))) (KU (.str true (s0 "repeat"))) (KU (.str true (s0 "repeat"))) (KU (.str true (s0 "lock"))) (KU (.str true (s0 "barred"))) (KU (.str true (s0 ""))):=by kernel_rfl
theorem kF{x:Int}:GP x=(x==38||x==46||x==54||x==62||x==103):=by
 unfold GP
 rw[lG]
 simp only [List.any_cons,List.any_nil,Bool.or_false]
 have c:∀a:Int,fB 8 (.int a) (.int x)=(x==a):=fun a=>Bool.beq_comm
 rw[c,c,c,c,c]
 simp only [Bool.or_assoc]
theorem tG(x:Int):aT x=if x==100||x==101 then .seg else if x==102 then .data else if x==242||x==243 then .rep else if x==240 then .lock else if GP x then .barred else .none:=by rw[kF];rfl
theorem sj{x:Int}{a b c d e f g h:Prop}(ha:x=100→aT x=.seg→a)(hb:x=101→aT x=.seg→b)(hc:x=102→aT x=.data→c)(hd:x=243→aT x=.rep→d)(he:x=242→aT x=.rep→e)(hf:x=240→aT x=.lock→f)(hg:aT x=.barred→g)(hh:aT x=.none→h):BR x a b c d e f g h:=
 ⟨fun q=>ha (eq_of_beq q) (by rw[eq_of_beq q];rfl),fun e1=>⟨fun q=>hb (eq_of_beq q) (by rw[eq_of_beq q];rfl),fun e2=>⟨fun q=>hc (eq_of_beq q) (by rw[eq_of_beq q];rfl),fun e3=>⟨fun q=>hd (eq_of_beq q) (by rw[eq_of_beq q];rfl),fun e4=>⟨fun q=>he (eq_of_beq q) (by rw[eq_of_beq q];rfl),fun e5=>⟨fun q=>hf (eq_of_beq q) (by rw[eq_of_beq q];rfl),fun e6=>
  ⟨fun q=>hg (by rw[tG,e1,e2,e3,e4,e5,e6,q];rfl),fun q=>hh (by rw[tG,e1,e2,e3,e4,e5,e6,q];rfl)⟩⟩⟩⟩⟩⟩⟩
theorem yD(T:Nat→V)(w:World):∀R as KV,j4 as KV R→∃bs,cu T w as bs∧ao (ev {gx with R:=R} 40) Gf bs ⟨.nil,0⟩ (aV (aU T w KV)):=by
 intro R as KV h
 replace h:=dI h
 obtain⟨k,x,rfl,h⟩:=h
 refine⟨[.int false x],(aS.cons .int .nil).same,?_⟩
 rw[uh]
 have out:∀{s:Cm},aT x=s→aU T w KV (.str true (kI s)):=fun e=>⟨_,aP.same .str,e▸h⟩
 exact sj (fun _ e=>out e) (fun _ e=>out e) (fun _ e=>out e) (fun _ e=>out e) (fun _ e=>out e) (fun _ e=>out e) (fun e=>out e) (fun e=>out e)
section
theorem kj{a b:Bool}(h:ay a b=true):a=true∧b=true:=by
 cases a
 ·cases h
 ·exact⟨rfl,h⟩
theorem BA{v:V}{x:Str}(h:H9 v=some x):aP v (.str false x):=(u6 h).elim fun k e=>e▸.str
theorem q8{v:V}{x:Bool}(h:J8 v=some x):aP v (.bool false x):=(Ay h).elim fun k e=>e▸.bool
theorem su{v:V}{x:Int}(h:dD v=some x):aP v (.int false x):=(cb h).elim fun k e=>e▸.int
theorem KS{fs:List (Str×V)}{p:Pf}(h:Sj fs=some p):aS [nI fs 0,nI fs 1,nI fs 2,nI fs 3,nI fs 4] [.str false p.seg,.bool false p.data,.int false p.rep,.bool false p.lock,.int false p.rex]:=
 au h fun u q h=>by
  have q2:=bk (bk q).2
  have q3:=bk q2.2
  have q4:=bk q3.2
  rw[←ae h]
  exact .cons (BA (bk q).1) (.cons (q8 q2.1) (.cons (su q3.1) (.cons (q8 q4.1) (.cons (su q4.2) .nil))))
theorem ow(ns:List Str):∀{vs us:List V},aS vs us→rV (ns.zip vs) (ns.zip us):=by
  induction ns with
  |nil=>exact fun _=>.nil
  | cons n s ih=>
    intro vs us h
    cases h with
    |nil=>exact .nil
    |cons a b=>exact .cons a (ih b)
theorem Pk{vs:List V}(h:vs.length=5):vs=[nI (KG.zip vs) 0,nI (KG.zip vs) 1,nI (KG.zip vs) 2,nI (KG.zip vs) 3,nI (KG.zip vs) 4]:=by
 refine aW (da h) fun a v1 rq2 h1=>?_;subst rq2
 refine aW (da h1) fun b v2 rq2 h2=>?_;subst rq2
 refine aW (da h2) fun c v3 rq2 h3=>?_;subst rq2
 refine aW (da h3) fun d v4 rq2 h4=>?_;subst rq2
 refine aW (da h4) fun e v5 rq2 h5=>?_;subst rq2
 rw[Cy h5];rfl
theorem jS{v:V}{p:Pf}(h:F0 v=some p):aP v (nv p):=
 au h fun q e h=>bQ h fun b h=>ar b fun q1 q2=>by
  have n:=lN q2
  have l:=KS h
  have n1:=n.1
  have f:=Pk n.2
  rw[←n1]at f
  rw[←f]at l
  rw[MQ e,show q.1=208 from Nat.eq_of_beq_eq_true q1,n1]
  exact .inst (ow KG l)
noncomputable def Lr(ks:Bool)(s:Str)(kd d kr:Bool)(r:Int)(kl l kx:Bool)(x:Int):V:=.inst 208 [(s0 "segment",.str ks s),(s0 "is_data",.bool kd d),(s0 "repeat",.int kr r),(s0 "is_lock",.bool kl l),(s0 "rex",.int kx x)]
noncomputable def Dn(R83:Prop)(p:Pf)(c:Bool)(Z:Prop):Prop:=aZ false (decide (0≤p.rex)) R83 (aZ false c R83 Z)
noncomputable def B4(R83:Prop)(p:Pf)(c d:Bool)(Z:Prop):Prop:=aZ false (decide (0≤p.rex)) R83 (aZ false c R83 (aZ false d R83 Z))
noncomputable def ud(R:Addr→Prop)(KU:V→Prop)(x:Int)(p:Pf):Prop:=Dn (R 83) p (bW (aE p.seg (s0 ""))) (aZ false (x==100) (KU (Lr true (s0 "fs") false p.data false p.rep false p.lock true (-1))) (KU (Lr true (s0 "gs") false p.data false p.rep false p.lock true (-1))))
noncomputable def v7(R:Addr→Prop)(KU:V→Prop)(x:Int)(p:Pf):Prop:=B4 (R 83) p (p.rep != 0) p.lock (KU (Lr false p.seg false p.data false x true false true (-1)))
noncomputable def pM(R:Addr→Prop)(KU:V→Prop)(p:Pf):Prop:=B4 (R 83) p p.lock (p.rep != 0) (KU (Lr false p.seg false p.data true 0 true true true (-1)))
theorem nk(R:Addr→Prop)(KU:V→Prop)(x:Int)(p:Pf):ao (ev {gx with R:=R} 40) Gr [nv p,.int false x] ⟨.nil,0⟩ (aV KU) =
  BR x (ud R KU x p) (ud R KU x p) (Dn (R 83) p p.data (KU (Lr false p.seg true true false p.rep false p.lock true (-1)))) (v7 R KU x p) (v7 R KU x p) (pM R KU p) (R 83) (pM R KU p):=by kernel_rfl
theorem gH{ks kd kr kl kx:Bool}{p:Pf}:aP (Lr ks p.seg kd p.data kr p.rep kl p.lock kx p.rex) (nv p):=.inst (.cons .str (.cons .bool (.cons .int (.cons .bool (.cons .int .nil)))))
section
variable {R83 Z:Prop}{p:Pf}{x:Int}{c d:Bool}{q:Option Pf}{r:Pf}
theorem sR(e:q=if 0≤p.rex then none else if c then none else some r)(h2:q=none→R83)(z:q=some r→Z):Dn R83 p c Z:=
 ⟨fun a=>h2 (by rw[e,if_pos (of_decide_eq_true a)]),fun a=>⟨fun b=>h2 (by rw[e,if_neg (of_decide_eq_false a),if_pos b]),fun b=>z (by rw[e,if_neg (of_decide_eq_false a),b];rfl)⟩⟩
theorem sU(e:q=if 0≤p.rex then none else if c||d then none else some r)(h2:q=none→R83)(z:q=some r→Z):B4 R83 p c d Z:=
 ⟨fun a=>h2 (by rw[e,if_pos (of_decide_eq_true a)]),fun a=>⟨fun b=>h2 (by rw[e,if_neg (of_decide_eq_false a),b];rfl),fun b=>⟨fun b'=>h2 (by rw[e,if_neg (of_decide_eq_false a),b,b'];rfl),fun b'=>z (by rw[e,if_neg (of_decide_eq_false a),b,b'];rfl)⟩⟩⟩
end
theorem JY{p:Pf}:bW (aE p.seg (s0 ""))=(p.seg != s0 ""):=by rw[cA];show bW (p.seg==s0 "")=!(p.seg==s0 "");cases p.seg==s0 "" <;> rfl
theorem Ao{p:Pf}{x:Int}(e:aT x=.seg):dn p x=if 0≤p.rex then none else if p.seg != s0 "" then none else some {p with seg:=if x==100 then s0 "fs" else s0 "gs",rex:=-1}:=by unfold dn;rw[e]
theorem DT{p:Pf}{x:Int}(e:aT x=.rep):dn p x=if 0≤p.rex then none else if p.rep != 0||p.lock then none else some {p with rep:=x,lock:=false,rex:=-1}:=by unfold dn;rw[e]
theorem yn{p:Pf}{x:Int}(e:aT x=.data):dn p x=if 0≤p.rex then none else if p.data then none else some {p with data:=true,rex:=-1}:=by unfold dn;rw[e]
theorem nA(T:Nat→V)(w:World):∀R as KV,fu as KV R→∃bs,cu T w as bs∧ao (ev {gx with R:=R} 40) Gr bs ⟨.nil,0⟩ (aV (aU T w KV)):=by
 intro R as KV h
 replace h:=Q7 h
 obtain⟨v,k,x,rfl,h⟩:=h
 refine aB h fun p hp h=>⟨[nv p,.int false x],(aS.cons (jS hp) (.cons .int .nil)).same,?_⟩
 rw[nk]
 have out:∀{v:V} {q:Pf},aP v (nv q)→dn p x=some q→aU T w KV v:=fun l e=>⟨_,l.same,h.1 _ e⟩
 have seg:aT x=.seg→ud R (aU T w KV) x p:=fun e=>sR (q:=dn p x) (r:={p with seg:=if x==100 then s0 "fs" else s0 "gs",rex:=-1}) (by rw[JY,Ao e]) h.2 fun q=>⟨fun b=>out (by rw[b];exact gH (p:={p with seg:=s0 "fs",rex:=-1})) q,fun b=>out (by rw[b];exact gH (p:={p with seg:=s0 "gs",rex:=-1})) q⟩
 have rep:aT x=.rep→v7 R (aU T w KV) x p:=fun e=>sU (DT e) h.2 (out (gH (p:={p with rep:=x,lock:=false,rex:=-1})))
 have lock:dn p x=(if 0≤p.rex then none else if p.lock||p.rep != 0 then none else some {p with rep:=0,lock:=true,rex:=-1})→pM R (aU T w KV) p:=fun e=>sU e h.2 (out (gH (p:={p with rep:=0,lock:=true,rex:=-1})))
 exact sj (fun _ e=>seg e) (fun _ e=>seg e) (fun _ e=>sR (yn e) h.2 (out (gH (p:={p with data:=true,rex:=-1})))) (fun _ e=>rep e) (fun _ e=>rep e) (fun _ e=>lock (by unfold dn;rw[e])) (fun e=>h.2 (by unfold dn;rw[e])) (fun e=>lock (by unfold dn;rw[e]))
end
noncomputable abbrev gf(R:Addr→Prop):Ev:=ev {gx with R:=R} 40
noncomputable def MT(name kind:Str)(n size:Int):V:=.inst 789 [(s0 "name",.str true name),(s0 "kind",.str true kind),(s0 "number",.int true n),(s0 "size",.int true size)]
theorem JN(R:Addr→Prop)(KU:V→Prop){n size:Int}(h1:0≤n)(h2:n < 16)(hs:size=8∨size=16∨size=32∨size=64):ao (gf R) Hs [.int true n,.int true size] ⟨.nil,0⟩ (aV KU)=KU (MT (d5 n size) (s0 "gpr") n size):=by
 have k1:=fZ (k:=16) h1 h2;have k2:=Sy hs;clear h1 h2 hs;revert n size k1 k2
 exact@(mD (by kernel_rfl))
theorem MV(T:Nat→V)(w:World):∀R as KV,AE as KV R→∃bs,cu T w as bs∧ao (gf R) Hs bs ⟨.nil,0⟩ (aV (aU T w KV)):=by
 intro R as KV h
 replace h:=Te h
 obtain⟨_,_,_,_,rfl,h⟩:=h
 obtain⟨⟨h1,h2⟩,hs,hk⟩:=h
 refine⟨[.int true _,.int true _],(aS.cons .int (.cons .int .nil)).same,?_⟩
 rw[JN R _ h1 h2 hs]
 exact⟨_,aP.same (.inst (.cons .str (.cons .str (.cons .int (.cons .int .nil))))),hk⟩
theorem Fq(R:Addr→Prop)(KU:V→Prop){n:Int}(h1:4≤n)(h2:n < 8):ao (gf R) EX [.int true n] ⟨.nil,0⟩ (aV KU)=KU (MT (gG n) (s0 "high") n 8):=by
 have k1:=BY (i:=4) (k:=4) h1 h2;clear h1 h2;revert n k1
 exact@(gX (by kernel_rfl))
theorem Jd(T:Nat→V)(w:World):∀R as KV,wa as KV R→∃bs,cu T w as bs∧ao (gf R) EX bs ⟨.nil,0⟩ (aV (aU T w KV)):=by
 intro R as KV h
 replace h:=dI h
 obtain⟨_,_,rfl,h⟩:=h
 obtain⟨⟨h1,h2⟩,hk⟩:=h
 refine⟨[.int true _],(aS.cons .int .nil).same,?_⟩
 rw[Fq R _ h1 h2]
 exact⟨_,aP.same (.inst (.cons .str (.cons .str (.cons .int (.cons .int .nil))))),hk⟩
theorem Ga(R:Addr→Prop)(KU:V→Prop)(xs:List Int){k:Int}(h1:0≤k)(h2:k < 18):ao (gf R) wq [.irow false xs,.int true k] ⟨.nil,0⟩ (aV KU)=(few xs.length=true∧(decide (k < Int.ofNat xs.length)=true→z7 k.toNat xs.length=true∧few xs.length=true∧KU (.int false ((aG xs k.toNat).fmod 18446744073709551616)))∧
  (decide (k < Int.ofNat xs.length)=false→few xs.length=true∧KU (.int false (((6151*k*k+98317*k+53*Int.ofNat xs.length)+7).fmod 64901)))):=by
 have k1:=fZ (k:=18) h1 h2;clear h1 h2;revert k k1
 exact@(gX (by kernel_rfl))
theorem c0{n:Nat}(h:n≤1000):few n=true:=Nat.ble_eq_true_of_le h
theorem aQ(a:Int){n:Int}(h:0 < n):0≤a.fmod n:=by rw[Int.fmod_eq_emod_of_nonneg a (by lia)];exact Int.emod_nonneg a (by lia)
theorem JR(T:Nat→V)(w:World):∀R as KV,lM as KV R→∃bs,cu T w as bs∧ao (gf R) wq bs ⟨.nil,0⟩ (aV (aU T w KV)):=by
 intro R as KV h
 replace h:=S7 h
 obtain⟨_,xs,_,k,rfl,h⟩:=h
 obtain⟨hl,⟨h1,h2⟩,hk⟩:=h
 refine⟨[.irow false xs,.int true k],(aS.cons .irow (.cons .int .nil)).same,?_⟩
 rw[Ga R _ xs h1 h2]
 have hf:=c0 (n:=xs.length) (by lia)
 refine⟨hf,fun e=>⟨?_,hf,_,aP.same .refl,hk _ (aQ _ (by decide))⟩,fun _=>⟨hf,_,aP.same .refl,hk _ (aQ _ (by decide))⟩⟩
 rw[decide_eq_true_eq]at e
 show Nat.blt _ _=true
 rw[Nat.blt_eq]
 have:Int.ofNat xs.length=(xs.length:Int):=rfl
 lia
theorem pS(R:Addr→Prop)(KU:V→Prop){x y z t:Int}(h1:x=0∨x=1)(h2:y=0∨y=1)(h3:z=0∨z=1)(h4:t=0∨t=1):ao (gf R) FK [.int true x,.int true y,.int true z,.int true t] ⟨.nil,0⟩ (aV KU)=KU (.int true (64+8*x+4*y+2*z+t)):=by
 have k1:=zV h1;have k2:=zV h2;have k3:=zV h3;have k4:=zV h4;clear h1 h2 h3 h4;revert x y z t k1 k2 k3 k4
 exact@(qT (by kernel_rfl))
theorem xr{x:Int}(h:0≤x∧x≤1):x=0∨x=1:=by lia
theorem sd(T:Nat→V)(w:World):∀R as KV,gB as KV R→∃bs,cu T w as bs∧ao (gf R) FK bs ⟨.nil,0⟩ (aV (aU T w KV)):=by
 intro R as KV h
 replace h:=Od h
 obtain⟨_,_,_,_,_,_,_,_,rfl,h⟩:=h
 refine t7 h fun h1 h2 h3 h4 hk=>?_
 refine⟨[.int true _,.int true _,.int true _,.int true _],(aS.cons .int (.cons .int (.cons .int (.cons .int .nil)))).same,?_⟩
 rw[pS R _ (xr h1) (xr h2) (xr h3) (xr h4)]
 exact⟨_,aP.same .int,hk⟩
theorem sx(R:Addr→Prop)(KU:V→Prop)(x:Int):ao (gf R) FL [.int false x] ⟨.nil,0⟩ (aV KU)=((decide (x < 0)=true→KU (.tup [.int true 0,.int true 0,.int true 0,.int true 0]))∧
  (decide (x < 0)=false→KU (.tup [.int false ((x.fdiv 8).fmod 2),.int false ((x.fdiv 4).fmod 2),.int false ((x.fdiv 2).fmod 2),.int false (x.fmod 2)]))):=by kernel_rfl
theorem tY(T:Nat→V)(w:World):∀R as KV,i7 as KV R→∃bs,cu T w as bs∧ao (gf R) FL bs ⟨.nil,0⟩ (aV (aU T w KV)):=by
 intro R as KV h
 replace h:=dI h
 obtain⟨_,x,rfl,h⟩:=h
 refine⟨[.int false x],(aS.cons .int .nil).same,?_⟩
 rw[sx]
 refine⟨fun e=>⟨.tup [.int false 0,.int false 0,.int false 0,.int false 0],aP.same (.tup (.cons .int (.cons .int (.cons .int (.cons .int .nil))))),?_⟩,fun e=>⟨_,aP.same .refl,?_⟩⟩
 ·have e:=of_decide_eq_true e
  have:∀k,aY x k=0:=fun k=>by unfold aY;rw[if_pos e]
  rw[this,this,this,this]at h;exact h
 ·have e:=of_decide_eq_false e
  have:∀k,aY x k=(x.fdiv k).fmod 2:=fun k=>by unfold aY;rw[if_neg e]
  rw[this,this,this,this,Int.fdiv_one]at h;exact h
theorem qY(R:Addr→Prop)(KU:V→Prop)(p:Pf)(x:Int):ao (gf R) FC [nv p,.int false x] ⟨.nil,0⟩ (aV KU)=KU (nv {p with rex:=x}):=by kernel_rfl
theorem vz(T:Nat→V)(w:World):∀R as KV,i4 as KV R→∃bs,cu T w as bs∧ao (gf R) FC bs ⟨.nil,0⟩ (aV (aU T w KV)):=by
 intro R as KV h
 replace h:=Q7 h
 obtain⟨v,k,x,rfl,h⟩:=h
 refine aB h fun p hp h=>⟨[nv p,.int false x],(aS.cons (jS hp) (.cons .int .nil)).same,?_⟩
 rw[qY]
 exact⟨_,aP.same .refl,h⟩
theorem zI(R:Addr→Prop)(KU:V→Prop)(m:Int):ao (gf R) Fy [.int false m] ⟨.nil,0⟩ (aV KU)=KU (.tup [.int false (m.fdiv 64),.int false ((m.fdiv 8).fmod 8),.int false (m.fmod 8)]):=by kernel_rfl
theorem Ej(T:Nat→V)(w:World):∀R as KV,lK as KV R→∃bs,cu T w as bs∧ao (gf R) Fy bs ⟨.nil,0⟩ (aV (aU T w KV)):=by
 intro R as KV h
 replace h:=dI h
 obtain⟨k,m,rfl,h⟩:=h
 refine jD h fun h0 h1 h2=>?_
 refine⟨[.int false m],(aS.cons .int .nil).same,?_⟩
 rw[zI]
 rcases h0 with h0|h0
 ·have e:m.fdiv 64=1:=by rw[Int.fdiv_eq_ediv_of_nonneg _ (by lia)];lia
  rw[e]
  exact⟨_,aP.same (.tup (.cons (.int (k':=true)) (.cons .refl (.cons .refl .nil)))),h1 (by lia)⟩
 ·have e:m.fdiv 64=3:=by rw[Int.fdiv_eq_ediv_of_nonneg _ (by lia)];lia
  rw[e]
  exact⟨_,aP.same (.tup (.cons (.int (k':=true)) (.cons .refl (.cons .refl .nil)))),h2 (by lia)⟩
theorem tJ(R:Addr→Prop)(KU:V→Prop)(xs:List Int)(a:Int):ao (gf R) Gk [.bytes false xs,.int false a] ⟨.nil,0⟩ (aV KU)=(few xs.length=true∧(decide (Int.ofNat xs.length≤a)=true→R 83)∧(decide (Int.ofNat xs.length≤a)=false→decide (0≤a)=true∧z7 a.toNat xs.length=true∧few xs.length=true∧KU (.int false (aG xs a.toNat)))):=by kernel_rfl
theorem tU(T:Nat→V)(w:World):∀R as KV,i8 as KV R→∃bs,cu T w as bs∧ao (gf R) Gk bs ⟨.nil,0⟩ (aV (aU T w KV)):=by
 intro R as KV h
 replace h:=LB h
 obtain⟨_,xs,_,a,rfl,h⟩:=h
 refine ym h fun h1 h2 h3 hk=>?_
 refine⟨[.bytes false xs,.int false a],(aS.cons .bytes (.cons .int .nil)).same,?_⟩
 rw[tJ]
 have:Int.ofNat xs.length=(xs.length:Int):=rfl
 refine⟨h1,fun e=>?_,fun _=>⟨decide_eq_true h2,?_,h1,_,aP.same .refl,hk⟩⟩
 ·have e:=of_decide_eq_true e
  lia
 ·show Nat.blt _ _=true
  rw[Nat.blt_eq];exact h3
theorem JZ(R:Addr→Prop)(KU:V→Prop)(y:Int):ao (gf R) Fm [.bytes true [y]] ⟨.nil,0⟩ (aV KU)=(small y.natAbs=true∧
  (((Builtin.bitAnd (Builtin.bitOr 0 (y*1)) (Int.ofNat 255)).fdiv (2 ^ 7)==1)=true→KU (.int false (Builtin.bitAnd (Builtin.bitOr 0 (y*1)) (Int.ofNat 255) - Int.ofNat 256)))∧
  (((Builtin.bitAnd (Builtin.bitOr 0 (y*1)) (Int.ofNat 255)).fdiv (2 ^ 7)==1)=false→KU (.int false (Builtin.bitAnd (Builtin.bitOr 0 (y*1)) (Int.ofNat 255))))):=by kernel_rfl
theorem FE:∀n:Fin 256,Builtin.bitAnd (Builtin.bitOr 0 ((n.val:Int)*1)) (Int.ofNat 255)=n.val:=by decide +kernel
theorem My(T:Nat→V)(w:World):∀R as KV,Cf as KV R→∃bs,cu T w as bs∧ao (gf R) Fm bs ⟨.nil,0⟩ (aV (aU T w KV)):=by
 intro R as KV h
 replace h:=dY h
 obtain⟨_,_,rfl,h⟩:=h
 obtain⟨y,rfl,h1,h2,hk⟩:=h
 refine⟨[.bytes true [y]],(aS.cons .bytes .nil).same,?_⟩
 rw[JZ]
 obtain⟨n,rfl⟩:=Int.eq_ofNat_of_zero_le h1
 have e:=FE ⟨n,by lia⟩
 rw[e]
 have p:(2:Int) ^ 7=128:=by decide
 have d:((n:Int).fdiv (2 ^ 7)==1)=decide (127 < (n:Int)):=by
  rw[p,Int.fdiv_eq_ediv_of_nonneg _ (by lia)]
  rw[Bool.eq_iff_iff,beq_iff_eq,decide_eq_true_eq]
  lia
 show _∧(((n:Int).fdiv (2 ^ 7)==1)=true→_)∧(((n:Int).fdiv (2 ^ 7)==1)=false→_)
 rw[d]
 unfold nV at hk
 refine⟨?_,fun e=>⟨_,aP.same .refl,?_⟩,fun e=>⟨_,aP.same .refl,?_⟩⟩
 ·show Nat.blt _ _=true
  rw[Nat.blt_eq];simp only [Int.natAbs_natCast];lia
 ·rw[if_pos (of_decide_eq_true e)]at hk;exact hk
 ·rw[if_neg (of_decide_eq_false e)]at hk;exact hk
theorem K8(x:Int)(l:List Int):dy (fun y=>fB 8 y (PyData.int x)) (l.map PyData.int)=l.any (fun a=>a==x):=by
 rw[lG,List.any_map];rfl
theorem tB(R:Addr→Prop)(KU:V→Prop)(x:Int):ao (gf R) wA [.int false x] ⟨.nil,0⟩ (aV KU)=(
  aZ false (dy (fun y=>fB 8 y (.int x)) ([100,101].map PyData.int)) (KU (.str true (s0 "segment"))) (aZ false (dy (fun y=>fB 8 y (.int x)) ([242,243].map PyData.int)) (KU (.str true (s0 "repeat")))
   (aZ false (dy (fun y=>fB 8 y (.int x)) ([38,46,54,62,103].map PyData.int)) (KU (.str true (s0 "barred"))) (aZ false (decide (64≤x)) (aZ false (decide (x < 80)) (aZ false (x==102) (KU (.str true (s0 "data"))) (aZ false (x==240) (KU (.str true (s0 "lock"))) (KU (.str true (s0 "rex")))))
     (aZ false (x==102) (KU (.str true (s0 "data"))) (aZ false (x==240) (KU (.str true (s0 "lock"))) (KU (.str true (s0 ""))))))
     (aZ false (x==102) (KU (.str true (s0 "data"))) (aZ false (x==240) (KU (.str true (s0 "lock"))) (KU (.str true (s0 ""))))))))):=by kernel_rfl
theorem Nu(x a b:Int):dy (fun y=>fB 8 y (PyData.int x)) ([a,b].map PyData.int)=(x==a||x==b):=by
 rw[K8,Bool.beq_comm (a:=x) (b:=a),Bool.beq_comm (a:=x) (b:=b),←Bool.or_false (b==x)];rfl
theorem Rc{x:Int}:dy (fun y=>fB 8 y (PyData.int x)) ([38,46,54,62,103].map PyData.int)=(x==38||x==46||x==54||x==62||x==103):=kF
theorem rX{b1 b2 b3 b4 b5 b6 b7:Bool}{s:L7}{M:L7→Prop}(hs:s=if b1 then .seg else if b2 then .rep else if b3 then .barred else if b4 then .data else if b5 then .lock else if b6&&b7 then .rex else .none)(h:∀l,s=l→M l) :
  aZ false b1 (M .seg) (aZ false b2 (M .rep) (aZ false b3 (M .barred) (aZ false b6 (aZ false b7 (aZ false b4 (M .data) (aZ false b5 (M .lock) (M .rex))) (aZ false b4 (M .data) (aZ false b5 (M .lock) (M .none)))) (aZ false b4 (M .data) (aZ false b5 (M .lock) (M .none)))))):=
 ⟨fun e=>h _ (by rw[hs,e];rfl),fun e1=>⟨fun e=>h _ (by rw[hs,e1,e];rfl),fun e2=>⟨fun e=>h _ (by rw[hs,e1,e2,e];rfl),fun e3=>⟨fun e6=>⟨fun e7=>⟨fun e=>h _ (by rw[hs,e1,e2,e3,e];rfl),fun e4=>⟨fun e=>h _ (by rw[hs,e1,e2,e3,e4,e];rfl),fun e=>h _ (by rw[hs,e1,e2,e3,e4,e,e6,e7];rfl)⟩⟩,fun e7=>⟨fun e=>h _ (by rw[hs,e1,e2,e3,e];rfl),fun e4=>⟨fun e=>h _ (by rw[hs,e1,e2,e3,e4,e];rfl),fun e=>h _ (by rw[hs,e1,e2,e3,e4,e,e6,e7];rfl)⟩⟩⟩,
  fun e6=>⟨fun e=>h _ (by rw[hs,e1,e2,e3,e];rfl),fun e4=>⟨fun e=>h _ (by rw[hs,e1,e2,e3,e4,e];rfl),fun e=>h _ (by rw[hs,e1,e2,e3,e4,e,e6];rfl)⟩⟩⟩⟩⟩⟩
noncomputable def JQ(l:L7):Str:=match l with
 |.seg=>s0 "segment"
 |.rep=>s0 "repeat"
 |.barred=>s0 "barred"
 |.data=>s0 "data"
 |.lock=>s0 "lock"
 |.rex=>s0 "rex"
 |.none=>s0 ""
theorem vZ(T:Nat→V)(w:World):∀R as KV,i3 as KV R→∃bs,cu T w as bs∧ao (gf R) wA bs ⟨.nil,0⟩ (aV (aU T w KV)):=by
 intro R as KV h
 replace h:=dI h
 refine Qh h fun _ x rq2 h1 h2 h3 h4 h5 h6 h7=>?_;subst rq2
 refine⟨[.int false x],(aS.cons .int .nil).same,?_⟩
 rw[tB,Nu,Nu,Rc]
 refine rX (s:=cz x) (M:=fun l=>aU T w KV (.str true (JQ l))) rfl fun l e=>⟨_,aP.same .refl,?_⟩
 cases l with
 |seg=>exact h1 e
 |rep=>exact h2 e
 |barred=>exact h3 e
 |data=>exact h4 e
 |lock=>exact h5 e
 |rex=>exact h6 e
 |none=>exact h7 e
noncomputable def pa:List Str:=[s0 "add",s0 "adc",s0 "and",s0 "or",s0 "sbb",s0 "sub",s0 "xor",s0 "inc",s0 "dec",s0 "neg",s0 "not",s0 "xchg",s0 "xadd",s0 "cmpxchg",s0 "bts",s0 "btr",s0 "btc"]
theorem r0(R:Addr→Prop)(KU:V→Prop)(d n:Int){size:Int}(hs:size=8∨size=16∨size=32∨size=64):ao (gf R) GY [kD d size ("rm"++o8 size) ("r"++o8 size) n] ⟨.nil,0⟩ (aV KU) =
  aZ false (dy (fun y=>fB 8 y (.str (bC d))) (pa.map PyData.str)) (KU (.bool true true)) (KU (.bool true false)):=by
 rcases hs with rfl|rfl|rfl|rfl <;> kernel_rfl
theorem EZ{d:Int}(h1:0≤d)(h2:d < 7):dy (fun y=>fB 8 y (.str (bC d))) (pa.map PyData.str)=true:=by
 have k1:=fZ (k:=7) h1 h2;clear h1 h2;revert d k1
 exact@(gX (by kernel_rfl))
theorem wb(T:Nat→V)(w:World):∀R as KV,fV as KV R→∃bs,cu T w as bs∧ao (gf R) GY bs ⟨.nil,0⟩ (aV (aU T w KV)):=by
 intro R as KV h
 replace h:=dV h
 obtain⟨_,rfl,h⟩:=h
 obtain⟨⟨d,size,num,h1,h2,h3,h4⟩,hk⟩:=h
 refine⟨[_],(aS.cons h4 .nil).same,?_⟩
 rw[r0 R _ d num h3]
 refine⟨fun _=>⟨_,aP.same .refl,hk⟩,fun e=>?_⟩
 rw[EZ h1 h2]at e;cases e
noncomputable def tL:List Str:=[s0 "movsb",s0 "movsw",s0 "movsd",s0 "movsq",s0 "stosb",s0 "stosw",s0 "stosd",s0 "stosq",s0 "lodsb",s0 "lodsw",s0 "lodsd",s0 "lodsq"]
noncomputable def oy:List Str:=[s0 "cmpsb",s0 "cmpsw",s0 "cmpsd",s0 "cmpsq",s0 "scasb",s0 "scasw",s0 "scasd",s0 "scasq"]
theorem vg(R:Addr→Prop)(KU:V→Prop)(x:Str):ao (gf R) HE [.str false x] ⟨.nil,0⟩ (aV KU) =
  aZ false (dy (fun y=>fB 8 y (.str x)) (tL.map PyData.str)) (KU (.list [.str true (s0 "rep")])) (aZ false (dy (fun y=>fB 8 y (.str x)) (oy.map PyData.str)) (KU (.list [.str true (s0 "rep"),.str true (s0 "repne")])) (KU (.list []))):=by kernel_rfl
theorem Gu{d:Int}(h1:0≤d)(h2:d < 7):dy (fun y=>fB 8 y (.str (bC d))) (tL.map PyData.str)=false∧dy (fun y=>fB 8 y (.str (bC d))) (oy.map PyData.str)=false:=by
 have k1:=fZ (k:=7) h1 h2;clear h1 h2
 constructor <;> (revert d k1;exact@(gX (by kernel_rfl)))
theorem yX(T:Nat→V)(w:World):∀R as KV,ir as KV R→∃bs,cu T w as bs∧ao (gf R) HE bs ⟨.nil,0⟩ (aV (aU T w KV)):=by
 intro R as KV h
 replace h:=dS h
 obtain⟨_,_,rfl,h⟩:=h
 obtain⟨⟨d,h1,h2,rfl⟩,hk⟩:=h
 refine⟨[.str false (bC d)],(aS.cons .str .nil).same,?_⟩
 rw[vg]
 refine a7 (Gu h1 h2) fun e1 e2=>?_
 refine⟨fun e=>?_,fun _=>⟨fun e=>?_,fun _=>⟨_,aP.same .refl,hk⟩⟩⟩
 ·rw[e1]at e;cases e
 ·rw[e2]at e;cases e
noncomputable def Kn(p:Pf):V:=.inst 208 [(s0 "segment",.str true p.seg),(s0 "is_data",.bool true p.data),(s0 "repeat",.int true p.rep),(s0 "is_lock",.bool true p.lock),(s0 "rex",.int false p.rex)]
theorem yV(R:Addr→Prop)(KU:V→Prop){seg:Str}{rep:Int}{data lock:Bool}(rex:Int)(h1:seg=s0 ""∨seg=s0 "fs"∨seg=s0 "gs")(h2:rep=0∨rep=242∨rep=243)(h3:lock=true→rep=0) :
    ao (gf R) Gz [Kn ⟨seg,data,rep,lock,rex⟩] ⟨.nil,0⟩ (aV KU)=aZ false (decide (0≤rex)) (aZ false (rex.fdiv 16==4) (bV rex=true∧KU (.bytes true (eZ ⟨seg,data,rep,lock,-1⟩++[rex]))) False) (KU (.bytes true (eZ ⟨seg,data,rep,lock,-1⟩))):=by
  cases lock with
  | false=>
    have k1:=z0 h1;have k2:=z0 h2;have k3:=rM data;clear h1 h2 h3;revert seg rep data k1 k2 k3
    exact@(jY (by kernel_rfl))
  | true=>
    have h3:=h3 rfl;subst h3
    have k1:=z0 h1;have k3:=rM data;clear h1 h2;revert seg data k1 k3
    exact@(mD (by kernel_rfl))
set_option tactic.hygienic true in
theorem Du(T:Nat→V)(w:World):∀R as KV,gT as KV R→∃bs,cu T w as bs∧ao (gf R) Gz bs ⟨.nil,0⟩ (aV (aU T w KV)):=by
 intro R as KV h
 replace h:=dV h
 obtain⟨_,rfl,h⟩:=h
 split at h
 case h_2=>exact h.elim
 rename_i p hp
 refine a7 h fun ok hk=>?_
 have l1:=jS hp
 refine⟨[Kn p],fun H rs hv=>(?_:aS [nv p] [Kn p]).rel ((aS.cons l1 .nil).rel hv),?_⟩
 ·exact .cons (.inst (.cons .str (.cons .bool (.cons .int (.cons .bool (.cons .int .nil)))))) .nil
 obtain⟨seg,data,rep,lock,rex⟩:=p
 rw[yV R _ rex ok.seg ok.rep ok.lock]
 have hr:=ok.rex
 dsimp only at hr
 have lay:eZ ⟨seg,data,rep,lock,rex⟩=eZ ⟨seg,data,rep,lock,-1⟩++(if 0≤rex then[rex]else[]):=by
  unfold eZ;simp
 rw[lay]at hk
 refine⟨fun e=>⟨fun e2=>⟨?_,_,aP.same .bytes,by rw[if_pos (of_decide_eq_true e)]at hk;exact hk⟩,fun e2=>?_⟩,fun e=>⟨_,aP.same .bytes,by rw[if_neg (of_decide_eq_false e),List.append_nil]at hk;exact hk⟩⟩
 ·have e:=of_decide_eq_true e
  unfold bV
  rw[decide_eq_true e]
  show decide (rex < 256)=true
  rw[decide_eq_true_eq];lia
 ·have e:=of_decide_eq_true e
  rw[beq_eq_false_iff_ne,Int.fdiv_eq_ediv_of_nonneg _ (by lia)]at e2
  lia
noncomputable abbrev o9(lv n:Nat)(R:Addr→Prop):Ev:=ev {Oe lv with R:=R} n
noncomputable abbrev SE(R:Addr→Prop)(f:bw Fl):bw Fl:=MI (o9 1 88 R) (ID (aj kY.body 1)) (H6 (aj kY.body 1)) kY.sc f
noncomputable def kX(xs:List Int)(a:Int)(p:Pf)(x:Int):List (Str×V):=[(s0 "octets",.bytes false xs),(s0 "at",.int false a),(s0 "found",nv p),(s0 "octet",.int false x)]
theorem GQ (R:Addr→Prop) (xs:List Int) (a x0:Int) (p:Pf) (ob:aR) (F:St→(Fl→St→Prop)→Prop) (Q:Fl→St→Prop):(SE R ⟨F⟩).run ⟨kX xs a p x0,ob⟩ Q=(few xs.length=true∧
    (decide (a < Int.ofNat xs.length)=true→decide (0≤a)=true∧z7 a.toNat xs.length=true∧few xs.length=true∧
      (((aG xs a.toNat).fdiv 16==4)=true→(decide (0≤p.rex)=true→R 83)∧(decide (0≤p.rex)=false→F ⟨kX xs (a+1) {p with rex:=aG xs a.toNat} (aG xs a.toNat),ob⟩ Q))∧
      (((aG xs a.toNat).fdiv 16==4)=false→(c7 true (aE (kI (aT (aG xs a.toNat))) (s0 ""))=true→(∀q,dn p (aG xs a.toNat)=some q→F ⟨kX xs (a+1) q (aG xs a.toNat),ob⟩ Q)∧(dn p (aG xs a.toNat)=none→R 83))∧
        (c7 true (aE (kI (aT (aG xs a.toNat))) (s0 ""))=false→Q (.ret (.tup [nv p,.int false a])) ⟨kX xs a p (aG xs a.toNat),ob⟩)))∧
    (decide (a < Int.ofNat xs.length)=false→Q .next ⟨kX xs a p x0,ob⟩)):=by kernel_rfl
noncomputable def Gh:V:=.inst 208 [(s0 "segment",.str true (s0 "")),(s0 "is_data",.bool true false),(s0 "repeat",.int true 0),(s0 "is_lock",.bool true false),(s0 "rex",.int true (-1))]
noncomputable def Fc:aR:=⟨.node none (.node (some (.frz Gh)) .nil .nil) .nil,2⟩
noncomputable def Ic(R:Addr→Prop)(KU:V→Prop):Fl→St→Prop:=fun f σ=>match f with
 |.next=>((o9 1 88 R).ss [aj kY.body 2] kY.sc).run σ fun f σ=>aV KU (tw f) σ.ob
 |f=>aV KU (tw f) σ.ob
noncomputable abbrev yQ(R:Addr→Prop)(k:Nat):bw Fl:=me (o9 1 88 R) (ID (aj kY.body 1)) (H6 (aj kY.body 1)) kY.sc k
theorem Nj (R:Addr→Prop) (KU:V→Prop) (xs:List Int) (a:Int):ao (o9 1 90 R) kY [.bytes false xs,.int false a] ⟨.nil,0⟩ (aV KU)=(few xs.length=true∧
    (decide (a < Int.ofNat xs.length)=true→decide (0≤a)=true∧z7 a.toNat xs.length=true∧few xs.length=true∧
      (((aG xs a.toNat).fdiv 16==4)=true→(yQ R 99).run ⟨kX xs (a+1) {jN with rex:=aG xs a.toNat} (aG xs a.toNat),Fc⟩ (Ic R KU))∧
      (((aG xs a.toNat).fdiv 16==4)=false→(c7 true (aE (kI (aT (aG xs a.toNat))) (s0 ""))=true→(∀q,dn jN (aG xs a.toNat)=some q→(yQ R 99).run ⟨kX xs (a+1) q (aG xs a.toNat),Fc⟩ (Ic R KU))∧(dn jN (aG xs a.toNat)=none→R 83))∧
        (c7 true (aE (kI (aT (aG xs a.toNat))) (s0 ""))=false→KU (.tup [Gh,.int false a]))))∧
    (decide (a < Int.ofNat xs.length)=false→KU (.tup [Gh,.int false a]))):=by kernel_rfl
theorem BF(R:Addr→Prop)(KU:V→Prop)(xs:List Int)(a x:Int)(p:Pf)(ob:aR):Ic R KU .next ⟨kX xs a p x,ob⟩=KU (.tup [nv p,.int false a]):=by kernel_rfl
theorem GO(R:Addr→Prop)(KU:V→Prop)(fm:List (Str×V))(a:Int)(p:Pf)(ob:aR):Ic R KU (.ret (.tup [nv p,.int false a])) ⟨fm,ob⟩=KU (.tup [nv p,.int false a]):=by kernel_rfl
theorem km:∀(xs:List Int) (n:Nat),n < xs.length→xs.drop n=aG xs n::xs.drop (n+1)
 |[],_,h=>by cases h
 |_::_,0,_=>rfl
 |_::r,n+1,h=>km r n (by simpa using h)
theorem j2{x:Int}:c7 true (aE (kI (aT x)) (s0 ""))=false↔aT x=.none:=by
 cases aT x <;> (constructor <;> intro h <;> first|rfl|(have h:(true:Bool)=false:=h;cases h)|cases h)
theorem og{x:Int}(h:c7 true (aE (kI (aT x)) (s0 ""))=true):aT x≠.none:=fun e=>by
 rw[j2.mpr e]at h;cases h
theorem cV(x:Int)(r:List Int)(p:Pf)(n:Nat):fA (x::r) p n=if bq x then(if 0≤p.rex then none else fA r {p with rex:=x} (n+1))else match aT x with
    |.none=>some (p,n)
    | _=>match dn p x with
      |some p'=>fA r p' (n+1)
      |none=>none:=by first|(rw[fA];done)|(rw[fA];cases aT x <;> rfl)
theorem fT{a:Int}(h:0≤a):(a+1).toNat=a.toNat+1:=by lia
theorem JM (R:Addr→Prop) (KU:V→Prop) (xs:List Int) (hf:few xs.length=true) (k:Nat):∀(a x0:Int) (p:Pf) (ob:aR),0≤a→xs.length - a.toNat < k→
    (∀p' e,fA (xs.drop a.toNat) p a.toNat=some (p',e)→KU (.tup [nv p',.int false (Int.ofNat e)]))→(fA (xs.drop a.toNat) p a.toNat=none→R 83)→(yQ R k).run ⟨kX xs a p x0,ob⟩ (Ic R KU):=by
  induction k with
  |zero=>intro _ _ _ _ _ h;exact absurd h (Nat.not_lt_zero _)
  | succ k ih=>
    intro a x0 p ob h0 hk h1 h2
    have e:(yQ R (k+1)).run ⟨kX xs a p x0,ob⟩ (Ic R KU)=(SE R ⟨(yQ R k).run⟩).run ⟨kX xs a p x0,ob⟩ (Ic R KU):=rfl
    rw[e,GQ]
    have ea:Int.ofNat a.toNat=a:=Int.toNat_of_nonneg h0
    have el:Int.ofNat xs.length=(xs.length:Int):=rfl
    refine⟨hf,fun lt=>?_,fun ge=>?_⟩
    · have lt:=of_decide_eq_true lt
      rw[el]at lt
      have ltn:a.toNat < xs.length:=by lia
      rw[km xs a.toNat ltn,cV]at h1 h2
      have st:=fT h0
      refine⟨decide_eq_true h0,?_,hf,fun rx=>⟨fun g=>?_,fun g=>?_⟩,fun nrx=>⟨fun so=>?_,fun so=>?_⟩⟩
      · show Nat.blt _ _=true
        rw[Nat.blt_eq];exact ltn
      · have rx:bq (aG xs a.toNat)=true:=rx
        rw[rx,if_pos rfl,if_pos (of_decide_eq_true g)]at h2
        exact h2 rfl
      · have rx:bq (aG xs a.toNat)=true:=rx
        rw[rx,if_pos rfl,if_neg (of_decide_eq_false g),←st]at h1 h2
        exact ih (a+1) _ _ ob (by lia) (by lia) h1 h2
      · have nrx:bq (aG xs a.toNat)=false:=nrx
        rw[nrx,if_neg Bool.false_ne_true]at h1 h2
        have sn:=og so
        refine⟨fun q hq=>?_,fun hq=>?_⟩
        · have ee:∀(z:Option (Pf×Nat)),(match aT (aG xs a.toNat)with|.none=>z|_=>match dn p (aG xs a.toNat)with|some p'=>fA (xs.drop (a.toNat+1)) p' (a.toNat+1)|none=>none)=fA (xs.drop (a.toNat+1)) q (a.toNat+1):=fun z=>by
            rw[hq]
            cases hs:aT (aG xs a.toNat) <;> first|rfl|exact absurd hs sn
          rw[ee,←st]at h1 h2
          exact ih (a+1) _ _ ob (by lia) (by lia) h1 h2
        · refine h2 ?_
          rw[hq]
          cases hs:aT (aG xs a.toNat) <;> first|rfl|exact absurd hs sn
      · have nrx:bq (aG xs a.toNat)=false:=nrx
        rw[nrx,if_neg Bool.false_ne_true,j2.mp so]at h1
        rw[GO]
        have:=h1 _ _ rfl
        rw[ea]at this;exact this
    · have ge:=of_decide_eq_false ge
      rw[el]at ge
      rw[List.drop_eq_nil_of_le (by lia)]at h1
      rw[BF]
      have:=h1 _ _ rfl
      rw[ea]at this;exact this
theorem rY:aP Gh (nv jN):=.inst (.cons .str (.cons .bool (.cons .int (.cons .bool (.cons .int .nil)))))
theorem k6 (T:Nat→V) (w:World):∀R as KV,gv as KV R→∃bs,cu T w as bs∧ao (o9 1 90 R) kY bs ⟨.nil,0⟩ (aV (aU T w KV)):=by
  intro R as KV h
  replace h:=LB h
  obtain⟨_,xs,_,a,rfl,h⟩:=h
  refine t7 h fun h0 hf hl90 h1 h2=>?_
  unfold rp at h1 h2
  refine⟨[.bytes false xs,.int false a],(aS.cons .bytes (.cons .int .nil)).same,?_⟩
  rw[Nj]
  have out:∀{v u:V},KV u→aP v u→aU T w KV v:=fun e l=>⟨_,l.same,e⟩
  have ea:Int.ofNat a.toNat=a:=Int.toNat_of_nonneg h0
  have el:Int.ofNat xs.length=(xs.length:Int):=rfl
  have hl:xs.length≤1000:=Nat.le_of_ble_eq_true hf
  have st:=fT h0
  refine⟨hf,fun lt=>?_,fun ge=>?_⟩
  · have lt:=of_decide_eq_true lt
    rw[el]at lt
    have ltn:a.toNat < xs.length:=by lia
    rw[km xs a.toNat ltn,cV]at h1 h2
    have go:∀q,(∀p' e,fA (xs.drop (a.toNat+1)) q (a.toNat+1)=some (p',e)→KV (.tup [nv p',.int false (Int.ofNat e)]))→(fA (xs.drop (a.toNat+1)) q (a.toNat+1)=none→R 83)→(yQ R 99).run ⟨kX xs (a+1) q (aG xs a.toNat),Fc⟩ (Ic R (aU T w KV)):=fun q g1 g2=>by
      rw[←st]at g1 g2
      exact JM R _ xs hf 99 (a+1) _ q Fc (by lia) (by lia) (fun p' e he=>out (g1 p' e he) .refl) g2
    refine⟨decide_eq_true h0,?_,hf,fun rx=>?_,fun nrx=>⟨fun so=>?_,fun so=>?_⟩⟩
    · show Nat.blt _ _=true
      rw[Nat.blt_eq];exact ltn
    · have rx:bq (aG xs a.toNat)=true:=rx
      rw[rx,if_pos rfl,if_neg (by decide:¬(0≤jN.rex))]at h1 h2
      exact go _ h1 h2
    · have nrx:bq (aG xs a.toNat)=false:=nrx
      rw[nrx,if_neg Bool.false_ne_true]at h1 h2
      have sn:=og so
      refine⟨fun q hq=>?_,fun hq=>?_⟩
      · have ee:∀(z:Option (Pf×Nat)),(match aT (aG xs a.toNat)with|.none=>z|_=>match dn jN (aG xs a.toNat)with|some p'=>fA (xs.drop (a.toNat+1)) p' (a.toNat+1)|none=>none)=fA (xs.drop (a.toNat+1)) q (a.toNat+1):=fun z=>by
          rw[hq]
          cases hs:aT (aG xs a.toNat) <;> first|rfl|exact absurd hs sn
        rw[ee]at h1 h2
        exact go q h1 h2
      · refine h2 ?_
        rw[hq]
        cases hs:aT (aG xs a.toNat) <;> first|rfl|exact absurd hs sn
    · have nrx:bq (aG xs a.toNat)=false:=nrx
      rw[nrx,if_neg Bool.false_ne_true,j2.mp so]at h1
      have:=h1 _ _ rfl
      rw[ea]at this
      exact out this (.tup (.cons rY (.cons .refl .nil)))
  · have ge:=of_decide_eq_false ge
    rw[el]at ge
    rw[List.drop_eq_nil_of_le (by lia)]at h1
    have:=h1 _ _ rfl
    rw[ea]at this
    exact out this (.tup (.cons rY (.cons .refl .nil)))
theorem BJ(R:Addr→Prop)(KU:V→Prop)(n:Int)(b:Bool):ao (o9 1 90 R) rC [.int false n,.int true 8,.bool false b] ⟨.nil,0⟩ (aV KU) =
  aZ false b ((0≤n∧n < 16)∧((8:Int)=8∨(8:Int)=16∨(8:Int)=32∨(8:Int)=64)∧KU (.str false (d5 n 8))) (aZ false (decide (4≤n)) (aZ false (decide (n < 8)) ((4≤n∧n < 8)∧KU (.str false (gG n))) ((0≤n∧n < 16)∧((8:Int)=8∨(8:Int)=16∨(8:Int)=32∨(8:Int)=64)∧KU (.str false (d5 n 8)))) ((0≤n∧n < 16)∧((8:Int)=8∨(8:Int)=16∨(8:Int)=32∨(8:Int)=64)∧KU (.str false (d5 n 8)))):=by kernel_rfl
theorem Co(R:Addr→Prop)(KU:V→Prop)(n:Int){size:Int}(b:Bool)(h:size=16∨size=32∨size=64):ao (o9 1 90 R) rC [.int false n,.int true size,.bool false b] ⟨.nil,0⟩ (aV KU)=((0≤n∧n < 16)∧(size=8∨size=16∨size=32∨size=64)∧KU (.str false (d5 n size))):=by
 rcases h with rfl|rfl|rfl <;> kernel_rfl
theorem KH(T:Nat→V)(w:World):∀R as KV,iZ as KV R→∃bs,cu T w as bs∧ao (o9 1 90 R) rC bs ⟨.nil,0⟩ (aV (aU T w KV)):=by
 intro R as KV h
 replace h:=Ni h
 obtain⟨k,n,k2,size,k3,b,rfl,h⟩:=h
 refine jD h fun h1 hs hk=>?_
 refine⟨[.int false n,.int true size,.bool false b],(aS.cons .int (.cons .int (.cons .bool .nil))).same,?_⟩
 rcases hs with rfl|hs
 ·rw[BJ]
  refine⟨fun e=>⟨h1,.inl rfl,_,aP.same .refl,?_⟩,fun e=>⟨fun e1=>⟨fun e2=>?_,fun e2=>⟨h1,.inl rfl,_,aP.same .refl,?_⟩⟩,fun e1=>⟨h1,.inl rfl,_,aP.same .refl,?_⟩⟩⟩
  ·subst e;simpa using hk
  ·subst e
   have e1':=of_decide_eq_true e1
   have e2':=of_decide_eq_true e2
   refine⟨⟨e1',e2'⟩,_,aP.same .refl,?_⟩
   rw[e1,e2]at hk;simpa using hk
  ·subst e
   rw[e1,e2]at hk;simpa using hk
  ·subst e
   rw[e1]at hk;simpa using hk
 ·rw[Co R _ n b hs]
  refine⟨h1,.inr hs,_,aP.same .refl,?_⟩
  have:(size==8)=false:=by rw[beq_eq_false_iff_ne];lia
  rw[this]at hk
  simpa using hk
noncomputable def xA(KU:V→Prop):Nat→List V→Int→List V→Prop
 |0,_,_,found=>KU (.list found)
 |k+1,vs,p,found=>0≤p.fmod (Int.ofNat vs.length)∧p.fmod (Int.ofNat vs.length) < Int.ofNat vs.length∧K0 vs (p.fmod (Int.ofNat vs.length)) vs.length fun v l=>xA KU k l (p.fdiv 6) (bc found [v])
@[elab_as_elim] theorem len0 {P:List Int→Prop} (h0:P []) {xs:List Int} (h:xs.length≤0):P xs:=by
  cases xs with
  |nil=>exact h0
  |cons _ _=>exact absurd h (Nat.not_succ_le_zero _)
@[elab_as_elim] theorem lenS {P:List Int→Prop} {n:Nat} (h0:P []) (hs:∀a ys,ys.length≤n→P (a::ys)) {xs:List Int} (h:xs.length≤n+1):P xs:=by
  cases xs with
  |nil=>exact h0
  |cons a r=>exact hs a r (Nat.le_of_succ_le_succ h)
theorem yB(R:Addr→Prop)(KU:V→Prop)(xs:List Int)(p:Int)(h:xs.length≤3):ao (o9 1 90 R) wy [.list (bM xs),.int false p] ⟨.nil,0⟩ (aV KU)=xA KU xs.length (bM xs) p []:=by
 refine lenS ?_ (fun _ _ h=>?_) h
 ·kernel_rfl
 refine lenS ?_ (fun _ _ h=>?_) h
 ·kernel_rfl
 refine lenS ?_ (fun _ _ h=>?_) h
 ·kernel_rfl
 refine len0 ?_ h
 kernel_rfl
theorem a6(a:Int){n:Int}(h:0 < n):a.fmod n < n:=by rw[Int.fmod_eq_emod_of_nonneg a (by lia)];exact Int.emod_lt_of_pos a h
noncomputable abbrev Ip(vs:List V)(x:Int)(Q:V→List V→Prop)(n i:Nat):Prop:=@Nat.rec (fun _=>Nat→Prop) (fun _=>True) (fun _ f j=>oE (qU vs j) (fun v=>(x=Int.ofNat j→Q v (bR vs j))∧f (j+1)) True) n i
theorem CL{vs:List V}{x:Int}{Q:V→List V→Prop}(h:∀i v,qU vs i=some v→Q v (bR vs i))(n:Nat):∀i,Ip vs x Q n i:=by
  induction n with
  |zero=>exact fun _=>trivial
  | succ n ih=>
    intro i
    show oE (qU vs i) (fun v=>(x=Int.ofNat i→Q v (bR vs i))∧Ip vs x Q n (i+1)) True
    cases e:qU vs i with
    |none=>trivial
    |some v=>exact⟨fun _=>h i v e,ih (i+1)⟩
theorem ux{vs:List V}{x:Int}{Q:V→List V→Prop}(h:∀i v,qU vs i=some v→Q v (bR vs i))(n:Nat):K0 vs x n Q:=CL h n 0
theorem yG{xs:List Int}:∀{i:Nat} {v:V},qU (bM xs) i=some v→∃x,v=.int false x∧xs.Perm (x::bR xs i)∧bR (bM xs) i=bM (bR xs i):=by
  induction xs with
  |nil=>exact fun e=>nomatch e
  | cons x r ih=>
    intro i v e
    cases i with
    |zero=>exact⟨x,(ae e).symm,.refl _,rfl⟩
    |succ i=>exact(ih (i:=i) e).elim fun y h=>⟨y,h.1,(h.2.1.cons x).trans (.swap ..),congrArg _ h.2.2⟩
theorem aD{α:Type}:∀(a b:List α),bc a b=a++b
 |[],_=>rfl
 |x::r,b=>congrArg (x::·) (aD r b)
theorem n8:∀(a b:List Int),bM a++bM b=bM (a++b)
 |[],_=>rfl
 |x::r,b=>congrArg (_::·) (n8 r b)
theorem By{KU:V→Prop}{xs:List Int}(hk:∀ys:List Int,ys.Perm xs→KU (.list (bM ys)))(k:Nat):∀(rs:List Int) (p:Int) (ys:List Int),k=rs.length→(ys++rs).Perm xs→xA KU k (bM rs) p (bM ys):=by
  induction k with
  |zero=>exact fun rs p ys e hp=>hk ys (by rw[List.length_eq_zero_iff.mp e.symm,List.append_nil]at hp;exact hp)
  | succ k ih=>
    intro rs p ys e hp
    unfold xA
    rw[j7]
    have hpos:(0:Int) < Int.ofNat rs.length:=Int.natCast_pos.mpr (by rw[←e];exact Nat.succ_pos k)
    refine⟨aQ _ hpos,a6 _ hpos,ux (fun i v hv=>?_) _⟩
    refine(yG hv).elim fun x h=>?_
    rw[h.2.2,h.1,aD,show bM ys++[V.int false x]=bM (ys++[x])from n8 ys [x]]
    refine ih _ _ _ ?_ ?_
    · exact Nat.succ.inj (e.trans h.2.1.length_eq)
    · rw[List.append_assoc]
      exact((h.2.1.symm.append_left ys)).trans hp
theorem q7(ys:List Int):∃l,iR (bM ys)=some l∧nY l=ys:=by
  induction ys with
  |nil=>exact⟨[],rfl,rfl⟩
  | cons y r ih=>
    refine ih.elim fun l h=>⟨(false,y)::l,?_,congrArg _ h.2⟩
    show oO (iR (bM r)) _=_
    rw[h.1];rfl
theorem gz(ys:List Int)(k:Bool):aP (.list (bM ys)) (.irow k ys):=by
 refine aq (q7 ys) fun l h1 h2=>?_
 have:=aP.row (k:=k) h1
 rwa [h2]at this
set_option tactic.hygienic true in
theorem gc{v:V}{xs:List Int}(h:o3 v=some xs):aP v (.irow false xs):=by
 unfold o3 at h
 split at h
 ·cases h;exact .irow
 ·split at h
  ·rename_i e
   cases h
   exact .row e
  ·cases h
 ·cases h
set_option tactic.hygienic true in
theorem Cd(T:Nat→V)(w:World):∀R as KV,jH as KV R→∃bs,cu T w as bs∧ao (o9 1 90 R) wy bs ⟨.nil,0⟩ (aV (aU T w KV)):=by
 intro R as KV h
 replace h:=Q7 h
 obtain⟨v,k,p,rfl,h⟩:=h
 split at h
 case h_2=>exact h.elim
 rename_i xs hx
 refine a7 h fun hl hk=>?_
 refine⟨[.list (bM xs),.int false p],fun H rs hv=>(aS.cons .unrow (.cons .refl .nil)).rel ((aS.cons (gc hx) (.cons .int .nil)).rel hv),?_⟩
 rw[yB R _ xs p hl]
 exact By (fun ys hp=>⟨_,(gz ys false).same,hk ys hp⟩) _ xs p [] rfl (.refl _)
section
structure Sn where
 sg:Option Int
 rp:Option Int
 dt:Option Int
 lk:Option Int
 rx:Option Int
 n:Nat
noncomputable def QY(x:Option Int)(d:Int):V:=match x with
 |some x=>.int false x
 |none=>.int true d
noncomputable def zk(word:Str)(s:Sn):V:=.tup [.tup [.str true word,.bool true (dJ s.dt),QY s.rp 0,.bool true (dJ s.lk),QY s.rx (-1)],.int true (Int.ofNat s.n)]
noncomputable def Cs(KU:V→Prop)(s:Sn):Prop:=match s.sg with
 |none=>KU (zk (s0 "") s)
 |some x=>aZ false (x==100) (KU (zk (s0 "fs") s)) (aZ false (x==101) (KU (zk (s0 "gs") s)) (KU (zk (s0 "") s)))
noncomputable def z6(a b:Option Int)(KU:V→Prop)(Z:Prop):Prop:=match dJ a with
  |true=>KU .none
  | false=>match dJ b with
    |true=>KU .none
    |false=>Z
noncomputable def kZ(KU:V→Prop):List Int→Sn→Prop
  |[],s=>Cs KU s
  | x::r,s=>(cz x=.seg→z6 s.sg s.rx KU (kZ KU r {s with sg:=some x,n:=s.n+1}))∧
    (cz x=.rep→z6 s.rp s.rx KU (iE (dJ s.lk) (KU .none) (kZ KU r {s with rp:=some x,n:=s.n+1})))∧
    (cz x=.barred→KU .none)∧
    (cz x=.data→z6 s.dt s.rx KU (kZ KU r {s with dt:=some x,n:=s.n+1}))∧
    (cz x=.lock→z6 s.lk s.rx KU (iE (dJ s.rp) (KU .none) (kZ KU r {s with lk:=some x,n:=s.n+1})))∧
    (cz x=.rex→z6 s.rx s.rx KU (kZ KU r {s with rx:=some x,n:=s.n+1}))∧
    (cz x=.none→Cs KU s)
noncomputable def So:Sn:=⟨none,none,none,none,none,0⟩
theorem JH(R:Addr→Prop)(KU:V→Prop)(xs:List Int)(h:xs.length≤6):ao (o9 1 90 R) xJ [.irow false xs] ⟨.nil,0⟩ (aV KU)=kZ KU xs So:=by
 refine lenS ?_ (fun _ _ h=>?_) h
 ·kernel_rfl
 refine lenS ?_ (fun _ _ h=>?_) h
 ·kernel_rfl
 refine lenS ?_ (fun _ _ h=>?_) h
 ·kernel_rfl
 refine lenS ?_ (fun _ _ h=>?_) h
 ·kernel_rfl
 refine lenS ?_ (fun _ _ h=>?_) h
 ·kernel_rfl
 refine lenS ?_ (fun _ _ h=>?_) h
 ·kernel_rfl
 refine len0 ?_ h
 kernel_rfl
structure k7(s:Sn)(p:Pf):Prop where
 sg:oE s.sg (fun x=>(x=100∧p.seg=s0 "fs")∨(x=101∧p.seg=s0 "gs")) (p.seg=s0 "")
 dt:p.data=dJ s.dt
 rp:oE s.rp (fun x=>p.rep=x∧(x=242∨x=243)) (p.rep=0)
 lk:p.lock=dJ s.lk
 rx:oE s.rx (fun x=>p.rex=x∧64≤x∧x < 80) (p.rex=-1)
noncomputable def fy(KV:V→Prop)(o:Option (Pf×Nat)):Prop:=(∀p e,o=some (p,e)→KV (.tup [Qw p,.int false (Int.ofNat e)]))∧(o=none→KV .none)
theorem sT{o:Option Int}{P:Int→Prop}{r d:Int}(h:oE o (fun x=>r=x∧P x) (r=d)):aP (QY o d) (.int false r):=by
 cases o with
 |none=>rw[show r=d from h];exact .int
 |some x=>rw[show r=x from h.1];exact .int
theorem AL{T:Nat→V}{w:World}{KV:V→Prop}{s:Sn}{p:Pf}(r:k7 s p)(h:fy KV (some (p,s.n))):Cs (aU T w KV) s:=by
 have l1:=sT r.rp
 have l2:=sT r.rx
 have go:∀word,p.seg=word→aU T w KV (zk word s):=fun word e=>⟨_,aP.same (by
  unfold zk Qw
  rw[←e,←r.dt,←r.lk]
  exact .tup (.cons (.tup (.cons .str (.cons .bool (.cons l1 (.cons .bool (.cons l2 .nil)))))) (.cons .int .nil))),h.1 _ _ rfl⟩
 refine cps fun G kk=>du r.sg (fun x e h=>kk ?_) fun e h=>kk ?_
 ·unfold Cs
  rw[e]
  exact h.elim (fun h=>by rw[h.1];exact⟨fun _=>go _ h.2,fun e=>(by cases e)⟩) fun h=>by rw[h.1];exact⟨fun e=>(by cases e),fun _=>⟨fun _=>go _ h.2,fun e=>(by cases e)⟩⟩
 ·unfold Cs
  rw[e]
  exact go _ h
theorem h9{s:Sn}{p:Pf}(r:k7 s p):(0≤p.rex↔dJ s.rx=true):=
 du r.rx (fun x e h=>by rw[e,h.1];exact⟨fun _=>rfl,fun _=>Int.le_trans (by decide) h.2.1⟩) fun e h=>by rw[e,h];exact⟨fun h=>absurd h (by decide),fun h=>nomatch h⟩
theorem Ho{s:Sn}{p:Pf}(r:k7 s p):((p.seg != s0 "")=dJ s.sg):=
 du r.sg (fun x e h=>by rw[e];exact h.elim (fun h=>by rw[h.2];rfl) fun h=>by rw[h.2];rfl) fun e h=>by rw[e,h];rfl
theorem wX{s:Sn}{p:Pf}(r:k7 s p):((p.rep != 0)=dJ s.rp):=
 du r.rp (fun x e h=>by rw[e,h.1];exact h.2.elim (fun h=>by rw[h];rfl) fun h=>by rw[h];rfl) fun e h=>by rw[e,h];rfl
theorem sC(x:Int):(cz x=.seg∧(x=100∨x=101))∨(cz x=.rep∧(x=242∨x=243))∨(cz x=.barred∧bq x=false∧aT x=.barred)∨(cz x=.data∧x=102)∨(cz x=.lock∧x=240)∨(cz x=.rex∧64≤x∧x < 80∧bq x=true)∨(cz x=.none∧bq x=false∧aT x=.none):=by
 have rx:bq x=(decide (64≤x)&&decide (x < 80)):=by
  unfold bq
  rw[Bool.eq_iff_iff,Bool.and_eq_true,decide_eq_true_eq,decide_eq_true_eq,beq_iff_eq,Int.fdiv_eq_ediv_of_nonneg _ (by decide)]
  lia
 by_cases h1:x=100∨x=101
 ·exact .inl ⟨by rcases h1 with rfl|rfl <;> rfl,h1⟩
 by_cases h2:x=242∨x=243
 ·exact .inr (.inl ⟨by rcases h2 with rfl|rfl <;> rfl,h2⟩)
 by_cases h3:x=38∨x=46∨x=54∨x=62∨x=103
 ·refine .inr (.inr (.inl ?_))
  rcases h3 with rfl|rfl|rfl|rfl|rfl <;> exact⟨rfl,rfl,rfl⟩
 by_cases h4:x=102
 ·exact .inr (.inr (.inr (.inl ⟨by rw[h4];rfl,h4⟩)))
 by_cases h5:x=240
 ·exact .inr (.inr (.inr (.inr (.inl ⟨by rw[h5];rfl,h5⟩))))
 have e:∀n:Int,x≠n→(x==n)=false:=fun n h=>by rw[beq_eq_false_iff_ne];exact h
 have f1:cz x=if decide (64≤x)&&decide (x < 80)then .rex else .none:=by
  unfold cz
  rw[e 100 (by lia),e 101 (by lia),e 242 (by lia),e 243 (by lia),e 38 (by lia),e 46 (by lia),e 54 (by lia),e 62 (by lia),e 103 (by lia),e 102 h4,e 240 h5]
  rfl
 have f2:aT x=.none:=by
  unfold aT
  rw[e 100 (by lia),e 101 (by lia),e 242 (by lia),e 243 (by lia),e 38 (by lia),e 46 (by lia),e 54 (by lia),e 62 (by lia),e 103 (by lia),e 102 h4,e 240 h5]
  rfl
 by_cases h6:64≤x∧x < 80
 ·have:(decide (64≤x)&&decide (x < 80))=true:=by rw[decide_eq_true h6.1,decide_eq_true h6.2];rfl
  refine .inr (.inr (.inr (.inr (.inr (.inl ⟨?_,h6.1,h6.2,?_⟩)))))
  ·rw[f1,this];rfl
  ·rw[rx,this]
 ·have:(decide (64≤x)&&decide (x < 80))=false:=by
   rw[Bool.eq_false_iff]
   intro h
   rw[Bool.and_eq_true,decide_eq_true_eq,decide_eq_true_eq]at h
   exact h6 h
  refine .inr (.inr (.inr (.inr (.inr (.inr ⟨?_,?_,f2⟩)))))
  ·rw[f1,this];rfl
  ·rw[rx,this]
noncomputable def Ow(l:L7)(x:Int):Prop:=match l with
 |.seg=>x=100∨x=101
 |.rep=>x=242∨x=243
 |.barred=>bq x=false∧aT x=.barred
 |.data=>x=102
 |.lock=>x=240
 |.rex=>64≤x∧x < 80∧bq x=true
 |.none=>bq x=false∧aT x=.none
theorem Ep(x:Int):Ow (cz x) x:=by
 rcases sC x with h|h|h|h|h|h|h <;> (rw[h.1];exact h.2)
theorem lz{x:Int}{r:List Int}{p:Pf}{n:Nat}(h1:bq x=false)(h2:aT x≠.none):fA (x::r) p n=match dn p x with
  |some q=>fA r q (n+1)
  |none=>none:=by
 rw[cV,h1,if_neg (by decide)]
 cases h:aT x <;> first|rfl|exact absurd h h2
theorem mn{KU:V→Prop}{a b:Option Int}{Z:Prop}(h1:dJ a=true∨dJ b=true→KU .none)(h2:dJ a=false→dJ b=false→Z):z6 a b KU Z:=by
  unfold z6
  cases ea:dJ a with
  |true=>exact h1 (.inl ea)
  | false=>cases eb:dJ b with
    |true=>exact h1 (.inr eb)
    |false=>exact h2 ea eb
theorem Ih{b:Bool}{P Q:Prop}(h1:b=true→P)(h2:b=false→Q):iE b P Q:=by
 cases b with
 |true=>exact h1 rfl
 |false=>exact h2 rfl
theorem Cn{α:Type}{c:Prop}[Decidable c]{b:Bool}{q:α}(h:c∨b=true):(if c then none else if b then none else some q)=(none:Option α):=by
 by_cases hc:c
 ·rw[if_pos hc]
 ·rw[if_neg hc,if_pos (h.resolve_left hc)]
theorem Bh{α:Type}{c:Prop}[Decidable c]{b:Bool}{q:α}(h:¬c)(e:b=false):(if c then none else if b then none else some q)=some q:=by rw[if_neg h,e];rfl
section
variable {T:Nat→V}{w:World}{KV:V→Prop}{xs:List Int}{s:Sn}{p:Pf}{x:Int}
noncomputable abbrev oz(T:Nat→V)(w:World)(KV:V→Prop)(xs:List Int):Prop:=∀(s:Sn) (p:Pf),k7 s p→fy KV (fA xs p s.n)→kZ (aU T w KV) xs s
theorem Gn{o:Option Int}{P:Int→Prop}(e:dJ o=false):oE o (fun x=>(0:Int)=x∧P x) ((0:Int)=0):=by cases o;rfl;cases e
theorem vf(h:aT x=.barred):dn p x=none:=by unfold dn;rw[h]
theorem pT{o:Option (Pf×Nat)}(h:fy KV o)(e:o=none):aU T w KV .none:=⟨_,aP.same .refl,h.2 e⟩
theorem mE(r:k7 s p)(b:dJ s.rx=false):¬0≤p.rex:=fun h=>by have:=(h9 r).mp h;rw[b]at this;cases this
theorem lH(r:k7 s p)(b:dJ s.rx=false):oE s.rx (fun x=>(-1:Int)=x∧64≤x∧x < 80) ((-1:Int)=-1):=by
 refine cps fun G kk=>du r.rx (fun x e _=>?_) fun e _=>kk (by rw[e];rfl)
 rw[e]at b;cases b
theorem jo{q:Pf}{f:Bool}(i1:bq x=false)(i2:aT x≠.none)(lg:dn p x=if 0≤p.rex then none else if f then none else some q)(h:fy KV (fA (x::xs) p s.n)):(0≤p.rex∨f=true→aU T w KV .none)∧(¬0≤p.rex→f=false→fy KV (fA xs q (s.n+1))):=by
 have e:=lz (r:=xs) (p:=p) (n:=s.n) i1 i2
 rw[lg]at e
 refine⟨fun hb=>pT h (e.trans (by rw[Cn hb])),fun h1 h2=>?_⟩
 rw[Bh h1 h2]at e
 rw[e]at h;exact h
theorem Hg(ih:oz T w KV xs)(r:k7 s p)(h:fy KV (fA (x::xs) p s.n))(hx:x=100∨x=101):z6 s.sg s.rx (aU T w KV) (kZ (aU T w KV) xs {s with sg:=some x,n:=s.n+1}):=by
 have S:=jo (T:=T) (w:=w) (s:=s) (q:={p with seg:=if x==100 then s0 "fs" else s0 "gs",rex:=-1}) (f:=p.seg != s0 "") (by cases hx with|inl e=>rw[e];rfl|inr e=>rw[e];rfl) (by cases hx with|inl e=>rw[e];nofun|inr e=>rw[e];nofun) (by cases hx with|inl e=>rw[e];rfl|inr e=>rw[e];rfl) h
 rw[Ho r]at S
 exact mn (fun hb=>S.1 (hb.symm.imp (h9 r).mpr id)) fun b1 b2=>ih _ {p with seg:=if x==100 then s0 "fs" else s0 "gs",rex:=-1} ⟨hx.imp (fun e=>⟨e,by rw[e];rfl⟩) fun e=>⟨e,by rw[e];rfl⟩,r.dt,r.rp,r.lk,lH (s:=s) (p:=p) r b2⟩ (S.2 (mE r b2) b1)
theorem He(ih:oz T w KV xs)(r:k7 s p)(h:fy KV (fA (x::xs) p s.n))(hx:x=242∨x=243):z6 s.rp s.rx (aU T w KV) (iE (dJ s.lk) (aU T w KV .none) (kZ (aU T w KV) xs {s with rp:=some x,n:=s.n+1})):=by
 have S:=jo (T:=T) (w:=w) (s:=s) (q:={p with rep:=x,lock:=false,rex:=-1}) (f:=p.rep != 0||p.lock) (by cases hx with|inl e=>rw[e];rfl|inr e=>rw[e];rfl) (by cases hx with|inl e=>rw[e];nofun|inr e=>rw[e];nofun) (by cases hx with|inl e=>rw[e];rfl|inr e=>rw[e];rfl) h
 rw[wX r,r.lk]at S
 exact mn (fun hb=>S.1 (hb.symm.imp (h9 r).mpr fun e=>by rw[e];rfl)) fun b1 b2=>Ih (fun b3=>S.1 (.inr (by rw[b3,Bool.or_true]))) fun b3=>ih _ {p with rep:=x,lock:=false,rex:=-1} ⟨r.sg,r.dt,⟨rfl,hx⟩,b3.symm,lH (s:=s) (p:=p) r b2⟩ (S.2 (mE r b2) (by rw[b1,b3];rfl))
theorem EC(ih:oz T w KV xs)(r:k7 s p)(h:fy KV (fA (x::xs) p s.n))(hx:x=102):z6 s.dt s.rx (aU T w KV) (kZ (aU T w KV) xs {s with dt:=some x,n:=s.n+1}):=by
 have S:=jo (T:=T) (w:=w) (s:=s) (q:={p with data:=true,rex:=-1}) (f:=p.data) (by rw[hx];rfl) (by rw[hx];nofun) (by rw[hx];rfl) h
 rw[r.dt]at S
 exact mn (fun hb=>S.1 (hb.symm.imp (h9 r).mpr id)) fun b1 b2=>ih _ {p with data:=true,rex:=-1} ⟨r.sg,rfl,r.rp,r.lk,lH (s:=s) (p:=p) r b2⟩ (S.2 (mE r b2) b1)
theorem D1(ih:oz T w KV xs)(r:k7 s p)(h:fy KV (fA (x::xs) p s.n))(hx:x=240):z6 s.lk s.rx (aU T w KV) (iE (dJ s.rp) (aU T w KV .none) (kZ (aU T w KV) xs {s with lk:=some x,n:=s.n+1})):=by
 have S:=jo (T:=T) (w:=w) (s:=s) (q:={p with rep:=0,lock:=true,rex:=-1}) (f:=p.lock||p.rep != 0) (by rw[hx];rfl) (by rw[hx];nofun) (by rw[hx];rfl) h
 rw[wX r,r.lk]at S
 exact mn (fun hb=>S.1 (hb.symm.imp (h9 r).mpr fun e=>by rw[e];rfl)) fun b1 b2=>Ih (fun b3=>S.1 (.inr (by rw[b3,Bool.or_true]))) fun b3=>ih _ {p with rep:=0,lock:=true,rex:=-1} ⟨r.sg,r.dt,Gn b3,rfl,lH (s:=s) (p:=p) r b2⟩ (S.2 (mE r b2) (by rw[b1,b3];rfl))
theorem Hr(ih:oz T w KV xs)(r:k7 s p)(h:fy KV (fA (x::xs) p s.n))(h64:64≤x)(h80:x < 80)(h1:bq x=true):z6 s.rx s.rx (aU T w KV) (kZ (aU T w KV) xs {s with rx:=some x,n:=s.n+1}):=by
 rw[cV,h1,if_pos rfl]at h
 refine mn (fun hb=>pT h (if_pos ((h9 r).mpr (hb.elim id id)))) fun _ b2=>ih _ {p with rex:=x} ⟨r.sg,r.dt,r.rp,r.lk,⟨rfl,h64,h80⟩⟩ ?_
 rw[if_neg (mE r b2)]at h;exact h
theorem I9(xs:List Int):oz T w KV xs:=by
  induction xs with
  |nil=>exact fun s p r h=>AL r h
  | cons x xs ih=>
    intro s p r h
    have L:=Ep x
    exact⟨fun e=>Hg ih r h (e▸L:Ow .seg x),fun e=>He ih r h (e▸L:Ow .rep x),fun e=>pT h (by rw[e]at L;rw[lz L.1 (by rw[L.2];nofun),vf L.2]),fun e=>EC ih r h (e▸L:Ow .data x),fun e=>D1 ih r h (e▸L:Ow .lock x),fun e=>by rw[e]at L;exact Hr ih r h L.1 L.2.1 L.2.2,fun e=>AL r (by rw[e]at L;rw[cV,L.1,L.2,if_neg (by decide)]at h;exact h)⟩
end
theorem Ou(T:Nat→V)(w:World):∀R as KV,DZ as KV R→∃bs,cu T w as bs∧ao (o9 1 90 R) xJ bs ⟨.nil,0⟩ (aV (aU T w KV)):=by
 intro R as KV h
 replace h:=dR h
 refine KA h fun k xs rq2 hl h1 h2=>?_;subst rq2
 refine⟨[.irow false xs],(aS.cons .irow .nil).same,?_⟩
 rw[JH R _ xs hl]
 exact I9 xs So jN ⟨rfl,rfl,rfl,rfl,rfl⟩ ⟨h1,h2⟩
end
noncomputable abbrev PY(D:Dc)(R:Addr→Prop):Ev:=ev {GG D with R:=R} 140
noncomputable def Lo(D:Dc):Int:=8*D.d+(match D.is8 with|true=>0|false=>1)
noncomputable def OP(is8:Bool)(w:Int)(data:Bool):Int:=match is8 with
  |true=>8
  | false=>match w==1 with
    |true=>64
    | false=>match data with
      |true=>16
      |false=>32
noncomputable def LH(is8:Bool)(w:Int)(data:Bool)(d:Int):Int:=match is8 with
  |true=>19*d
  | false=>match w==1 with
    |true=>19*d+3
    | false=>match data with
      |true=>19*d+1
      |false=>19*d+2
noncomputable def Dc.size(D:Dc):Int:=OP D.is8 D.w D.P.data
noncomputable def Am(D:Dc):V:=kD D.d D.size ("rm"++o8 D.size) ("r"++o8 D.size) (LH D.is8 D.w D.P.data D.d)
noncomputable def NY(D:Dc):V:=Jy (D.m.fmod 8) (aY D.P.rex 1) (nV D.y) D.size D.P.seg
noncomputable def LO(D:Dc):V:=.inst 552 [(s0 "kind",.str true (s0 "reg")),(s0 "register",HC ((D.m.fdiv 8).fmod 8+8*aY D.P.rex 4) D.size (decide (0≤D.P.rex)))]
noncomputable def oT(b:Bool):Str:=match b with
 |true=>s0 "lock"
 |false=>s0 ""
noncomputable def Kb(D:Dc)(a:Int):V:=.inst 908 [(s0 "instruction",.inst 733 [(s0 "name",.str false (bC D.d)),(s0 "operands",.tup [NY D,LO D]),(s0 "prefix",.str true (oT D.P.lock))]),(s0 "length",.int false (Int.ofNat D.n+1+2 - a)),(s0 "form",Am D),(s0 "prefixes",Sx D.P)]
noncomputable def pN(D:Dc)(xs:List Int)(a:Int)(R83 Z:Prop):Prop:=
 (0≤a∧few xs.length=true∧xs.length≤90∧rp xs a.toNat=some (D.P,D.n))∧D.P.rex=D.P.rex∧true=true∧true=true∧few xs.length=true∧
 (cF (cut xs (some D.n) (some (D.n+1))) [15]=true→few xs.length=true∧(decide (Int.ofNat xs.length≤Int.ofNat D.n+1)=true→R83)∧(decide (Int.ofNat xs.length≤Int.ofNat D.n+1)=false→true=true∧z7 (D.n+1) xs.length=true∧few xs.length=true∧False))∧
 (cF (cut xs (some D.n) (some (D.n+1))) [15]=false→few xs.length=true∧(decide (Int.ofNat xs.length≤Int.ofNat D.n)=true→R83)∧(decide (Int.ofNat xs.length≤Int.ofNat D.n)=false→true=true∧z7 D.n xs.length=true∧few xs.length=true∧Z))
noncomputable def FN(D:Dc)(xs:List Int)(Z:Prop):Prop:=aG xs D.n=Lo D∧Z
noncomputable def ni(s:Int):Prop:=s=8∨s=16∨s=32∨s=64
noncomputable def lj(n:Int)(s:Int)(Z:Prop):Prop:=(0≤n∧n < 16)∧ni s∧Z
noncomputable def Iq(D:Dc)(k a:Int)(R83 Z:Prop):Prop:=(decide (15 < Int.ofNat D.n+1+k - a)=true→R83)∧(decide (15 < Int.ofNat D.n+1+k - a)=false→Z)
noncomputable def DO(D:Dc)(xs:List Int)(a:Int)(R83 Z:Prop):Prop:=FN D xs (
 (0≤Int.ofNat D.n+1∧few xs.length=true∧D.n+1+1 < xs.length∧aG xs (D.n+1)=D.m∧aG xs (D.n+1+1)=D.y)∧true=true∧true=true∧(0≤aG xs D.n∧aG xs D.n < 56)∧(1:Int)=1∧
 (0≤D.m.fmod 8∧D.m.fmod 8 < 8∧D.m.fmod 8≠4)∧(aY D.P.rex 1=0∨aY D.P.rex 1=1)∧
 lj ((D.m.fdiv 8).fmod 8+8*aY D.P.rex 4) D.size (Iq D 2 a R83 Z))
noncomputable def Iy(D:Dc)(xs:List Int)(a:Int)(R83 Z:Prop):Prop:=FN D xs (
 (0≤Int.ofNat D.n+1∧few xs.length=true∧D.n+1 < xs.length∧aG xs (D.n+1)=D.m)∧true=true∧true=true∧(0≤aG xs D.n∧aG xs D.n < 56)∧
 lj (D.m.fmod 8+8*aY D.P.rex 1) D.size (lj ((D.m.fdiv 8).fmod 8+8*aY D.P.rex 4) D.size (Iq D 1 a R83 Z)))
noncomputable def lh(b:Bool):Bool:=match b with
 |true=>false
 |false=>true
noncomputable def L5(D:Dc)(Z:Prop):Prop:=(lh (aE D.P.seg (s0 ""))=true→Z)∧(lh (aE D.P.seg (s0 ""))=false→Z)
noncomputable def lq(b:Bool)(D:Dc)(xs:List Int)(Z:Prop):Prop:=match b with
 |true=>FN D xs Z
 |false=>Z
noncomputable def zS(D:Dc):Bool:=match D.P.data with
  | true=>match D.is8 with
    |true=>true
    |false=>D.w==1
  |false=>false
noncomputable def Mm(b:Bool)(R83 Z:Prop):Prop:=match b with
 |true=>R83
 |false=>Z
noncomputable def xW(D:Dc)(Z:Prop):Prop:=match D.P.lock with
 |true=>(∃d size,AQ d size (Am D))∧Z
 |false=>Z
theorem Cb(R:Addr→Prop)(KU:V→Prop){D:Dc}{seg:Str}{data lock is8:Bool}{w:Int}(rex d m y:Int)(n:Nat)(xs:List Int)(a:Int)(hD:D=⟨⟨seg,data,0,lock,rex⟩,n,d,is8,w,true,m,y⟩)(hw:w=0∨w=1) :
  ao (PY D R) mU [.named 1,.bytes false xs,.int false a] ⟨.nil,0⟩ (aV KU) =
  pN D xs a (R 83) (lq data D xs (DO D xs a (R 83) (Mm (zS D) (R 83) (xW D (L5 D (KU (Kb D a))))))):=by
 subst hD
 have k1:=rM data;have k2:=rM lock;have k3:=rM is8;have k4:=zV hw;clear hw;revert data lock is8 w k1 k2 k3 k4
 exact@(qT (by kernel_rfl))
theorem Jl(R:Addr→Prop)(KU:V→Prop){D:Dc}{seg:Str}{data is8:Bool}{w rep:Int}(rex d m y:Int)(n:Nat)(xs:List Int)(a:Int)(hD:D=⟨⟨seg,data,rep,false,rex⟩,n,d,is8,w,true,m,y⟩)(hw:w=0∨w=1)(hr:rep=242∨rep=243) :
  ao (PY D R) mU [.named 1,.bytes false xs,.int false a] ⟨.nil,0⟩ (aV KU) =
  pN D xs a (R 83) (FN D xs (lq data D xs (DO D xs a (R 83) (Mm (zS D) (R 83) (L5 D ((∃d',0≤d'∧d' < 7∧bC D.d=bC d')∧R 83)))))):=by
 subst hD
 have k1:=rM data;have k2:=rM is8;have k3:=zV hw;have k4:=zV hr;clear hw hr;revert data is8 w rep k1 k2 k3 k4
 exact@(qT (by kernel_rfl))
theorem Kg(R:Addr→Prop)(KU:V→Prop){D:Dc}{seg:Str}{data is8:Bool}{w:Int}(rex d m y:Int)(n:Nat)(xs:List Int)(a:Int)(hD:D=⟨⟨seg,data,0,true,rex⟩,n,d,is8,w,false,m,y⟩)(hw:w=0∨w=1) :
  ao (PY D R) mU [.named 1,.bytes false xs,.int false a] ⟨.nil,0⟩ (aV KU) =
  pN D xs a (R 83) (lq data D xs (Iy D xs a (R 83) (Mm (zS D) (R 83) (xW D (R 83))))):=by
 subst hD
 have k1:=rM data;have k2:=rM is8;have k3:=zV hw;clear hw;revert data is8 w k1 k2 k3
 exact@(jY (by kernel_rfl))
noncomputable def Je:List V→V
 |[]=>.none
 |a::_=>a
noncomputable def jC:Nat→List V→List V
 |0,_=>[]
 |n+1,l=>Je l::jC n l.tail
noncomputable def G5:Nat→List V→List V
 |0,l=>l
 |n+1,l=>G5 n l.tail
noncomputable def RV(vs:List V)(e n:Int):List V:=jC 7 vs++.int false e::.int true n::jC 9 (G5 9 vs)
noncomputable def D3(vs:List V)(e n:Int):V:=.inst 964 (Ld.zip (RV vs e n))
theorem Ka(R:Addr→Prop)(KU:V→Prop)(f:V)(vs:List V)(e n:Int)(h1:0≤n)(h2:n < 56) :
  ao (gf R) GX [f,D3 vs e n] ⟨.nil,0⟩ (aV KU)=aZ false (e==1) (KU (.bool true true)) (KU (.bool true true)):=by
 have k1:=fZ (k:=56) h1 h2;clear h1 h2;revert n k1
 exact@(gX (by kernel_rfl))
theorem JL{v:V}(h:EV v=true):∃k x,v=.int k x:=by
 unfold EV at h
 cases q:dD v with
 |none=>rw[q]at h;cases h
 |some x=>obtain⟨k,e⟩:=cb q;exact⟨k,x,e⟩
theorem Ba:∀(n:Nat) {l:List V},l.length=n→jC n l=l:=by
  intro n
  induction n with
  |zero=>intro l h;exact(List.length_eq_zero_iff.mp h).symm
  | succ n ih=>
    intro l h
    cases l with
    |nil=>cases h
    |cons a r=>exact congrArg (a::·) (ih (Nat.succ.inj h))
theorem uq(l:List V):aS l l:=by
 induction l with
 |nil=>exact .nil
 |cons a r ih=>exact .cons .refl ih
theorem ti:∀(m k:Nat) (l us:List V),aS (jC k (G5 m l)) us→aS (jC (k+m) l) (jC m l++us):=by
 intro m
 induction m with
 |zero=>intro k l us h;exact h
 |succ m ih=>intro k l us h;exact .cons .refl (ih k l.tail us h)
theorem Fj{fr:V}(h:Oa fr=true):∃vs,fr=.inst 964 (Ld.zip (jC 18 vs))∧EV (Je (G5 7 vs))=true∧EV (Je (G5 8 vs))=true:=by
  cases fr with
  | inst C fs=>
    refine a7 (kj (h:ay (Nat.beq C 964) (ay (mN fs Ld) (ay (EV (nI fs 7)) (EV (nI fs 8))))=true)) fun q1 q=>?_
    refine a7 (kj q) fun q2 q=>?_
    refine a7 (lN q2) fun e l=>?_
    have e2:fs=Ld.zip (jC 18 (fs.map (·.2))):=e.trans (congrArg Ld.zip (Ba 18 l).symm)
    refine a7 (kj q) fun q3 q4=>?_
    refine⟨fs.map (·.2),?_,?_,?_⟩
    · rw[Nat.eq_of_beq_eq_true q1,←e2]
    · rw[e2]at q3;exact q3
    · rw[e2]at q4;exact q4
  |_=>cases h
theorem tC{v:V}{k:Bool}(h:EV v=true):aP v (.int k (zW v)):=by
 refine iB (JL h) fun _ _ rq2=>?_;subst rq2
 exact .int
theorem ON(T:Nat→V)(w:World):∀R as KV,Dt as KV R→∃bs,cu T w as bs∧ao (gf R) GX bs ⟨.nil,0⟩ (aV (aU T w KV)):=by
 intro R as KV h
 obtain⟨f,fr,rfl,h0,_,⟨h1,h2⟩,hk⟩:=Sd h
 refine cJ (Fj h0) fun vs rq1 a b=>?_;subst rq1
 refine⟨[f,D3 vs (zW (Je (G5 7 vs))) (zW (Je (G5 8 vs)))],(aS.cons .refl (.cons (.inst (ow Ld ?_)) .nil)).same,?_⟩
 ·exact ti 7 11 vs _ (.cons (tC a) (.cons (tC b) (uq _)))
 rw[Ka R _ f vs (zW (Je (G5 7 vs))) (zW (Je (G5 8 vs))) h1 h2]
 exact⟨fun _=>⟨_,aP.same .refl,hk⟩,fun _=>⟨_,aP.same .refl,hk⟩⟩
noncomputable def Bo(n size:Int)(KU:V→Prop):Prop:=(0≤n∧n < 16)∧ni size∧KU (DA (d5 n size) (s0 "gpr") n size)
theorem Gv(R:Addr→Prop)(KU:V→Prop)(n:Int)(b:Bool):ao (o9 1 90 R) rT [.int false n,.int true 8,.bool false b] ⟨.nil,0⟩ (aV KU) =
  aZ false b (Bo n 8 KU) (aZ false (decide (4≤n)) (aZ false (decide (n≤7)) ((4≤n∧n < 8)∧KU (DA (gG n) (s0 "high") n 8)) (Bo n 8 KU)) (Bo n 8 KU)):=by kernel_rfl
theorem Gx(R:Addr→Prop)(KU:V→Prop)(n:Int){size:Int}(b:Bool)(h:size=16∨size=32∨size=64):ao (o9 1 90 R) rT [.int false n,.int true size,.bool false b] ⟨.nil,0⟩ (aV KU)=Bo n size KU:=by
 rcases h with rfl|rfl|rfl <;> kernel_rfl
theorem NG (T:Nat→V) (w:World):∀R as KV,Eb as KV R→∃bs,cu T w as bs∧ao (o9 1 90 R) rT bs ⟨.nil,0⟩ (aV (aU T w KV)):=by
  intro R as KV h
  replace h:=Ni h
  obtain⟨k,n,k2,size,k3,b,rfl,h⟩:=h
  refine jD h fun h1 hs hk=>?_
  refine⟨[.int false n,.int true size,.bool false b],(aS.cons .int (.cons .int (.cons .bool .nil))).same,?_⟩
  have low:iV n size b=false→Bo n size (aU T w KV):=fun e=>by
    unfold HC at hk
    rw[e]at hk
    exact⟨h1,hs,_,aP.same .refl,hk⟩
  rcases hs with rfl|hs
  · rw [Gv]
    refine⟨fun e=>low (by subst e;rfl),fun e=>⟨fun e1=>⟨fun e2=>?_,fun e2=>low ?_⟩,fun e1=>low ?_⟩⟩
    · have e1:=of_decide_eq_true e1
      have e2:=of_decide_eq_true e2
      have:iV n 8 b=true:=by
        subst e
        show ay (decide (4≤n)) (decide (n < 8))=true
        rw[decide_eq_true e1,decide_eq_true (by lia:n < 8)];rfl
      unfold HC at hk
      rw[this]at hk
      exact⟨⟨e1,by lia⟩,_,aP.same .refl,hk⟩
    · have e2:=of_decide_eq_false e2
      subst e
      show ay (decide (4≤n)) (decide (n < 8))=false
      rw[e1,decide_eq_false (by lia:¬n < 8)];rfl
    · subst e
      show ay (decide (4≤n)) (decide (n < 8))=false
      rw[e1];rfl
  · rw[Gx R _ n b hs]
    refine low ?_
    rcases hs with rfl|rfl|rfl <;> rfl
theorem JD(R:Addr→Prop)(KU:V→Prop){rm:Int}(sib disp x b size:Int)(seg:Str)(h:rm=0∨rm=1∨rm=2∨rm=3∨rm=5∨rm=6∨rm=7):ao (o9 1 90 R) BL [.int true 1,.int true rm,.int false sib,.int false disp,.int false x,.int false b,.int false size,.str false seg] ⟨.nil,0⟩ (aV KU) =
  ((0≤rm+8*b∧rm+8*b < 16)∧ni 64∧KU (Jy rm b disp size seg)):=by
 have k1:=Th h;clear h;revert rm k1
 exact@(gX (by kernel_rfl))
noncomputable def Pb:List Int→List Bool→List V
  |[],_=>[]
  | x::l,f=>match f with
    |[]=>.int false x::Pb l []
    |b::f=>.int b x::Pb l f
theorem uM {s:Str}:∀{as:List V} {l:List Int} (f:List Bool),rU as=some (l,s)→aS as (Pb l f++[.str false s]):=by
  intro as
  induction as with
  |nil=>intro _ _ h;cases h
  | cons a r ih=>
    intro l f h
    cases r with
    | nil=>
      cases q:H9 a with
      |none=>exact absurd ((show(match H9 a with|some s=>some (([]:List Int),s)|none=>none)=_ from h)) (by rw[q];exact fun e=>nomatch e)
      | some x=>
        refine bz (u6 q) fun k rq1=>?_;subst rq1
        cases h
        exact .cons .str .nil
    | cons b r=>
      replace h:(match dD a with|some x=>(match rU (b::r)with|some p=>some (x::p.1,p.2)|none=>none)|none=>none)=some (l,s):=h
      cases q:dD a with
      |none=>rw[q]at h;cases h
      | some x=>
        cases q2:rU (b::r)with
        |none=>rw[q,q2]at h;cases h
        | some p=>
          rw[q,q2]at h
          refine bz (cb q) fun k rq1=>?_;subst rq1
          cases h
          cases f with
          |nil=>exact .cons .int (ih [] q2)
          |cons c f=>exact .cons .int (ih f q2)
theorem Km{l:List Int}(h:SH l=1):l.length=7:=by
  cases q:Nat.beq l.length 7 with
  |true=>exact Nat.eq_of_beq_eq_true q
  | false=>
    have h:(match Nat.beq l.length 7 with|true=>aG l 0|false=>0)=1:=h
    rw[q]at h
    cases h
theorem LQ(T:Nat→V)(w:World):∀R as KV,DH as KV R→∃bs,cu T w as bs∧ao (o9 1 90 R) BL bs ⟨.nil,0⟩ (aV (aU T w KV)):=by
 intro R as KV h
 obtain⟨⟨l,seg⟩,e,h0,hr,hb,hk⟩:=KC h
 have e:=(uM [true,true] e).same (T:=T) (w:=w)
 have L:=Km h0
 refine aW (da L) fun md r1 rq2 l1=>?_;subst rq2
 refine aW (da l1) fun rm r2 rq2 l2=>?_;subst rq2
 refine aW (da l2) fun sib r3 rq2 l3=>?_;subst rq2
 refine aW (da l3) fun disp r4 rq2 l4=>?_;subst rq2
 refine aW (da l4) fun x r5 rq2 l5=>?_;subst rq2
 refine aW (da l5) fun b r6 rq2 l6=>?_;subst rq2
 refine aW (da l6) fun size r7 rq2 l7=>?_;subst rq2
 obtain rfl:=Cy l7
 obtain rfl:md=1:=h0
 have hr:0≤rm∧rm < 8∧rm≠4:=hr
 have hb:b=0∨b=1:=hb
 refine⟨_,e,?_⟩
 show ao (o9 1 90 R) BL [.int true 1,.int true rm,.int false sib,.int false disp,.int false x,.int false b,.int false size,.str false seg] ⟨.nil,0⟩ _
 rw[JD R _ sib disp x b size seg (by lia)]
 exact⟨by lia,.inr (.inr (.inr rfl)),_,aP.same .refl,hk⟩
noncomputable def BB(xs:List Int)(p:Int)(R83:Prop)(Z:Int→Prop):Prop:=few xs.length=true∧(decide (Int.ofNat xs.length < p+1)=true→R83)∧
 (decide (Int.ofNat xs.length < p+1)=false→decide (0≤p)=true∧decide (0≤p+1)=true∧few xs.length=true∧∃y,cut xs (some p.toNat) (some (p+1).toNat)=[y]∧0≤y∧y < 256∧Z y)
noncomputable def E7(m:Int)(sib:V)(y p:Int):V:=.tup [.int true 1,.int false ((m.fdiv 8).fmod 8),.int false (m.fmod 8),sib,.int false (nV y),.int true 1,.int false (p+1)]
theorem C5(R:Addr→Prop)(KU:V→Prop)(xs:List Int)(a:Int):ao (o9 1 90 R) Hb [.bytes false xs,.int false a] ⟨.nil,0⟩ (aV KU)=(few xs.length=true∧0≤a∧a.toNat < xs.length∧((64≤aG xs a.toNat∧aG xs a.toNat < 128)∨(192≤aG xs a.toNat∧aG xs a.toNat < 256))∧
  (aG xs a.toNat < 128→(((aG xs a.toNat).fmod 8==4)=true→few xs.length=true∧0≤a+1∧(a+1).toNat < xs.length∧BB xs (a+1+1) (R 83) fun y=>KU (E7 (aG xs a.toNat) (.int false (aG xs (a+1).toNat)) y (a+1+1)))∧
   (((aG xs a.toNat).fmod 8==4)=false→BB xs (a+1) (R 83) fun y=>KU (E7 (aG xs a.toNat) (.int true (-1)) y (a+1))))∧
  (192≤aG xs a.toNat→few xs.length=true∧(decide (Int.ofNat xs.length < a+1+0)=true→R 83)∧(decide (Int.ofNat xs.length < a+1+0)=false→KU (.tup [.int true 3,.int false (((aG xs a.toNat).fdiv 8).fmod 8),.int false ((aG xs a.toNat).fmod 8),.int true (-1),.int true 0,.int true 0,.int false (a+1+0)])))):=by kernel_rfl
theorem CU(xs:List Int):∀(n:Nat),n < xs.length→kK (kG xs n) 1=[aG xs n]:=by
  induction xs with
  |nil=>exact fun _ h=>nomatch h
  | cons x r ih=>
    intro n h
    cases n with
    |zero=>cases r <;> rfl
    |succ n=>exact ih n (Nat.lt_of_succ_lt_succ h)
theorem wt(xs:List Int)(n:Nat)(h:n < xs.length):cut xs (some n) (some (n+1))=[aG xs n]:=by
 show kK (kG xs n) (n+1 - n)=_
 rw[Nat.add_sub_cancel_left]
 exact CU xs n h
noncomputable def Dc.Mrm(D:Dc):Prop:=(D.md=true→64≤D.m∧D.m < 128∧D.m.fmod 8≠4∧0≤D.y∧D.y < 256)∧(D.md=false→192≤D.m∧D.m < 256)
set_option tactic.hygienic true in
theorem GF(T:Nat→V)(w:World){D:Dc}(hD:D.Mrm):∀R as KV,mI D as KV R→∃bs,cu T w as bs∧ao (o9 1 90 R) Hb bs ⟨.nil,0⟩ (aV (aU T w KV)):=by
 intro R as KV h
 replace h:=LB h
 obtain⟨k,xs,k2,a,rfl,h⟩:=h
 refine⟨[.bytes false xs,.int false a],(aS.cons .bytes (.cons .int .nil)).same,?_⟩
 rw[C5]
 split at h
 ·rename_i hm
  refine t7 (hD.1 hm) fun h64 h128 h4 hy hy2=>?_
  obtain⟨⟨h0,hf,hl,e1,e2⟩,hk⟩:=h
  have st:=fT h0
  have hlen:Int.ofNat xs.length=(xs.length:Int):=rfl
  rw[e1]
  refine⟨hf,h0,by lia,.inl ⟨h64,h128⟩,fun _=>⟨fun e=>?_,fun _=>⟨hf,fun e=>?_,fun e=>⟨decide_eq_true (by lia),decide_eq_true (by lia),hf,D.y,?_,hy,hy2,_,aP.same .refl,?_⟩⟩⟩,fun e=>by lia⟩
  ·rw[beq_iff_eq]at e;exact absurd e h4
  ·have e:=of_decide_eq_true e
   rw[hlen]at e;lia
  ·rw[st,fT (by lia),st,wt xs _ hl,e2]
  ·show KV (E7 _ _ _ (a+1))
   unfold E7
   rw[show a+1+1=a+2 by lia]
   exact hk
 ·rename_i hm
  refine a7 (hD.2 hm) fun h192 h256=>?_
  obtain⟨⟨h0,hf,hl,e1⟩,hk⟩:=h
  have hlen:Int.ofNat xs.length=(xs.length:Int):=rfl
  rw[e1]
  refine⟨hf,h0,hl,.inr ⟨h192,h256⟩,fun e=>by lia,fun _=>⟨hf,fun e=>?_,fun e=>⟨_,aP.same .refl,?_⟩⟩⟩
  ·have e:=of_decide_eq_true e
   rw[hlen]at e;lia
  ·rw[Int.add_zero];exact hk
noncomputable abbrev Lv(R:Addr→Prop):Ev:=ev {Nk with R:=R} 140
noncomputable def jz(p:Pf):PyData:=.tuple [.str p.seg,.bool p.data,.int p.rep,.bool p.lock,.int p.rex]
theorem wI(p:Pf):fB 8 (jz p) (jz p)=true:=by
 rw[jh];simp[jz,PyData.eqv,PyData.eqvAll]
noncomputable def Cj(xs ah:List Int)(Z:Prop):Prop:=ay (few ah.length) (few xs.length)=true∧bb bV (bc ah xs)=true∧few (bc ah xs).length=true∧few ah.length=true∧(0≤Int.ofNat ah.length∧few (bc ah xs).length=true∧(bc ah xs).length≤90)∧Z
theorem Nm(R:Addr→Prop)(KU:V→Prop)(xs ah:List Int):ao (Lv R) wH [.irow false xs,.irow false ah] ⟨.nil,0⟩ (aV KU)=(xs.length≤6∧
  (∀p e,fA xs jN 0=some (p,e)→Cj xs ah ((∀p' e',rp (bc ah xs) (Int.ofNat ah.length).toNat=some (p',e')→few ah.length=true∧KU (.bool false (fB 8 (.tuple [jz p',.int (Int.ofNat e')]) (.tuple [jz p,.int (Int.ofNat ah.length+Int.ofNat e)]))))∧
   (rp (bc ah xs) (Int.ofNat ah.length).toNat=none→KU (.bool true false))))∧
  (fA xs jN 0=none→Cj xs ah ((∀p' e',rp (bc ah xs) (Int.ofNat ah.length).toNat=some (p',e')→KU (.bool true false))∧(rp (bc ah xs) (Int.ofNat ah.length).toNat=none→KU (.bool true true))))):=by kernel_rfl
theorem yP(xs:List Int):∀(p:Pf) (n k:Nat),fA xs p (n+k)=(fA xs p n).map fun q=>(q.1,q.2+k):=by
  induction xs with
  |nil=>intro _ _ _;rfl
  | cons x r ih=>
    intro p n k
    rw[cV,cV,show n+k+1=(n+1)+k by lia]
    split
    · split
      · rfl
      · exact ih _ _ k
    · cases aT x <;> first|rfl|(cases dn p x with|none=>rfl|some q=>exact ih q (n+1) k)
theorem J6(ah xs:List Int):rp (bc ah xs) (Int.ofNat ah.length).toNat=(fA xs jN 0).map fun q=>(q.1,q.2+ah.length):=by
 unfold rp
 rw[show(Int.ofNat ah.length).toNat=ah.length from rfl,aD,List.drop_left]
 have:=yP xs jN 0 ah.length
 rwa [Nat.zero_add]at this
theorem fJ:∀{ah xs:List Int},dm ah→dm xs→bb bV (bc ah xs)=true
  |[],[],_,_=>rfl
  | [],x::r,_,h=>by
    have e:bV x=true:=by
      unfold bV
      rw[decide_eq_true h.1.1]
      exact decide_eq_true h.1.2
    show(match bV x with|true=>bb bV r|false=>false)=true
    rw[e]
    exact fJ (ah:=[]) (xs:=r) trivial h.2
  | x :: r,xs,h,h'=>by
    have e:bV x=true:=by
      unfold bV
      rw[decide_eq_true h.1.1]
      exact decide_eq_true h.1.2
    show(match bV x with|true=>bb bV (bc r xs)|false=>false)=true
    rw[e]
    exact fJ (ah:=r) (xs:=xs) h.2 h'
set_option tactic.hygienic true in
theorem QL(T:Nat→V)(w:World):∀R as KV,d6 as KV R→∃bs,cu T w as bs∧ao (Lv R) wH bs ⟨.nil,0⟩ (aV (aU T w KV)):=by
 intro R as KV h
 replace h:=Sd h
 obtain⟨_,_,rfl,h⟩:=h
 split at h
 case h_2=>exact h.elim
 split at h
 case h_2=>exact h.elim
 rename_i v u _ xs hx _ ah ha
 refine t7 h fun h1 h2 o1 o2 hk=>?_
 refine⟨[.irow false xs,.irow false ah],(aS.cons (gc hx) (.cons (gc ha) .nil)).same,?_⟩
 rw[Nm,J6]
 have pre:∀{Z:Prop},Z→Cj xs ah Z:=fun z=>by
  have hl:(bc ah xs).length=ah.length+xs.length:=by rw[aD,List.length_append]
  refine⟨?_,fJ o2 o1,c0 (by lia),c0 (by lia),⟨?_,c0 (by lia),by lia⟩,z⟩
  ·rw[c0 (by lia:ah.length≤1000),c0 (by lia:xs.length≤1000)];rfl
  ·show(0:Int)≤(ah.length:Int);lia
 have out:∀b:Bool,b=true→aU T w KV (.bool false b):=fun b e=>⟨.bool true true,aP.same (by rw[e];exact .bool),hk⟩
 refine⟨h1,fun p e he=>pre ?_,fun he=>pre ?_⟩
 ·rw[he]
  refine⟨fun p' e' q=>?_,fun q=>by cases q⟩
  cases q
  refine⟨c0 (by lia),out _ ?_⟩
  have:Int.ofNat (e+ah.length)=Int.ofNat ah.length+Int.ofNat e:=by
   show((e+ah.length:Nat):Int)=(ah.length:Int)+(e:Int)
   lia
  rw[jh,this]
  have:=wI p
  rw[jh]at this
  simp[PyData.eqv,PyData.eqvAll,this]
 ·rw[he]
  exact⟨fun p' e' q=>(by cases q),fun _=>⟨_,aP.same .bool,hk⟩⟩
noncomputable def mb(x:Int)(K:Bool→Prop):Prop:=(x=0∨x=1)∧(x=0→K false)∧(x=1→K true)
noncomputable def sN(b:Bool)(x:Int):List Int:=match b with
 |true=>[x]
 |false=>[]
noncomputable def rK(KU:V→Prop)(R83:Prop)(P:Pf)(row:List Int)(b0 b1 b2 b3:Int):Prop:=
 (lh (fB 8 (.tuple [.int (aY P.rex 8),.int (aY P.rex 4),.int (aY P.rex 2),.int (aY P.rex 1)]) (.tuple [.int b0,.int b1,.int b2,.int b3]))=true→KU (.bool true false))∧
 (lh (fB 8 (.tuple [.int (aY P.rex 8),.int (aY P.rex 4),.int (aY P.rex 2),.int (aY P.rex 1)]) (.tuple [.int b0,.int b1,.int b2,.int b3]))=false→
  P.Ok∧((0:Int)≤0∧few (eZ P).length=true∧(eZ P).length≤90)∧
  (∀p e,rp (eZ P) 0=some (p,e)→P.Ok∧few (eZ P).length=true∧
   (fB 8 (.list (dG (eZ P))) (.list (dG row))=true→(fB 8 (jz p) (jz P)=true→KU (.bool false (Int.ofNat e==Int.ofNat row.length)))∧(fB 8 (jz p) (jz P)=false→KU (.bool true false)))∧
   (fB 8 (.list (dG (eZ P))) (.list (dG row))=false→KU (.bool true false)))∧
  (rp (eZ P) 0=none→R83))
noncomputable def my(y:Int):Int:=64+8*(y.fdiv 48).fmod 2+4*(y.fdiv 96).fmod 2+2*(y.fdiv 192).fmod 2+(y.fdiv 384).fmod 2
noncomputable def Gy(KU:V→Prop)(R83:Prop)(y:Int)(hasR:Bool)(w:Str)(d:Bool)(r:Int)(l:Bool)(row:List Int):Prop:=match hasR with
 |true=>aZ false (decide (0≤my y)) (rK KU R83 ⟨w,d,r,l,my y⟩ (bc row [my y]) ((y.fdiv 48).fmod 2) ((y.fdiv 96).fmod 2) ((y.fdiv 192).fmod 2) ((y.fdiv 384).fmod 2)) (rK KU R83 ⟨w,d,r,l,my y⟩ row 0 0 0 0)
 |false=>rK KU R83 ⟨w,d,r,l,-1⟩ row 0 0 0 0
noncomputable def Lw(y:Int):Bool:=(y.fdiv 3).fmod 2==1
noncomputable def GJ(KU:V→Prop)(R83:Prop)(y:Int)(hasR:Bool)(w:Str)(r:Int)(lk:Bool)(sg:List Int):Prop:=mb (bI (Lw y)) fun bd=>mb (bI (decide (0 < r))) fun br=>match lk with
 |true=>mb (bI (r==0)) fun bl=>Gy KU R83 y hasR w (Lw y) r (r==0) (bc sg (bc (sN bd 102) (bc (sN br r) (sN bl 240))))
 |false=>Gy KU R83 y hasR w (Lw y) r false (bc sg (bc (sN bd 102) (sN br r)))
noncomputable def Lk(KU:V→Prop)(R83:Prop)(y:Int)(hasR:Bool)(w:Str)(r:Int)(lk:Bool):Prop:=aZ false (lh (aE w (s0 "")))
 (∃J:Int→Prop,aZ false (aE w (s0 "fs")) (J 100) (aZ false (aE w (s0 "gs")) (J 101) False)∧∀s,J s→GJ KU R83 y hasR w r lk [s]) (GJ KU R83 y hasR w r lk [])
noncomputable def H8(KU:V→Prop)(R83:Prop)(y:Int)(hasR:Bool)(w:Str)(r:Int):Prop:=aZ false ((y.fdiv 24).fmod 2==1) (Lk KU R83 y hasR w r true) (Lk KU R83 y hasR w r false)
noncomputable def yy(b:Int):Prop:=0≤b∧b≤1
noncomputable def KW:List V:=[.str true (s0 ""),.str true (s0 "fs"),.str true (s0 "gs")]
noncomputable def MY:List V:=[.int true 0,.int true 0,.int true 242,.int true 243]
theorem Gl(R:Addr→Prop)(KU:V→Prop)(xs:List Int):ao (Lv R) w3 [.irow false xs] ⟨.nil,0⟩ (aV KU)=(xs.length≤63∧((0:Int)≤9∧(9:Int) < 18)∧∀y,0≤y→
  ∃J:Str→Prop,(0≤y.fmod 3∧y.fmod 3 < 3∧gn KW (y.fmod 3) 0 (lY J))∧∀w,J w→
  ∃J:Int→Prop,(0≤(y.fdiv 6).fmod 4∧(y.fdiv 6).fmod 4 < 4∧gn MY ((y.fdiv 6).fmod 4) 0 (ki J))∧∀r,J r→
  aZ false ((y.fdiv 768).fmod 2==0) (yy ((y.fdiv 48).fmod 2)∧yy ((y.fdiv 96).fmod 2)∧yy ((y.fdiv 192).fmod 2)∧yy ((y.fdiv 384).fmod 2)∧H8 KU (R 83) y true w r) (H8 KU (R 83) y false w r)):=by kernel_rfl
noncomputable def jd(seg:Str)(data:Bool)(rep:Int)(lock:Bool):List Int:=jn seg++(if data then[102]else[])++(if rep==0 then[]else[rep])++(if lock then[240]else[])
theorem GW{seg:Str}{data lock:Bool}{rep:Int}(h1:seg=s0 ""∨seg=s0 "fs"∨seg=s0 "gs")(h2:rep=0∨rep=242∨rep=243)(h3:lock=true→rep=0)(rest:List Int)(n:Nat) :
    fA (jd seg data rep lock++rest) jN n=fA rest ⟨seg,data,rep,lock,-1⟩ (n+(jd seg data rep lock).length):=by
  cases lock with
  | false=>
    have k1:=z0 h1;have k2:=rM data;have k3:=z0 h2;clear h1 h2 h3;revert seg data rep k1 k2 k3
    exact@(jY (by kernel_rfl))
  | true=>
    have h3:=h3 rfl;subst h3
    have k1:=z0 h1;have k3:=rM data;clear h1 h2;revert seg data k1 k3
    exact@(mD (by kernel_rfl))
theorem mB{x:Int}(h1:64≤x)(h2:x < 80):bq x=true:=by
 unfold bq
 rw[beq_iff_eq,Int.fdiv_eq_ediv_of_nonneg _ (by decide)]
 lia
theorem vH{P:Pf}(ok:P.Ok):rp (eZ P) 0=some (P,(eZ P).length):=by
 obtain⟨seg,data,rep,lock,rex⟩:=P
 have h:=GW (data:=data) ok.seg ok.rep ok.lock (if 0≤rex then[rex]else[]) 0
 have e:eZ ⟨seg,data,rep,lock,rex⟩=jd seg data rep lock++(if 0≤rex then[rex]else[]):=rfl
 rw[e]
 unfold rp
 rw[List.drop_zero,h]
 have hr:=ok.rex
 dsimp only at hr
 rcases hr with rfl|⟨r1,r2⟩
 ·rw[if_neg (by decide),Nat.zero_add,List.append_nil];rfl
 ·rw[if_pos (by lia),cV,mB r1 r2,if_pos rfl,if_neg (show ¬(0≤(-1:Int)) by decide),List.length_append,Nat.zero_add];rfl
theorem oY{w:Str}(h:w=s0 ""∨w=s0 "fs"∨w=s0 "gs"):(w=s0 ""∧jn w=[])∨(w=s0 "fs"∧jn w=[100])∨(w=s0 "gs"∧jn w=[101]):=by
 rcases h with rfl|rfl|rfl
 ·exact .inl ⟨rfl,rfl⟩
 ·exact .inr (.inl ⟨rfl,rfl⟩)
 ·exact .inr (.inr ⟨rfl,rfl⟩)
theorem AM:∀(l:List Int),fB 8 (.list (dG l)) (.list (dG l))=true:=fun l=>by
 rw[jh]
 have:∀l:List Int,PyData.eqvAll (dG l) (dG l)=true:=fun l=>by
  induction l with
  |nil=>rfl
  |cons x r ih=>show PyData.eqvAll (.int x::dG r) (.int x::dG r)=true;simp[PyData.eqvAll,PyData.eqv,ih]
 simp[PyData.eqv,this]
theorem sG{T:Nat→V}{w:World}{KV:V→Prop}{R83:Prop}{P:Pf}{row:List Int}{b0 b1 b2 b3:Int}(hk:KV (.bool true true))(ok:P.Ok)(hrow:eZ P=row)(h0:aY P.rex 8=b0)(h1:aY P.rex 4=b1)(h2:aY P.rex 2=b2)(h3:aY P.rex 1=b3) :
  rK (aU T w KV) R83 P row b0 b1 b2 b3:=by
 have hl:(eZ P).length≤6:=by
  have q:∀(c:Prop) [Decidable c] (x:Int),(if c then[x]else[]).length≤1:=fun c _ x=>by split <;> simp
  have q':∀(c:Prop) [Decidable c] (x:Int),(if c then[]else[x]).length≤1:=fun c _ x=>by split <;> simp
  have q2:(jn P.seg).length≤1:=by
   unfold jn
   split
   ·decide
   ·split <;> decide
  unfold eZ
  simp only [List.length_append]
  have a:=q (P.data=true) 102
  have b:=q' ((P.rep==0)=true) P.rep
  have c:=q (P.lock=true) 240
  have d:=q (0≤P.rex) P.rex
  lia
 subst h0 h1 h2 h3 hrow
 have eb:fB 8 (.tuple [.int (aY P.rex 8),.int (aY P.rex 4),.int (aY P.rex 2),.int (aY P.rex 1)]) (.tuple [.int (aY P.rex 8),.int (aY P.rex 4),.int (aY P.rex 2),.int (aY P.rex 1)])=true:=by
  rw[jh];simp[PyData.eqv,PyData.eqvAll]
 unfold rK
 rw[eb]
 refine⟨fun e=>(by cases e),fun _=>⟨ok,⟨by decide,c0 (by lia),by lia⟩,fun p e he=>⟨ok,c0 (by lia),fun _=>⟨fun _=>?_,fun q=>?_⟩,fun q=>?_⟩,fun q=>?_⟩⟩
 ·rw[vH ok]at he
  cases he
  refine⟨_,aP.same (u:=.bool true true) ?_,hk⟩
  rw[beq_self_eq_true];exact .bool
 ·rw[vH ok]at he
  cases he
  rw[wI]at q;cases q
 ·rw[AM]at q;cases q
 ·rw[vH ok]at q;cases q
theorem Et(b:Bool):bI b=0∨bI b=1:=by cases b <;> simp[bI]
theorem Ax{b:Bool}{K:Bool→Prop}(h:K b):mb (bI b) K:=by
 refine⟨Et b,fun e=>?_,fun e=>?_⟩
 ·cases b
  ·exact h
  ·cases e
 ·cases b
  ·cases e
  ·exact h
theorem rd{b0 b1 b2 b3:Int}(h0:b0=0∨b0=1)(h1:b1=0∨b1=1)(h2:b2=0∨b2=1)(h3:b3=0∨b3=1):aY (64+8*b0+4*b1+2*b2+b3) 8=b0∧aY (64+8*b0+4*b1+2*b2+b3) 4=b1∧aY (64+8*b0+4*b1+2*b2+b3) 2=b2∧aY (64+8*b0+4*b1+2*b2+b3) 1=b3:=by
 refine of_decide_eq_true ?_
 have k1:=zV h0;have k2:=zV h1;have k3:=zV h2;have k4:=zV h3;clear h0 h1 h2 h3;revert b0 b1 b2 b3 k1 k2 k3 k4
 exact@(qT (by kernel_rfl))
theorem qh(y:Int):y.fmod 2=0∨y.fmod 2=1:=by
 have h1:=aQ y (n:=2) (by decide)
 have h2:=a6 y (n:=2) (by decide)
 lia
theorem xF{T:Nat→V}{w:World}{KV:V→Prop}{R83:Prop}{y:Int}{hasR:Bool}{wd:Str}{d:Bool}{r:Int}{l:Bool}{row:List Int}(hk:KV (.bool true true))(hw:wd=s0 ""∨wd=s0 "fs"∨wd=s0 "gs")(hr:r=0∨r=242∨r=243)
  (hl:l=true→r=0) (hrow:row=jd wd d r l):Gy (aU T w KV) R83 y hasR wd d r l row:=by
 have a0:=qh (y.fdiv 48)
 have a1:=qh (y.fdiv 96)
 have a2:=qh (y.fdiv 192)
 have a3:=qh (y.fdiv 384)
 unfold Gy
 split
 ·refine ym (rd a0 a1 a2 a3) fun e0 e1 e2 e3=>?_
  refine⟨fun _=>sG hk ⟨hw,hr,hl,.inr ?_⟩ ?_ e0 e1 e2 e3,fun e=>?_⟩
  ·show 64≤my y∧my y < 80
   unfold my;lia
  ·show jd wd d r l++(if 0≤my y then[my y]else[])=_
   rw[if_pos (by unfold my;lia),aD,hrow]
  ·have e:=of_decide_eq_false e
   unfold my at e;lia
 ·refine sG hk ⟨hw,hr,hl,.inl rfl⟩ ?_ rfl rfl rfl rfl
  show jd wd d r l++[]=_
  rw[List.append_nil,hrow]
theorem pV{T:Nat→V}{w:World}{KV:V→Prop}{R83:Prop}{y:Int}{hasR:Bool}{wd:Str}{r:Int}{lk:Bool}{sg:List Int}(hk:KV (.bool true true))(hw:wd=s0 ""∨wd=s0 "fs"∨wd=s0 "gs")(hr:r=0∨r=242∨r=243)
  (hs:sg=jn wd):GJ (aU T w KV) R83 y hasR wd r lk sg:=by
 have er:sN (decide (0 < r)) r=if r==0 then[]else[r]:=by rcases hr with rfl|rfl|rfl <;> rfl
 have ed:sN (Lw y) 102=if Lw y then[102]else[]:=by cases Lw y <;> rfl
 unfold GJ
 refine Ax (Ax ?_)
 split
 ·refine Ax (xF hk hw hr (fun e=>by simpa using e) ?_)
  have:sN (r==0) 240=if r==0 then[240]else[]:=by cases r==0 <;> rfl
  simp only [aD,hs,er,ed,this,jd,List.append_assoc]
 ·refine xF hk hw hr (fun e=>by cases e) ?_
  simp only [aD,hs,er,ed,jd,List.append_assoc,Bool.false_eq_true,if_false,List.append_nil]
theorem lp{T:Nat→V}{w:World}{KV:V→Prop}{R83:Prop}{y:Int}{hasR:Bool}{wd:Str}{r:Int}{lk:Bool}(hk:KV (.bool true true))(hw:wd=s0 ""∨wd=s0 "fs"∨wd=s0 "gs")(hr:r=0∨r=242∨r=243):Lk (aU T w KV) R83 y hasR wd r lk:=by
 rcases oY hw with⟨rfl,h⟩|⟨rfl,h⟩|⟨rfl,h⟩
 ·exact⟨fun e=>(by cases e),fun _=>pV hk hw hr h.symm⟩
 ·exact⟨fun _=>⟨fun s=>s=100,⟨fun _=>rfl,fun e=>(by cases e)⟩,fun s e=>pV hk hw hr (by rw[h,e])⟩,fun e=>(by cases e)⟩
 ·exact⟨fun _=>⟨fun s=>s=101,⟨fun e=>(by cases e),fun _=>⟨fun _=>rfl,fun e=>(by cases e)⟩⟩,fun s e=>pV hk hw hr (by rw[h,e])⟩,fun e=>(by cases e)⟩
theorem Jh(T:Nat→V)(w:World):∀R as KV,d8 as KV R→∃bs,cu T w as bs∧ao (Lv R) w3 bs ⟨.nil,0⟩ (aV (aU T w KV)):=by
 intro R as KV h
 replace h:=dR h
 obtain⟨k,xs,rfl,h⟩:=h
 refine a7 h fun hl hk=>?_
 refine⟨[.irow false xs],(aS.cons .irow .nil).same,?_⟩
 rw[Gl]
 refine⟨hl,by decide,fun y hy=>⟨fun w=>w=s0 ""∨w=s0 "fs"∨w=s0 "gs",⟨aQ _ (by decide),a6 _ (by decide),fun _=>.inl rfl,fun _=>.inr (.inl rfl),fun _=>.inr (.inr rfl),trivial⟩,fun wd hw=>
  ⟨fun r=>r=0∨r=242∨r=243,⟨aQ _ (by decide),a6 _ (by decide),fun _=>.inl rfl,fun _=>.inl rfl,fun _=>.inr (.inl rfl),fun _=>.inr (.inr rfl),trivial⟩,fun r hr=>?_⟩⟩⟩
 have b:∀z:Int,yy (z.fmod 2):=fun z=>by have:=qh z;unfold yy;lia
 exact⟨fun _=>⟨b _,b _,b _,b _,fun _=>lp hk hw hr,fun _=>lp hk hw hr⟩,fun _=>⟨fun _=>lp hk hw hr,fun _=>lp hk hw hr⟩⟩
noncomputable abbrev Sh(R:Addr→Prop):Ev:=ev {NK with R:=R} 190
noncomputable def HT:List V:=[.int true 100,.int true 101,.int true 102,.int true 240,.int true 242,.int true 243,.int true 64,.int true 72,.int true 79,.int true 38,.int true 46,.int true 103,.int true 144,.int true 0,.int true 128,.int true 80,.int true 63]
noncomputable def gj(xs:List Int)(k:Int)(K:Int→Prop):Prop:=xs.length≤63∧(0≤k∧k < 18)∧∀y,0≤y→K y
noncomputable def Jw(KU:V→Prop)(xs ys:List Int):Prop:=gj xs 1 fun y=>decide (0≤y.fmod 4)=true∧ys.length≤6∧(cut [(102:Int),240,72] none (some (y.fmod 4).toNat)).length≤3∧dm ys∧dm (cut [102,240,72] none (some (y.fmod 4).toNat))∧KU (.bool true true)
noncomputable def GL(KU:V→Prop)(xs:List Int):Nat→Nat→List Int→Prop
 |0,_,ys=>Jw KU xs ys
 |k+1,i,ys=>gj xs (2+Int.ofNat i) fun y=>aZ false (decide ((y.fdiv 17).fmod 4 < 3)) (∃J:Int→Prop,(0≤y.fmod 17∧y.fmod 17 < 17∧gn HT (y.fmod 17) 0 (ki J))∧∀x,J x→GL KU xs k (i+1) (bc ys [x])) (GL KU xs k (i+1) (bc ys [(y.fdiv 68).fmod 256]))
theorem Le(R:Addr→Prop)(KU:V→Prop)(xs:List Int):ao (Sh R) xY [.irow false xs] ⟨.nil,0⟩ (aV KU)=gj xs 0 fun y=>0≤y.fmod 7∧y.fmod 7 < 8∧Ea 8 (y.fmod 7) fun k=>GL KU xs k 0 []:=by kernel_rfl
theorem Dp{J:Int→Prop}(h:∀x,0≤x→x < 256→J x)(y:Int):gn HT y 0 (ki J):=
 ⟨fun _=>h _ (by decide) (by decide),fun _=>h _ (by decide) (by decide),fun _=>h _ (by decide) (by decide),fun _=>h _ (by decide) (by decide),fun _=>h _ (by decide) (by decide),fun _=>h _ (by decide) (by decide),fun _=>h _ (by decide) (by decide),fun _=>h _ (by decide) (by decide),fun _=>h _ (by decide) (by decide),fun _=>h _ (by decide) (by decide),fun _=>h _ (by decide) (by decide),fun _=>h _ (by decide) (by decide),fun _=>h _ (by decide) (by decide),fun _=>h _ (by decide) (by decide),fun _=>h _ (by decide) (by decide),fun _=>h _ (by decide) (by decide),fun _=>h _ (by decide) (by decide),trivial⟩
theorem oW{ys:List Int}{x:Int}(h:dm ys)(h1:0≤x)(h2:x < 256):dm (bc ys [x]):=by
 induction ys with
 |nil=>exact⟨⟨h1,h2⟩,trivial⟩
 |cons y r ih=>exact⟨h.1,ih h.2⟩
theorem lE{ys:List Int}(h:bb bV ys=true):dm ys:=by
 induction ys with
 |nil=>trivial
 |cons y r ih=>exact ar (a9 h).1 fun a b=>⟨⟨of_decide_eq_true a,of_decide_eq_true b⟩,ih (a9 h).2⟩
theorem PK {P:Nat→Prop} (h0:P 0) (h1:P 1) (h2:P 2) (h3:P 3) {n:Nat} (h:n < 4):P n:=by
  cases n with
  |zero=>exact h0
  | succ n=>cases n with
    |zero=>exact h1
    | succ n=>cases n with
      |zero=>exact h2
      | succ n=>cases n with
        |zero=>exact h3
        |succ n=>exact absurd h (Nat.not_lt.mpr (Nat.le_add_left 4 n))
theorem yC{y:Int}(h:y < 4):y.toNat < 4:=by lia
theorem RO{n:Nat}(h:n < 4):(cut [(102:Int),240,72] none (some n)).length≤3∧dm (cut [102,240,72] none (some n)):=
 PK (P:=fun n=>(cut [(102:Int),240,72] none (some n)).length≤3∧dm (cut [102,240,72] none (some n))) ⟨by decide,lE rfl⟩ ⟨by decide,lE rfl⟩ ⟨by decide,lE rfl⟩ ⟨by decide,lE rfl⟩ h
theorem i6{i k:Nat}(h:i+(k+1)≤6):(0:Int)≤2+Int.ofNat i∧2+Int.ofNat i < 18:=by
 show(0:Int)≤2+(i:Int)∧2+(i:Int) < 18
 lia
theorem EU{KU:V→Prop}{xs:List Int}(hl:xs.length≤63)(hk:KU (.bool true true))(k:Nat):∀(i:Nat) (ys:List Int),dm ys→ys.length=i→i+k≤6→GL KU xs k i ys:=by
  induction k with
  | zero=>
    refine fun i ys ho e h=>⟨hl,by decide,fun y _=>?_⟩
    have c:=RO (yC (a6 y (n:=4) (by decide)))
    exact⟨decide_eq_true (aQ y (n:=4) (by decide)),by rw[e];exact h,c.1,ho,c.2,hk⟩
  | succ k ih=>
    intro i ys ho e h
    have hl':∀x:Int,(bc ys [x]).length=i+1:=fun x=>by rw[aD,List.length_append,e];rfl
    have h':i+1+k≤6:=by rw[Nat.add_right_comm];exact h
    refine⟨hl,i6 h,fun y hy=>⟨fun _=>⟨fun x=>0≤x∧x < 256,⟨aQ _ (by decide),a6 _ (by decide),Dp (fun x a b=>⟨a,b⟩) _⟩,fun x hx=>ih (i+1) _ (oW ho hx.1 hx.2) (hl' x) h'⟩,fun _=>ih (i+1) _ (oW ho (aQ _ (by decide)) (a6 _ (by decide))) (hl' _) h'⟩⟩
theorem Af{x:Int}{K:Nat→Prop}(hx:0≤x)(h:K x.toNat)(n:Nat):Ea n x K:=by
 induction n with
 |zero=>trivial
 |succ n ih=>exact⟨fun e=>by rw[e]at h;exact h,ih⟩
theorem Mb(T:Nat→V)(w:World):∀R as KV,d8 as KV R→∃bs,cu T w as bs∧ao (Sh R) xY bs ⟨.nil,0⟩ (aV (aU T w KV)):=by
 intro R as KV h
 replace h:=dR h
 obtain⟨k,xs,rfl,h⟩:=h
 refine a7 h fun hl hk=>?_
 refine⟨[.irow false xs],(aS.cons .irow .nil).same,?_⟩
 rw[Le]
 refine⟨hl,by decide,fun y _=>⟨aQ _ (by decide),?_,Af (aQ _ (by decide)) (EU hl ⟨_,aP.same .refl,hk⟩ _ 0 [] trivial rfl ?_) 8⟩⟩
 ·have:=a6 y (n:=7) (by decide);lia
 ·have:=a6 y (n:=7) (by decide)
  have:=aQ y (n:=7) (by decide)
  lia
noncomputable def Ey:List V:=[.str true (s0 "add"),.str true (s0 "or"),.str true (s0 "adc"),.str true (s0 "sbb"),.str true (s0 "and"),.str true (s0 "sub"),.str true (s0 "xor")]
noncomputable def Ki:List V:=[.int true 16,.int true 8,.int true 32,.int true 64]
noncomputable def I7:List V:=[.str true (s0 "gs"),.str true (s0 ""),.str true (s0 "fs")]
structure Lp where
 y:Int
 sz:Int
 wd:Str
 base:Int
 n:Int
 rex:Int
 disp:Int
noncomputable def Lp.lock(l:Lp):Bool:=decide (0 < (l.y.fdiv 84).fmod 3)
noncomputable def sO(KU:V→Prop)(l:Lp)(lg:List Int)(rx:List V)(hs:Bool)(nm lw:Str):Prop:=(0≤l.n∧l.n < 16)∧(l.sz=8∨l.sz=16∨l.sz=32∨l.sz=64)∧KU (.tup [.irow false lg,.list rx,.list [.int false (8*l.y.fmod 7+bI (decide (8 < l.sz))),.int false (64+8*l.n.fmod 8+l.base.fmod 8),.int false l.disp],
 .tup [.str false nm,.str true lw,.tup [.tup [.str true (s0 "mem"),.str false (d5 l.base 64),.str true (s0 ""),.int true 1,.int false (l.disp - 256*bI (decide (127 < l.disp))),.int false l.sz,.str false l.wd,.str true (s0 "")],.tup [.str true (s0 "reg"),.str false (kC l.n l.sz hs)]]]])
noncomputable def Ar(KU:V→Prop)(l:Lp)(lg:List Int)(hs:Option Bool)(nm lw:Str):Prop:=match hs with
 |none=>sO KU l lg [.int false l.rex] true nm lw
 |some b=>aZ false b (sO KU l lg [.int false l.rex] b nm lw) (sO KU l lg [] b nm lw)
noncomputable def xX(KU:V→Prop)(l:Lp)(hs:Option Bool)(sg:List Int):Prop:=lF (bI (l.sz==16))=true∧ay (few sg.length) (few (fN (bI (l.sz==16)) [102]).length)=true∧lF (bI l.lock)=true∧
 ay (few (bc sg (fN (bI (l.sz==16)) [102])).length) (few (fN (bI l.lock) [240]).length)=true∧(0≤l.base∧l.base < 16)∧((64:Int)=8∨(64:Int)=16∨(64:Int)=32∨(64:Int)=64)∧
 ∃J:Str→Prop,(0≤l.y.fmod 7∧l.y.fmod 7 < 7∧gn Ey (l.y.fmod 7) 0 (lY J))∧∀nm,J nm→aZ false l.lock (Ar KU l (bc (bc sg (fN (bI (l.sz==16)) [102])) (fN (bI l.lock) [240])) hs nm (s0 "lock")) (Ar KU l (bc (bc sg (fN (bI (l.sz==16)) [102])) (fN (bI l.lock) [240])) hs nm (s0 ""))
noncomputable def w0(KU:V→Prop)(l:Lp)(hs:Option Bool):Prop:=aZ false (lh (aE l.wd (s0 ""))) (∃J:Int→Prop,aZ false (aE l.wd (s0 "fs")) (J 100) (aZ false (aE l.wd (s0 "gs")) (J 101) False)∧∀s,J s→xX KU l hs [s]) (xX KU l hs [])
noncomputable def HK(sz n idle base:Int):Int:=64+8*bI (sz==64)+4*n.fdiv 8+2*idle+base.fdiv 8
noncomputable def uw(KU:V→Prop)(xs:List Int)(y sz:Int)(wd:Str)(n base:Int):Prop:=gj xs 13 fun y3=>aZ false (HK sz n (y3.fmod 2) base != 64)
 (gj xs 15 fun y5=>w0 KU ⟨y,sz,wd,base,n,HK sz n (y3.fmod 2) base,y5.fmod 256⟩ none)
 (gj xs 14 fun y4=>gj xs 15 fun y5=>w0 KU ⟨y,sz,wd,base,n,HK sz n (y3.fmod 2) base,y5.fmod 256⟩ (some (y4.fmod 2==1)))
theorem Fw(R:Addr→Prop)(KU:V→Prop)(xs:List Int):ao (Lv R) xV [.irow false xs] ⟨.nil,0⟩ (aV KU)=gj xs 10 fun y=>∃J:Int→Prop,(0≤(y.fdiv 7).fmod 4∧(y.fdiv 7).fmod 4 < 4∧gn Ki ((y.fdiv 7).fmod 4) 0 (ki J))∧∀sz,J sz→
  ∃J:Str→Prop,(0≤(y.fdiv 28).fmod 3∧(y.fdiv 28).fmod 3 < 3∧gn I7 ((y.fdiv 28).fmod 3) 0 (lY J))∧∀wd,J wd→gj xs 11 fun y1=>gj xs 12 fun y2=>aZ false ((y1.fmod 16).fmod 8==4) (uw KU xs y sz wd (y2.fmod 16) (y1.fmod 16+1)) (uw KU xs y sz wd (y2.fmod 16) (y1.fmod 16)):=by kernel_rfl
noncomputable def rH(d size:Int)(rm r:String)(num:Int):V:=.inst 340 [(s0 "name",.str true (bC d)),(s0 "kinds",.tup [.str true (s0 rm),.str true (s0 r)]),(s0 "opcode",.int true (8*d+(if size==8 then 0 else 1))),(s0 "escape",.int true 0),(s0 "digit",.int true (-1)),(s0 "size",.int true size),
 (s0 "must",.int true 0),(s0 "is_wide",.bool true false),(s0 "number",.int true num),(s0 "places",.tup [.str true (s0 "rm"),.str true (s0 "reg")])]
noncomputable def xH(d:Int):List V:=[rH d 8 "rm8" "r8" (19*d)]
noncomputable def w9(d:Int):List V:=[rH d 16 "rm16" "r16" (19*d+1),rH d 32 "rm32" "r32" (19*d+2),rH d 64 "rm64" "r64" (19*d+3)]
theorem Lc{d:Int}(h1:0≤d)(h2:d < 7):d=0∨d=1∨d=2∨d=3∨d=4∨d=5∨d=6:=by lia
theorem Kw(R:Addr→Prop)(KU:V→Prop){d:Int}(h1:0≤d)(h2:d < 7):ao (gf R) gq [cU,.int true 0,.int true 0,.int true (8*d)] ⟨.nil,0⟩ (aV KU)=KU (.list (xH d)):=by
 have k1:=fZ (k:=7) h1 h2;clear h1 h2;revert d k1
 exact@(gX (by kernel_rfl))
theorem Jz(R:Addr→Prop)(KU:V→Prop){d:Int}(h1:0≤d)(h2:d < 7):ao (gf R) gq [cU,.int true 0,.int true 0,.int true (8*d+1)] ⟨.nil,0⟩ (aV KU)=KU (.list (w9 d)):=by
 have k1:=fZ (k:=7) h1 h2;clear h1 h2;revert d k1
 exact@(gX (by kernel_rfl))
theorem Hf(R:Addr→Prop)(KU:V→Prop){d m:Int}(h1:0≤d)(h2:d < 7)(hm:m=102∨m=242∨m=243):ao (gf R) gq [cU,.int true m,.int true 0,.int true (8*d)] ⟨.nil,0⟩ (aV KU)=KU (.list []):=by
 have k1:=fZ (k:=7) h1 h2;have k2:=z0 hm;clear h1 h2 hm;revert d m k1 k2
 exact@(mD (by kernel_rfl))
theorem Fs(R:Addr→Prop)(KU:V→Prop){d m:Int}(h1:0≤d)(h2:d < 7)(hm:m=102∨m=242∨m=243):ao (gf R) gq [cU,.int true m,.int true 0,.int true (8*d+1)] ⟨.nil,0⟩ (aV KU)=KU (.list []):=by
 have k1:=fZ (k:=7) h1 h2;have k2:=z0 hm;clear h1 h2 hm;revert d m k1 k2
 exact@(mD (by kernel_rfl))
noncomputable def hY(KV:V→Prop)(L:Ln):Prop:=((L.legacy=[]→(L.rexl=[]→KV (cZ [] [] L))∧(∀r,L.rexl=[r]→KV (cZ [] [r] L)))∧
     (∀x,L.legacy=[x]→(L.rexl=[]→KV (cZ [x] [] L))∧(∀r,L.rexl=[r]→KV (cZ [x] [r] L))))∧
     (∀x y,L.legacy=[x,y]→(L.rexl=[]→KV (cZ [x,y] [] L))∧(∀r,L.rexl=[r]→KV (cZ [x,y] [r] L)))∧
     (∀x y z,L.legacy=[x,y,z]→(L.rexl=[]→KV (cZ [x,y,z] [] L))∧(∀r,L.rexl=[r]→KV (cZ [x,y,z] [r] L)))
theorem xf(L:Ln):L.legacy.length≤3:=by
 have q:∀(c:Prop) [Decidable c] (x:Int),(if c then[x]else[]).length≤1:=fun c _ x=>by split <;> simp
 have q2:(jn L.word).length≤1:=by
  unfold jn
  split
  ·decide
  ·split <;> decide
 unfold Ln.legacy
 simp only [List.length_append]
 have a:=q ((L.size==16)=true) 102
 have b:=q (L.lock=true) 240
 lia
theorem RU{P:List Int→Prop}(h0:P [])(h1:∀x,P [x])(h2:∀x y,P [x,y])(h3:∀x y z,P [x,y,z]){xs:List Int}(h:xs.length≤3):P xs:=
 lenS (P:=P) h0 (fun a _ h=>lenS (P:=fun ys=>P (a::ys)) (h1 a) (fun b _ h=>lenS (P:=fun zs=>P (a::b::zs)) (h2 a b) (fun c ws h=>by
  cases ws with
  |nil=>exact h3 a b c
  |cons _ _=>cases h) h) h) h
theorem Cp{KV:V→Prop}{L:Ln}(h:hY KV L):KV (cZ L.legacy L.rexl L):=by
  obtain⟨⟨h0,h1⟩,h2,h3⟩:=h
  have hl:=xf L
  have pick:∀{lg:List Int},(L.rexl=[]→KV (cZ lg [] L))∧(∀r,L.rexl=[r]→KV (cZ lg [r] L))→KV (cZ lg L.rexl L):=fun{lg} ⟨a,b⟩=>by
    have e:L.rexl=if L.has then[L.rexv]else[]:=rfl
    cases hh:L.has with
    | true=>
      rw[hh,if_pos rfl]at e
      rw[e];exact b _ e
    | false=>
      rw[hh,if_neg (by decide)]at e
      rw[e];exact a e
  exact RU (P:=fun lg=>L.legacy=lg→KV (cZ lg L.rexl L)) (fun e=>pick (h0 e)) (fun x e=>pick (h1 x e)) (fun x y e=>pick (h2 x y e)) (fun x y z e=>pick (h3 x y z e)) hl rfl
theorem mj(b:Bool)(x:Int):fN (bI b) [x]=if b then[x]else[]:=by cases b <;> rfl
theorem ng(b:Bool):lF (bI b)=true:=by cases b <;> rfl
theorem l8{T:Nat→V}{w:World}{KV:V→Prop}{l:Lp}{L:Ln}{lg:List Int}{rx:List V}{hs:Bool}{nm lw:Str}(ok:L.Ok)(h:hY KV L)(e1:l.sz=L.size)(e2:l.wd=L.word)(e3:l.base=L.base)(e4:l.n=L.number)(e5:l.disp=L.disp)
  (e6:hs=L.has) (e7:nm=bC L.d) (e8:lw=kT L.lock) (e9:l.y.fmod 7=L.d) (e10:lg=L.legacy) (e11:aP (.list rx) (.irow false L.rexl)):sO (aU T w KV) l lg rx hs nm lw:=by
 have h:=Cp h
 unfold sO
 rw[e1,e2,e3,e4,e5,e6,e7,e8,e9,e10]
 refine⟨ok.number,ok.size,_,aP.same ?_,h⟩
 unfold cZ Mi Ln.t0 Ln.t1
 have place:aS [.str true (s0 "mem"),.str false (d5 L.base 64),.str true (s0 ""),.int true 1,.int false (L.disp - 256*bI (decide (127 < L.disp))),.int false L.size,.str false L.word,.str true (s0 "")] [.str false (s0 "mem"),.str false (d5 L.base 64),.str false (s0 ""),.int false 1,.int false (L.disp - 256*bI (decide (127 < L.disp))),.int false L.size,.str false L.word,.str false (s0 "")]:=
  .cons .str (.cons .str (.cons .str (.cons .int (.cons .int (.cons .int (.cons .str (.cons .str .nil)))))))
 exact .tup (.cons .irow (.cons e11 (.cons (gz [L.t0,L.t1,L.disp] false) (.cons (.tup (.cons .str (.cons .str (.cons (.tup (.cons (.tup place) (.cons (.tup (.cons .str (.cons .str .nil))) .nil))) .nil)))) .nil))))
theorem Cc(y:Int):gn Ey (y.fmod 7) 0 (lY fun nm=>nm=bC (y.fmod 7)):=
 ⟨fun e=>(by show _=bC _;rw[e];rfl),fun e=>(by show _=bC _;rw[e];rfl),fun e=>(by show _=bC _;rw[e];rfl),fun e=>(by show _=bC _;rw[e];rfl),fun e=>(by show _=bC _;rw[e];rfl),fun e=>(by show _=bC _;rw[e];rfl),fun e=>(by show _=bC _;rw[e];rfl),trivial⟩
theorem rr{T:Nat→V}{w:World}{KV:V→Prop}{l:Lp}{L:Ln}{lg:List Int}{hs:Option Bool}{nm lw:Str}(ok:L.Ok)(h:hY KV L)(e1:l.sz=L.size)(e2:l.wd=L.word)(e3:l.base=L.base)(e4:l.n=L.number)(e5:l.disp=L.disp)
  (e6:hs=some L.has∨(hs=none∧L.has=true)) (e7:nm=bC L.d) (e8:lw=kT L.lock) (e9:l.y.fmod 7=L.d) (e10:lg=L.legacy) (e11:l.rex=L.rexv):Ar (aU T w KV) l lg hs nm lw:=by
 have er:L.rexl=if L.has then[L.rexv]else[]:=rfl
 rcases e6 with rfl|⟨rfl,e6⟩
 ·refine⟨fun e=>l8 ok h e1 e2 e3 e4 e5 rfl e7 e8 e9 e10 ?_,fun e=>l8 ok h e1 e2 e3 e4 e5 rfl e7 e8 e9 e10 ?_⟩
  ·rw[er,e,if_pos rfl,e11];exact gz [L.rexv] false
  ·rw[er,e,if_neg (by decide)];exact gz [] false
 ·refine l8 ok h e1 e2 e3 e4 e5 e6.symm e7 e8 e9 e10 ?_
  rw[er,e6,if_pos rfl,e11];exact gz [L.rexv] false
theorem BS{T:Nat→V}{w:World}{KV:V→Prop}{l:Lp}{L:Ln}{hs:Option Bool}{sg:List Int}(ok:L.Ok)(h:hY KV L)(e1:l.sz=L.size)(e2:l.wd=L.word)(e3:l.base=L.base)(e4:l.n=L.number)(e5:l.disp=L.disp)
  (e6:hs=some L.has∨(hs=none∧L.has=true)) (e8:l.lock=L.lock) (e9:l.y.fmod 7=L.d) (e10:sg=jn L.word) (e11:l.rex=L.rexv):xX (aU T w KV) l hs sg:=by
 have hl:sg.length≤1:=by
  rw[e10]
  unfold jn
  split
  ·decide
  ·split <;> decide
 have o:∀(b:Bool) (x:Int),(fN (bI b) [x]).length≤1:=fun b x=>by rw[mj];split <;> simp
 have o1:=o (l.sz==16) 102
 have o2:=o l.lock 240
 have lay:bc (bc sg (fN (bI (l.sz==16)) [102])) (fN (bI l.lock) [240])=L.legacy:=by
  rw[mj,mj,aD,aD,e10,e8,e1];rfl
 have b:=ok.base
 refine⟨ng _,?_,ng _,?_,⟨by lia,by lia⟩,.inr (.inr (.inr rfl)),fun nm=>nm=bC (l.y.fmod 7),⟨aQ _ (by decide),a6 _ (by decide),Cc _⟩,fun nm hn=>⟨fun e=>?_,fun e=>?_⟩⟩
 ·rw[c0 (by lia),c0 (by lia)];rfl
 ·rw[c0 (by rw[aD,List.length_append];lia),c0 (by lia)];rfl
 ·exact rr ok h e1 e2 e3 e4 e5 e6 (by rw[hn,e9]) (by rw[←e8,e];rfl) e9 lay e11
 ·exact rr ok h e1 e2 e3 e4 e5 e6 (by rw[hn,e9]) (by rw[←e8,e];rfl) e9 lay e11
theorem tm{T:Nat→V}{w:World}{KV:V→Prop}{l:Lp}{L:Ln}{hs:Option Bool}(ok:L.Ok)(h:hY KV L)(e1:l.sz=L.size)(e2:l.wd=L.word)(e3:l.base=L.base)(e4:l.n=L.number)(e5:l.disp=L.disp)
  (e6:hs=some L.has∨(hs=none∧L.has=true)) (e8:l.lock=L.lock) (e9:l.y.fmod 7=L.d) (e11:l.rex=L.rexv):w0 (aU T w KV) l hs:=by
 have go:∀sg,sg=jn L.word→xX (aU T w KV) l hs sg:=fun sg e=>BS ok h e1 e2 e3 e4 e5 e6 e8 e9 e e11
 unfold w0
 rw[e2]
 rcases oY ok.word with⟨ew,hs⟩|⟨ew,hs⟩|⟨ew,hs⟩
 ·rw[ew]at hs go ⊢
  exact⟨fun e=>(by cases e),fun _=>go _ hs.symm⟩
 ·rw[ew]at hs go ⊢
  exact⟨fun _=>⟨fun s=>s=100,⟨fun _=>rfl,fun e=>(by cases e)⟩,fun s e=>go _ (by rw[hs,e])⟩,fun e=>(by cases e)⟩
 ·rw[ew]at hs go ⊢
  exact⟨fun _=>⟨fun s=>s=101,⟨fun e=>(by cases e),fun _=>⟨fun _=>rfl,fun e=>(by cases e)⟩⟩,fun s e=>go _ (by rw[hs,e])⟩,fun e=>(by cases e)⟩
theorem o4{T:Nat→V}{w:World}{KV:V→Prop}{xs:List Int}{y sz:Int}{wd:Str}{n base:Int}(hl:xs.length≤63)(h:∀L:Ln,L.Ok→hY KV L)(hs:sz=8∨sz=16∨sz=32∨sz=64)(hw:wd=s0 ""∨wd=s0 "fs"∨wd=s0 "gs")(hn:0≤n∧n < 16)
  (hb:0≤base∧base < 16∧base.fmod 8≠4):uw (aU T w KV) xs y sz wd n base:=by
 refine⟨hl,by decide,fun y3 _=>⟨fun e=>⟨hl,by decide,fun y5 _=>?_⟩,fun e=>⟨hl,by decide,fun y4 _=>⟨hl,by decide,fun y5 _=>?_⟩⟩⟩⟩
 ·have ok:(⟨y.fmod 7,sz,wd,decide (0 < (y.fdiv 84).fmod 3),base,n,y3.fmod 2,true,y5.fmod 256⟩:Ln).Ok:=
   ⟨⟨aQ _ (by decide),a6 _ (by decide)⟩,hs,hw,hb,hn,qh _,fun e=>(by cases e),⟨aQ _ (by decide),a6 _ (by decide)⟩⟩
  exact tm ok (h _ ok) rfl rfl rfl rfl rfl (.inr ⟨rfl,rfl⟩) rfl rfl rfl
 ·have ok:(⟨y.fmod 7,sz,wd,decide (0 < (y.fdiv 84).fmod 3),base,n,y3.fmod 2,y4.fmod 2==1,y5.fmod 256⟩:Ln).Ok:=
   ⟨⟨aQ _ (by decide),a6 _ (by decide)⟩,hs,hw,hb,hn,qh _,fun _=>(by show HK sz n (y3.fmod 2) base=64;simpa using e),⟨aQ _ (by decide),a6 _ (by decide)⟩⟩
  exact tm ok (h _ ok) rfl rfl rfl rfl rfl (.inl rfl) rfl rfl rfl
theorem Kl(T:Nat→V)(w:World):∀R as KV,pJ as KV R→∃bs,cu T w as bs∧ao (Lv R) xV bs ⟨.nil,0⟩ (aV (aU T w KV)):=by
 intro R as KV h
 replace h:=dR h
 obtain⟨k,xs,rfl,h⟩:=h
 refine a7 h fun hl hk=>?_
 refine⟨[.irow false xs],(aS.cons .irow .nil).same,?_⟩
 rw[Fw]
 refine⟨hl,by decide,fun y _=>⟨fun s=>s=8∨s=16∨s=32∨s=64,⟨aQ _ (by decide),a6 _ (by decide),fun _=>.inr (.inl rfl),fun _=>.inl rfl,fun _=>.inr (.inr (.inl rfl)),fun _=>.inr (.inr (.inr rfl)),trivial⟩,fun sz hsz=>
  ⟨fun w=>w=s0 ""∨w=s0 "fs"∨w=s0 "gs",⟨aQ _ (by decide),a6 _ (by decide),fun _=>.inr (.inr rfl),fun _=>.inl rfl,fun _=>.inr (.inl rfl),trivial⟩,fun wd hw=>⟨hl,by decide,fun y1 _=>⟨hl,by decide,fun y2 _=>?_⟩⟩⟩⟩⟩
 have a1:=aQ y1 (n:=16) (by decide)
 have a2:=a6 y1 (n:=16) (by decide)
 have b1:=aQ y2 (n:=16) (by decide)
 have b2:=a6 y2 (n:=16) (by decide)
 have m8:∀z:Int,0≤z→z.fmod 8=z % 8:=fun z hz=>by rw[Int.fmod_eq_emod_of_nonneg _ (by decide)]
 refine⟨fun e=>o4 hl hk hsz hw ⟨b1,b2⟩ ?_,fun e=>o4 hl hk hsz hw ⟨b1,b2⟩ ?_⟩
 ·rw[beq_iff_eq,m8 _ a1]at e
  rw[m8 _ (by lia)]
  lia
 ·rw[beq_eq_false_iff_ne,m8 _ a1]at e
  rw[m8 _ (by lia)]
  lia
noncomputable def Lf(D:Dc)(a:Int):V:=.inst 908 [(s0 "instruction",.inst 733 [(s0 "name",.str false (bC D.d)),(s0 "operands",.tup [NY D,LO D]),(s0 "prefix",.str false (oT D.P.lock))]),(s0 "length",.int false (Int.ofNat D.n+1+2 - a)),(s0 "form",Am D),(s0 "prefixes",nv D.P)]
structure Dc.Ok(D:Dc)(xs:List Int)(a:Int):Prop where
 rp:rp xs a.toNat=some (D.P,D.n)
 pok:D.P.Ok
 op:aG xs D.n=Lo D
 d:0≤D.d∧D.d < 7
 w:D.w=aY D.P.rex 8
 l1:D.n+1 < xs.length
 m:aG xs (D.n+1)=D.m
 mrm:D.Mrm
 y:D.md=true→D.n+1+1 < xs.length∧aG xs (D.n+1+1)=D.y
noncomputable def Dc.Tells(D:Dc)(a:Int):Prop:=D.md=true∧D.P.rep=0∧zS D=false∧Int.ofNat D.n+1+2 - a≤15
noncomputable def Dc.Ref(D:Dc):Prop:=(D.md=true∧(D.P.rep≠0∨zS D=true))∨(D.md=false∧D.P.lock=true)
noncomputable def uC(xs:List Int)(a:Int):Prop:=0≤a∧few xs.length=true∧xs.length≤90
noncomputable def zz(xs:List Int)(a:Int):Prop:=rp xs a.toNat=none∨∃D:Dc,D.Ok xs a∧D.Ref
noncomputable def eR:bf:=fun as KV R=>uT (uL Ie yo dD as) fun _ xs a=>uC xs a∧((zz xs a∧R 83)∨∃D:Dc,(D.Ok xs a∧D.Tells a)∧KV (Lf D a))
noncomputable def uY:bf:=fun as _ R=>d4 (eI yo dD as) fun xs a=>(0≤a∧few xs.length=true∧xs.length≤90∧rp xs a.toNat=none)∧R 83
noncomputable def CN(a:Nat):Option (Nat×bf):=xS a [(233,91,uY)]
noncomputable def J3:ck:={gx with C:=CN,NM:=wU}
theorem JG(R:Addr→Prop)(KU:V→Prop)(xs:List Int)(a:Int):ao (ev {J3 with R:=R} 140) mU [.named 1,.bytes false xs,.int false a] ⟨.nil,0⟩ (aV KU)=((0≤a∧few xs.length=true∧xs.length≤90∧rp xs a.toNat=none)∧R 83):=by kernel_rfl
theorem AB(D:Dc)(a:Int):aP (Kb D a) (Lf D a):=
 .inst (.cons (.inst (.cons .refl (.cons .refl (.cons .str .nil)))) (.cons .refl (.cons .refl (.cons (.inst (.cons .str (.cons .bool (.cons .int (.cons .bool (.cons .int .nil)))))) .nil))))
theorem yT{x:Int}{y:Int}(h:x≠y):cF [x] [y]=false:=by
 have:(x==y)=false:=by rw[beq_eq_false_iff_ne];exact h
 show(match x==y with|true=>cF [] []|false=>false)=false
 rw[this]
theorem Ed(o k:Int):aY o k=0∨aY o k=1:=by
 unfold aY
 split
 ·exact .inl rfl
 ·exact qh _
theorem A4(b:Bool)(w:Int)(d:Bool):ni (OP b w d):=by
 unfold OP ni
 split
 ·exact .inl rfl
 ·split
  ·exact .inr (.inr (.inr rfl))
  ·split
   ·exact .inr (.inl rfl)
   ·exact .inr (.inr (.inl rfl))
theorem vE{D:Dc}(h:0≤D.d∧D.d < 7):0≤Lo D∧Lo D < 56∧Lo D≠15:=by
 unfold Lo
 split <;> lia
theorem iy{D:Dc}{xs:List Int}{a:Int}{R83 Z:Prop}(p:uC xs a)(ok:D.Ok xs a)(z:Z):pN D xs a R83 Z:=by
 have hl:Int.ofNat xs.length=(xs.length:Int):=rfl
 have hn:Int.ofNat D.n=(D.n:Int):=rfl
 have l1:=ok.l1
 have hc:cF (cut xs (some D.n) (some (D.n+1))) [15]=false:=by
  rw[wt xs D.n (by lia),ok.op]
  exact yT (vE ok.d).2.2
 refine⟨⟨p.1,p.2.1,p.2.2,ok.rp⟩,rfl,rfl,rfl,p.2.1,fun e=>?_,fun _=>⟨p.2.1,fun e=>?_,fun _=>⟨rfl,?_,p.2.1,z⟩⟩⟩
 ·rw[hc]at e;cases e
 ·have:=of_decide_eq_true e
  lia
 ·show Nat.blt _ _=true
  rw[Nat.blt_eq];lia
theorem iW{D:Dc}{n:Int}{Z:Prop}(h:0≤n∧n < 16)(z:Z):lj n D.size Z:=⟨h,A4 _ _ _,z⟩
theorem pq(D:Dc):0≤(D.m.fdiv 8).fmod 8+8*aY D.P.rex 4∧(D.m.fdiv 8).fmod 8+8*aY D.P.rex 4 < 16:=by
 have h1:=aQ (D.m.fdiv 8) (n:=8) (by decide)
 have h2:=a6 (D.m.fdiv 8) (n:=8) (by decide)
 have h3:=Ed D.P.rex 4
 lia
theorem Aj(D:Dc):0≤D.m.fmod 8+8*aY D.P.rex 1∧D.m.fmod 8+8*aY D.P.rex 1 < 16:=by
 have h1:=aQ D.m (n:=8) (by decide)
 have h2:=a6 D.m (n:=8) (by decide)
 have h3:=Ed D.P.rex 1
 lia
theorem jk{D:Dc}{xs:List Int}{a:Int}{b:Bool}{Z:Prop}(ok:D.Ok xs a)(z:Z):lq b D xs Z:=by
 cases b
 ·exact z
 ·exact⟨ok.op,z⟩
theorem lV{D:Dc}{xs:List Int}{a:Int}{R83 Z:Prop}(p:uC xs a)(ok:D.Ok xs a)(hm:D.md=true)(r:R83∨Int.ofNat D.n+1+2 - a≤15)(z:Z):DO D xs a R83 Z:=by
 have hn:Int.ofNat D.n=(D.n:Int):=rfl
 have o:=vE ok.d
 refine a7 (ok.y hm) fun y1 y2=>?_
 have mr:=ok.mrm.1 hm
 refine⟨ok.op,⟨by lia,p.2.1,y1,ok.m,y2⟩,rfl,rfl,?_,rfl,⟨aQ _ (by decide),a6 _ (by decide),mr.2.2.1⟩,Ed _ _,iW (pq D) ⟨fun e=>?_,fun _=>z⟩⟩
 ·rw[ok.op];exact⟨o.1,o.2.1⟩
 ·have e:=of_decide_eq_true e
  rcases r with r|r
  ·exact r
  ·lia
theorem A5{D:Dc}{xs:List Int}{a:Int}{R83 Z:Prop}(p:uC xs a)(ok:D.Ok xs a)(r:R83)(z:Z):Iy D xs a R83 Z:=by
 have hn:Int.ofNat D.n=(D.n:Int):=rfl
 have o:=vE ok.d
 refine⟨ok.op,⟨by lia,p.2.1,ok.l1,ok.m⟩,rfl,rfl,?_,iW (Aj D) (iW (pq D) ⟨fun _=>r,fun _=>z⟩)⟩
 rw[ok.op];exact⟨o.1,o.2.1⟩
theorem tI{D:Dc}{xs:List Int}{a:Int}{Z:Prop}(ok:D.Ok xs a)(z:Z):xW D Z:=by
 unfold xW
 split
 ·exact⟨⟨D.d,D.size,LH D.is8 D.w D.P.data D.d,ok.d.1,ok.d.2,A4 _ _ _,.refl⟩,z⟩
 ·exact z
noncomputable def Dh(c:ck):Prop:=c=J3∨∃D:Dc,c=GG D∧(0≤D.d∧D.d < 7)∧D.w=aY D.P.rex 8∧D.Mrm
theorem EB (T:Nat→V) (w:World):∀R as KV,eR as KV R→∃c,Dh c∧∃bs,cu T w as bs∧ao (ev {c with R:=R} 140) mU bs ⟨.nil,0⟩ (aV (aU T w KV)):=by
  intro R as KV h
  replace h:=NU h
  obtain⟨k,xs,k2,a,rfl,h⟩:=h
  refine a7 h fun p h=>?_
  have same:cu T w [.named 1,.bytes k xs,.int k2 a] [.named 1,.bytes false xs,.int false a]:=(aS.cons .refl (.cons .bytes (.cons .int .nil))).same
  rcases h with⟨hn|⟨D,ok,href⟩,r⟩|⟨D,⟨ok,hm,hr,hb,hl⟩,hk⟩
  · refine⟨J3,.inl rfl,_,same,?_⟩
    rw[JG]
    exact⟨⟨p.1,p.2.1,p.2.2,hn⟩,r⟩
  · refine⟨GG D,.inr ⟨D,rfl,ok.d,ok.w,ok.mrm⟩,_,same,?_⟩
    obtain⟨⟨seg,data,rep,lock,rex⟩,n,d,is8,w',md,m,y⟩:=D
    have hw:w'=0∨w'=1:=by
      have:=ok.w
      dsimp only at this
      rw[this];exact Ed _ _
    have hrep:=ok.pok.rep
    have hlk:=ok.pok.lock
    dsimp only at hrep hlk
    rcases href with⟨hm,hb⟩|⟨hm,hl⟩
    · dsimp only at hm hb
      subst hm
      rcases hrep with rfl|hrep
      · have hb:zS _=true:=hb.resolve_left (fun h=>h rfl)
        refine(Cb R _ rex d m y n xs a rfl hw).mpr ?_
        refine iy p ok (jk ok (lV p ok rfl (.inl r) ?_))
        rw[hb];exact r
      · have:lock=false:=by
          cases lock
          · rfl
          · have:=hlk rfl;lia
        subst this
        refine(Jl R _ rex d m y n xs a rfl hw hrep).mpr ?_
        refine iy p ok ⟨ok.op,jk ok (lV p ok rfl (.inl r) ?_)⟩
        have z:(∃d',0≤d'∧d' < 7∧bC d=bC d')∧R 83:=⟨⟨d,ok.d.1,ok.d.2,rfl⟩,r⟩
        unfold Mm
        split
        · exact r
        · exact⟨fun _=>z,fun _=>z⟩
    · dsimp only at hm hl
      subst hm hl
      obtain rfl:=hlk rfl
      refine(Kg R _ rex d m y n xs a rfl hw).mpr ?_
      refine iy p ok (jk ok (A5 p ok r ?_))
      unfold Mm
      split
      · exact r
      · exact tI ok r
  · refine⟨GG D,.inr ⟨D,rfl,ok.d,ok.w,ok.mrm⟩,_,same,?_⟩
    have hk:aU T w KV (Kb D a):=⟨_,(AB D a).same,hk⟩
    obtain⟨⟨seg,data,rep,lock,rex⟩,n,d,is8,w',md,m,y⟩:=D
    have hw:w'=0∨w'=1:=by
      have:=ok.w
      dsimp only at this
      rw[this];exact Ed _ _
    dsimp only at hm hr
    subst hm hr
    refine(Cb R _ rex d m y n xs a rfl hw).mpr ?_
    refine iy p ok (jk ok (lV p ok rfl (.inr hl) ?_))
    rw[hb]
    exact tI ok ⟨fun _=>hk,fun _=>hk⟩
noncomputable def fI:bf:=fun as KV _=>d4 (eI Ie some as) fun _ v=>match o3 v with
  |some xs=>(dm xs∧xs.length≤60)∧((zz xs 0∧KV (.bool true true))∨∃D:Dc,(D.Ok xs 0∧D.Tells 0)∧KV (.bool true false))
  |none=>False
noncomputable def vy:bf:=fun as KV _=>uT (uL Ie yo dD as) fun _ xs a=>uC xs a∧∃D:Dc,(D.Ok xs a∧D.Tells a)∧KV (Lf D a)
noncomputable def CR(a:Nat):Option (Nat×bf):=xS a [(1075,141,eR)]
noncomputable def I0:ck:={gx with C:=CR,NM:=wU}
noncomputable def CW(a:Nat):Option (Nat×bf):=xS a [(1225,141,pJ),(1211,91,jH),(1075,141,vy),(1232,191,fI),(1162,41,lM),(205,41,gT)]
noncomputable def JW(l c:Nat):Option JT:=match gm l c 848 48 with
 |true=>some .itemI
 |false=>none
noncomputable def OI:ck:={gx with C:=CW,NM:=wU,J:=JW}
noncomputable abbrev Su(R:Addr→Prop):Ev:=ev {I0 with R:=R} 190
noncomputable abbrev R9(R:Addr→Prop):Ev:=ev {OI with R:=R} 250
theorem vw(R:Addr→Prop)(KU:V→Prop)(xs:List Int):ao (Su R) xM [.named 1,.irow false xs] ⟨.nil,0⟩ (aV KU)=(bb bV xs=true∧few xs.length=true∧uC xs 0∧((zz xs 0∧KU (.bool true true))∨∃D:Dc,(D.Ok xs 0∧D.Tells 0)∧KU (.bool true false))):=by kernel_rfl
set_option tactic.hygienic true in
theorem zX(T:Nat→V)(w:World):∀R as KV,fI as KV R→∃bs,cu T w as bs∧ao (Su R) xM bs ⟨.nil,0⟩ (aV (aU T w KV)):=by
 intro R as KV h
 replace h:=SN h
 obtain⟨_,rfl,h⟩:=h
 split at h
 case h_2=>exact h.elim
 rename_i v _ xs hx
 obtain⟨⟨ho,hl⟩,h⟩:=h
 refine⟨[.named 1,.irow false xs],(aS.cons .refl (.cons (gc hx) .nil)).same,?_⟩
 rw[vw]
 refine⟨?_,c0 (by lia),⟨by decide,c0 (by lia),by lia⟩,?_⟩
 ·have:=fJ (ah:=[]) (xs:=xs) trivial ho
  exact this
 ·rcases h with⟨h1,h2⟩|⟨D,h1,h2⟩
  ·exact .inl ⟨h1,_,aP.same .refl,h2⟩
  ·exact .inr ⟨D,h1,_,aP.same .refl,h2⟩
noncomputable def OG(K:List Int→List Int→Prop)(L:Ln):Prop:=((L.legacy=[]→(L.rexl=[]→K [] [])∧(∀r,L.rexl=[r]→K [] [r]))∧
     (∀x,L.legacy=[x]→(L.rexl=[]→K [x] [])∧(∀r,L.rexl=[r]→K [x] [r])))∧
     (∀x y,L.legacy=[x,y]→(L.rexl=[]→K [x,y] [])∧(∀r,L.rexl=[r]→K [x,y] [r]))∧
     (∀x y z,L.legacy=[x,y,z]→(L.rexl=[]→K [x,y,z] [])∧(∀r,L.rexl=[r]→K [x,y,z] [r]))
noncomputable def Fn(xs:List Int)(Z W:Prop):Prop:=(dm xs∧xs.length≤60)∧((zz xs 0∧Z)∨∃D:Dc,(D.Ok xs 0∧D.Tells 0)∧W)
noncomputable def gw(a b:List Int)(Z:Prop):Prop:=ay (few a.length) (few b.length)=true∧Z
noncomputable def jR(ms:List Int)(pk:Int):Int:=pk.fmod (Int.ofNat ms.length+1)
noncomputable def lP(ms:List Int)(pk:Int):List Int:=cut ms none (some (jR ms pk).toNat)
noncomputable def iT(ms:List Int)(pk:Int):List Int:=cut ms (some (jR ms pk).toNat) none
noncomputable def FH(ms rx tl:List Int)(pk x:Int)(Z W:Prop):Prop:=decide (0≤jR ms pk)=true∧few ms.length=true∧gw (lP ms pk) [x] (decide (0≤jR ms pk)=true∧few ms.length=true∧gw (bc (lP ms pk) [x]) (iT ms pk)
 (gw (bc (bc (lP ms pk) [x]) (iT ms pk)) rx (gw (bc (bc (bc (lP ms pk) [x]) (iT ms pk)) rx) tl (Fn (bc (bc (bc (bc (lP ms pk) [x]) (iT ms pk)) rx) tl) Z W))))
noncomputable def RB(l:List Int):Bool:=match l with
 |[]=>false
 |_::_=>true
noncomputable def qO(KU:V→Prop)(lg ms rx tl:List Int):Prop:=z7 0 tl.length=true∧few tl.length=true∧z7 1 tl.length=true∧few tl.length=true∧aZ false (lh (dy (fun y=>fB 8 y (.int 240)) (dG lg))) (KU (.bool true true))
 (gw ms rx (gw (bc ms rx) [aG tl 0,192+(aG tl 1).fmod 64] (Fn (bc (bc ms rx) [aG tl 0,192+(aG tl 1).fmod 64]) (KU (.bool true true)) (KU (.bool true false)))))
noncomputable def uU(KU:V→Prop)(size:Int)(lg ms rx tl:List Int):Prop:=aZ false (lh (dy (fun y=>fB 8 y (.int 102)) (dG lg)))
 (gw ms [102] (gw (bc ms [102]) rx (gw (bc (bc ms [102]) rx) tl (Fn (bc (bc (bc ms [102]) rx) tl) (qO KU lg ms rx tl)
  (z7 0 tl.length=true∧few tl.length=true∧aZ false ((aG tl 0).fmod 2==0) (KU (.bool true false)) (aZ false (size==64) (KU (.bool true false)) (qO KU lg ms rx tl))))))) (qO KU lg ms rx tl)
noncomputable def Pj:List V:=[.int true 38,.int true 46,.int true 54,.int true 62,.int true 103]
noncomputable def Ib(ms:List Int)(Z:Prop):Prop:=few ms.length=true∧KQ (Int.ofNat ms.length+1)=true∧Z
noncomputable def NS(KU:V→Prop)(size:Int)(lg ms rx tl:List Int)(pk:Int):Prop:=Ib ms (∃J:Int→Prop,(0≤(pk.fdiv 4).fmod 5∧(pk.fdiv 4).fmod 5 < 5∧gn Pj ((pk.fdiv 4).fmod 5) 0 (ki J))∧∀b,J b→
 FH ms rx tl pk b (FH ms rx tl pk (242+(pk.fdiv 20).fmod 2) (uU KU size lg ms rx tl) (KU (.bool true false))) (KU (.bool true false)))
noncomputable def xK(KU:V→Prop)(size:Int)(lg ms rx tl:List Int)(pk:Int):List Int→Prop
 |[]=>NS KU size lg ms rx tl pk
 |x::r=>Ib ms (FH ms rx tl pk x (aZ false (RB rx) (few ms.length=true∧gw (lX x ms) rx (gw (bc (lX x ms) rx) [x] (gw (bc (bc (lX x ms) rx) [x]) tl (Fn (bc (bc (bc (lX x ms) rx) [x]) tl) (xK KU size lg ms rx tl pk r) (KU (.bool true false)))))) (xK KU size lg ms rx tl pk r)) (KU (.bool true false)))
noncomputable def wc(g:Str)(disp size:Int)(seg:Str):PyData:=.tuple [.str (s0 "mem"),.str g,.str (s0 ""),.int 1,.int disp,.int size,.str seg,.str (s0 "")]
noncomputable def vA(nm lk:Str)(m:PyData)(rg:Str)(n:Int):PyData:=.tuple [.tuple [.str nm,.str lk,.tuple [m,.tuple [.str (s0 "reg"),.str rg]]],.int n]
noncomputable def Fe(D:Dc):Str:=match iV ((D.m.fdiv 8).fmod 8+8*aY D.P.rex 4) D.size (decide (0≤D.P.rex))with
 |true=>gG ((D.m.fdiv 8).fmod 8+8*aY D.P.rex 4)
 |false=>d5 ((D.m.fdiv 8).fmod 8+8*aY D.P.rex 4) D.size
noncomputable def Rj(KU:V→Prop)(xs:List Int)(L:Ln)(lg rx ms tl:List Int)(D:Dc):Prop:=few ms.length=true∧few rx.length=true∧few tl.length=true∧
 (lh (fB 8 (vA (bC D.d) (oT D.P.lock) (wc (d5 (D.m.fmod 8+8*aY D.P.rex 1) 64) (nV D.y) D.size D.P.seg) (Fe D) (Int.ofNat D.n+1+2 - 1)) (vA (bC L.d) (kT L.lock) (wc (d5 L.base 64) (L.disp - 256*bI (decide (127 < L.disp))) L.size L.word) (kC L.number L.size L.has) (Int.ofNat ms.length+Int.ofNat rx.length+Int.ofNat tl.length)))=true→KU (.bool true false))∧
 (lh (fB 8 (vA (bC D.d) (oT D.P.lock) (wc (d5 (D.m.fmod 8+8*aY D.P.rex 1) 64) (nV D.y) D.size D.P.seg) (Fe D) (Int.ofNat D.n+1+2 - 1)) (vA (bC L.d) (kT L.lock) (wc (d5 L.base 64) (L.disp - 256*bI (decide (127 < L.disp))) L.size L.word) (kC L.number L.size L.has) (Int.ofNat ms.length+Int.ofNat rx.length+Int.ofNat tl.length)))=false→
  D.P.Ok∧gw lg rx (bb bV (bc lg rx)=true∧few (bc lg rx).length=true∧aZ false (lh (cF (eZ D.P) (bc lg rx))) (KU (.bool true false)) (gj xs 17 fun pk=>xK KU L.size lg ms rx tl pk lg)))
noncomputable def Ru(KU:V→Prop)(xs:List Int)(L:Ln)(lg rx:List Int):Prop:=gj xs 16 fun _=>lg.length≤3∧∀ms:List Int,ms.Perm lg→gw [15] ms (gw (bc [15] ms) rx (gw (bc (bc [15] ms) rx) [L.t0,L.t1,L.disp] (gw (bc (bc (bc [15] ms) rx) [L.t0,L.t1,L.disp]) [103,1]
 (bb bV (bc (bc (bc (bc [15] ms) rx) [L.t0,L.t1,L.disp]) [103,1])=true∧few (bc (bc (bc (bc [15] ms) rx) [L.t0,L.t1,L.disp]) [103,1]).length=true∧uC (bc (bc (bc (bc [15] ms) rx) [L.t0,L.t1,L.disp]) [103,1]) 1∧
  ∃D:Dc,(D.Ok (bc (bc (bc (bc [15] ms) rx) [L.t0,L.t1,L.disp]) [103,1]) 1∧D.Tells 1)∧Rj KU xs L lg rx ms [L.t0,L.t1,L.disp] D))))
theorem uo(R:Addr→Prop)(KU:V→Prop)(xs:List Int):ao (R9 R) xB [.irow false xs,.named 1] ⟨.nil,0⟩ (aV KU)=(xs.length≤63∧∀L:Ln,L.Ok→OG (Ru KU xs L) L):=by kernel_rfl
noncomputable def iA:List Int→Pf→Option Pf
  |[],p=>some p
  | x::r,p=>match dn p x with
    |some q=>iA r q
    |none=>none
noncomputable def eK(x:Int):Bool:=!bq x&&(match aT x with
 |.none=>false
 |_=>true)
theorem mJ{x:Int}(h:eK x=true):bq x=false∧aT x≠.none:=by
 unfold eK at h
 rw[Bool.and_eq_true,Bool.not_eq_true']at h
 refine⟨h.1,fun e=>?_⟩
 rw[e]at h
 cases h.2
theorem lU(ms rest:List Int):∀(p:Pf) (n:Nat),ms.all eK=true→fA (ms++rest) p n=match iA ms p with
    |some q=>fA rest q (n+ms.length)
    |none=>none:=by
  induction ms with
  |nil=>intro p n _;rfl
  | cons x r ih=>
    intro p n h
    rw[List.all_cons,Bool.and_eq_true]at h
    refine a7 (mJ h.1) fun h1 h2=>?_
    rw[List.cons_append,lz h1 h2]
    unfold iA
    cases dn p x with
    |none=>rfl
    | some q=>
      show fA (r++rest) q (n+1)=_
      rw[ih q (n+1) h.2,List.length_cons,show n+1+r.length=n+(r.length+1) by lia]
noncomputable def gI(x:Int):List Int→List (List Int)
 |[]=>[[x]]
 |y::r=>(x::y::r)::(gI x r).map (y::·)
noncomputable def uJ:List Int→List (List Int)
 |[]=>[[]]
 |x::r=>(uJ r).flatMap (gI x)
theorem jf(x:Int):∀p q:List Int,p++x::q∈gI x (p++q)
 |[],[]=>.head _
 |[],y::q=>.head _
 |y::p,q=>.tail _ (List.mem_map.mpr ⟨_,jf x p q,rfl⟩)
theorem mQ:∀{l ys:List Int},ys.Perm l→ys∈uJ l
  |[],ys,h=>by rw[h.eq_nil];exact .head _
  | x::r,ys,h=>by
    have hx:x∈ys:=h.mem_iff.mpr (.head _)
    refine iB (List.append_of_mem hx) fun p q rq2=>?_;subst rq2
    have:(p++q).Perm r:=(List.perm_middle.symm.trans h).cons_inv
    exact List.mem_flatMap.mpr ⟨_,mQ this,jf x p q⟩
noncomputable def Js(p q:Pf):Bool:=aE p.seg q.seg&&p.data==q.data&&p.rep==q.rep&&p.lock==q.lock&&p.rex==q.rex
theorem FX{p q:Pf}(h:Js p q=true):p=q:=by
 obtain⟨a,b,c,d,e⟩:=p
 obtain⟨a',b',c',d',e'⟩:=q
 unfold Js at h
 simp only [Bool.and_eq_true,beq_iff_eq]at h
 obtain⟨⟨⟨⟨h1,rfl⟩,rfl⟩,rfl⟩,rfl⟩:=h
 rw[pd h1]
noncomputable def gV(o:Option Pf)(p:Pf):Bool:=match o with
 |some q=>Js q p
 |none=>false
theorem hM{o:Option Pf}{p:Pf}(h:gV o p=true):o=some p:=by
 unfold gV at h
 split at h
 ·rw[FX h]
 ·cases h
noncomputable def tu:List Int:=[38,46,54,62,103]
noncomputable def zt(x:Int):Bool:=decide (0≤x)&&decide (x < 256)
noncomputable def BV(w:Str)(d l:Bool)(ms:List Int):Bool:=ms.all eK&&(ms.all zt&&(gV (iA ms jN) ⟨w,d,0,l,-1⟩&&((ms++tu).all (fun x=>(gI x ms).all fun zs=>zs.all eK&&(zs.all zt&&(iA zs jN).isNone)) &&
 ([242,243].all (fun x=>(gI x ms).all fun zs=>zs.all eK&&(zs.all zt&&(if l then(iA zs jN).isNone else gV (iA zs jN) ⟨w,d,x,false,-1⟩))) &&
 (ms.all (fun x=>(iA (lX x ms) jN).isSome&&((lX x ms).all eK&&(lX x ms).all zt))&&(d||gV (iA (ms++[102]) jN) ⟨w,true,0,l,-1⟩))))))
theorem BH{w:Str}(h:w=s0 ""∨w=s0 "fs"∨w=s0 "gs")(d l:Bool):(uJ (jd w d 0 l)).all (BV w d l)=true:=by
 have k1:=z0 h;have k2:=rM d;have k3:=rM l;clear h;revert w d l k1 k2 k3
 exact@(jY (by kernel_rfl))
theorem dP:∀{l:List Int},l.all zt=true→dm l
  |[],_=>trivial
  | x::r,h=>by
    rw[List.all_cons,Bool.and_eq_true]at h
    have h1:=h.1
    unfold zt at h1
    rw[Bool.and_eq_true,decide_eq_true_eq,decide_eq_true_eq]at h1
    exact⟨h1,dP h.2⟩
theorem bg:∀{a b:List Int},dm a→dm b→dm (a++b)
 |[],_,_,h=>h
 |_::_,_,h,h'=>⟨h.1,bg h.2 h'⟩
structure ub(w:Str)(d l:Bool)(ms:List Int):Prop where
 leg:ms.all eK=true
 oct:dm ms
 all:iA ms jN=some ⟨w,d,0,l,-1⟩
 ins:∀x,x∈ms∨x∈tu→∀zs∈gI x ms,zs.all eK=true∧dm zs∧iA zs jN=none
 rep:∀x,x=242∨x=243→∀zs∈gI x ms,zs.all eK=true∧dm zs∧iA zs jN=(if l then none else some ⟨w,d,x,false,-1⟩)
 ne:∀x∈ms,(∃q,iA (lX x ms) jN=some q)∧(lX x ms).all eK=true∧dm (lX x ms)
 data:d=false→iA (ms++[102]) jN=some ⟨w,true,0,l,-1⟩
theorem o6{w:Str}{d l:Bool}{ms:List Int}(hw:w=s0 ""∨w=s0 "fs"∨w=s0 "gs")(hp:ms.Perm (jd w d 0 l)):ub w d l ms:=by
 have h:=List.all_eq_true.mp (BH hw d l) ms (mQ hp)
 unfold BV at h
 simp only [Bool.and_eq_true]at h
 refine Qq h fun h1 h2 h3 h4 h5 h6 h7=>?_
 refine⟨h1,dP h2,hM h3,fun x hx zs hz=>?_,fun x hx zs hz=>?_,fun x hx=>?_,fun hd=>?_⟩
 ·have:=List.all_eq_true.mp (List.all_eq_true.mp h4 x (List.mem_append.mpr hx)) zs hz
  simp only [Bool.and_eq_true]at this
  exact⟨this.1,dP this.2.1,Option.isNone_iff_eq_none.mp this.2.2⟩
 ·have hx:x∈[(242:Int),243]:=by rcases hx with rfl|rfl <;> simp
  have:=List.all_eq_true.mp (List.all_eq_true.mp h5 x hx) zs hz
  simp only [Bool.and_eq_true]at this
  refine⟨this.1,dP this.2.1,?_⟩
  have t:=this.2.2
  cases l
  ·exact hM t
  ·exact Option.isNone_iff_eq_none.mp t
 ·have:=List.all_eq_true.mp h6 x hx
  simp only [Bool.and_eq_true]at this
  exact⟨Option.isSome_iff_exists.mp this.1,this.2.1,dP this.2.2⟩
 ·subst hd
  rw[Bool.false_or]at h7
  exact hM h7
theorem rP:∀(a b:List Int) (k:Nat),aG (a++b) (a.length+k)=aG b k
  |[],b,k=>by rw[List.nil_append,List.length_nil,Nat.zero_add]
  | x::r,b,k=>by
    rw[List.cons_append,List.length_cons,show r.length+1+k=(r.length+k)+1 by lia]
    exact rP r b k
theorem Bx{d:Int}(h:0≤d∧d < 7){x:Int}(hx:x=8*d∨x=8*d+1):bq x=false∧aT x=.none:=by
 rcases Lc h.1 h.2 with rfl|rfl|rfl|rfl|rfl|rfl|rfl <;> rcases hx with rfl|rfl <;> exact⟨rfl,rfl⟩
theorem HB{p:Pf}(hp:p.rex=-1){x:Int}(hx:bq x=false∧aT x=.none)(tl:List Int)(n:Nat):fA (x::tl) p n=some (p,n)∧∀r,64≤r→r < 80→fA (r::x::tl) p n=some ({p with rex:=r},n+1):=by
 have e:∀(q:Pf) (m:Nat),fA (x::tl) q m=some (q,m):=fun q m=>by
  rw[cV,hx.1,hx.2,if_neg (by decide)]
 refine⟨e p n,fun r h1 h2=>?_⟩
 rw[cV,mB h1 h2,if_pos rfl,hp,if_neg (by decide),e]
theorem Sq(x:Int):x.fmod 8=x % 8:=Int.fmod_eq_emod_of_nonneg x (by decide)
theorem O3(x:Int):x.fdiv 8=x / 8:=Int.fdiv_eq_ediv_of_nonneg x (by decide)
structure RD(L:Ln):Prop where
 rex:L.has=true→64≤L.rexv∧L.rexv < 80
 w:aY L.pf.rex 8=bI (L.size==64)
 r:aY L.pf.rex 4=L.number.fdiv 8
 b:aY L.pf.rex 1=L.base.fdiv 8
 has:decide (0≤L.pf.rex)=L.has
 ok:L.pf.rex=-1∨(64≤L.pf.rex∧L.pf.rex < 80)
theorem qV{L:Ln}(ok:L.Ok):RD L:=by
  have n1:=ok.number
  have b1:=ok.base
  have i1:=ok.idle
  have z:=Et (L.size==64)
  have hn:L.number.fdiv 8=0∨L.number.fdiv 8=1:=by rw[O3];lia
  have hb:L.base.fdiv 8=0∨L.base.fdiv 8=1:=by rw[O3];lia
  have er:L.rexv=64+8*bI (L.size==64)+4*L.number.fdiv 8+2*L.idle+L.base.fdiv 8:=rfl
  have rng:64≤L.rexv∧L.rexv < 80:=by lia
  refine ym (rd z hn i1 hb) fun e0 e1 _ e3=>?_
  cases hh:L.has with
  | true=>
    have e:L.pf.rex=L.rexv:=by show(if L.has then L.rexv else -1)=_;rw[hh,if_pos rfl]
    refine⟨fun _=>rng,?_,?_,?_,?_,?_⟩
    · rw[e,er];exact e0
    · rw[e,er];exact e1
    · rw[e,er];exact e3
    · rw[e,hh];exact decide_eq_true (by lia)
    · rw[e];exact .inr rng
  | false=>
    have e:L.pf.rex=-1:=by show(if L.has then L.rexv else -1)=_;rw[hh,if_neg (by decide)]
    have h64:=ok.has hh
    rw[er]at h64
    have b:∀k,aY (-1) k=0:=fun k=>rfl
    refine⟨fun h=>(by rw[hh]at h;cases h),?_,?_,?_,?_,.inl e⟩
    · rw[e,b];lia
    · rw[e,b];lia
    · rw[e,b];lia
    · rw[e,hh];rfl
theorem Lz{L:Ln}(ok:L.Ok):64≤L.t1∧L.t1 < 128∧L.t1.fmod 8=L.base.fmod 8∧(L.t1.fdiv 8).fmod 8=L.number.fmod 8:=by
 have n1:=ok.number
 have b1:=ok.base
 have e:L.t1=64+8*L.number.fmod 8+L.base.fmod 8:=rfl
 rw[e]
 simp only [Sq,O3]
 lia
theorem OV{L:Ln}(ok:L.Ok):(L.t0=8*L.d∨L.t0=8*L.d+1)∧L.t0=8*L.d+(match L.size==8 with|true=>0|false=>1):=by
 have e:L.t0=8*L.d+bI (decide (8 < L.size)):=rfl
 rcases ok.size with h|h|h|h <;> rw[e,h]
 ·exact⟨.inl (Int.add_zero _),rfl⟩
 ·exact⟨.inr rfl,rfl⟩
 ·exact⟨.inr rfl,rfl⟩
 ·exact⟨.inr rfl,rfl⟩
noncomputable def qy(L:Ln)(h z:Nat)(p:Pf)(md:Bool)(m y:Int):Dc:=⟨{p with rex:=L.pf.rex},h+z+L.rexl.length,L.d,L.size==8,aY L.pf.rex 8,md,m,y⟩
theorem O0{L:Ln}(ok:L.Ok){hd zs tail:List Int}{p:Pf}{md:Bool}{m y:Int}(hz:zs.all eK=true)(hf:iA zs jN=some p)(pok:({p with rex:=L.pf.rex}:Pf).Ok)(hr:p.rex=-1)
    (hm:(md=true→64≤m∧m < 128∧m.fmod 8≠4∧0≤y∧y < 256)∧(md=false→192≤m∧m < 256)) (hy:md=true→∃t,tail=y::t) :
    (qy L hd.length zs.length p md m y).Ok (hd++(zs++(L.rexl++(L.t0::m::tail)))) (Int.ofNat hd.length):=by
  have F:=qV ok
  have e:hd++(zs++(L.rexl++(L.t0::m::tail)))=(hd++zs++L.rexl)++(L.t0::m::tail):=by simp only [List.append_assoc]
  have el:(hd++zs++L.rexl).length=hd.length+zs.length+L.rexl.length:=by simp only [List.length_append]
  have g:∀k,aG (hd++(zs++(L.rexl++(L.t0::m::tail)))) (hd.length+zs.length+L.rexl.length+k)=aG (L.t0::m::tail) k:=fun k=>by rw[e,←el];exact rP _ _ k
  have hlen:(hd++(zs++(L.rexl++(L.t0::m::tail)))).length=hd.length+zs.length+L.rexl.length+2+tail.length:=by
    simp only [List.length_append,List.length_cons];lia
  refine⟨?_,pok,?_,ok.d,rfl,?_,g 1,hm,fun h=>?_⟩
  · unfold rp
    rw[show(Int.ofNat hd.length).toNat=hd.length from rfl,List.drop_left,lU _ _ _ _ hz,hf]
    have op:=Bx ok.d (OV ok).1
    have r:=HB (p:=p) hr op (m::tail) (hd.length+zs.length)
    have er:L.rexl=if L.has then[L.rexv]else[]:=rfl
    cases hh:L.has with
    | true=>
      have e2:L.pf.rex=L.rexv:=by show(if L.has then L.rexv else -1)=_;rw[hh,if_pos rfl]
      rw[hh,if_pos rfl]at er
      unfold qy
      rw[er,e2]
      exact r.2 _ (F.rex hh).1 (F.rex hh).2
    | false=>
      have e2:L.pf.rex=-1:=by show(if L.has then L.rexv else -1)=_;rw[hh,if_neg (by decide)]
      rw[hh,if_neg (by decide)]at er
      unfold qy
      rw[er,e2]
      have:({p with rex:=-1}:Pf)=p:=by rw[←hr]
      rw[this]
      exact r.1
  · have:=g 0
    rw[Nat.add_zero]at this
    exact this.trans (OV ok).2
  · show hd.length+zs.length+L.rexl.length+1 < _
    rw[hlen];lia
  · refine bz (hy h) fun t rq1=>?_;subst rq1
    refine⟨?_,g 2⟩
    show hd.length+zs.length+L.rexl.length+1+1 < _
    rw[hlen,List.length_cons];lia
theorem mv(L:Ln):L.legacy=jd L.word (L.size==16) 0 L.lock:=by
 unfold Ln.legacy jd
 simp
theorem A8{L:Ln}(ok:L.Ok){h z:Nat}{p:Pf}{md:Bool}{m y:Int}(hp:p.data=(L.size==16)):(qy L h z p md m y).size=L.size:=by
 show OP (L.size==8) (aY L.pf.rex 8) p.data=L.size
 rw[(qV ok).w,hp]
 rcases ok.size with h|h|h|h <;> rw[h] <;> rfl
theorem iP{n:Nat}(h:n≤60):few n=true:=c0 (by lia)
theorem bJ{a b:List Int}{Z:Prop}(h1:a.length≤60)(h2:b.length≤60)(z:Z):gw a b Z:=⟨by rw[iP h1,iP h2];rfl,z⟩
theorem Hx(ms:List Int)(k:Nat):cut ms none (some k)++cut ms (some k) none=ms:=by
  show kK ms k++kG ms k=ms
  induction ms generalizing k with
  |nil=>rfl
  | cons x r ih=>cases k with
    |zero=>rfl
    |succ n=>exact congrArg (x::·) (ih n)
theorem qt{ms rx tl:List Int}{pk x:Int}{Z W:Prop}(h1:ms.length≤4)(h2:rx.length≤4)(h3:tl.length≤4)(h:∀zs∈gI x ms,(dm (zs++(rx++tl))∧(zz (zs++(rx++tl)) 0∧Z))):FH ms rx tl pk x Z W:=by
 have hs:0≤jR ms pk:=aQ _ (by show(0:Int) < (ms.length:Int)+1;lia)
 have e:=Hx ms (jR ms pk).toNat
 have hm:=jf x (lP ms pk) (iT ms pk)
 have e2:lP ms pk++iT ms pk=ms:=e
 rw[e2]at hm
 have hl:(lP ms pk).length+(iT ms pk).length=ms.length:=by rw[←List.length_append,e2]
 have ex:bc (bc (bc (bc (lP ms pk) [x]) (iT ms pk)) rx) tl=(lP ms pk++x::iT ms pk)++(rx++tl):=by
  simp only [aD,List.append_assoc,List.cons_append,List.nil_append]
 refine jD (h _ hm) fun o r z=>?_
 have fm:few ms.length=true:=iP (by lia)
 have p1:(lP ms pk).length≤60:=by lia
 have p2:(iT ms pk).length≤60:=by lia
 have p3:rx.length≤60:=by lia
 have p4:tl.length≤60:=by lia
 have p5:[x].length≤60:=by simp
 refine⟨decide_eq_true hs,fm,bJ p1 p5 ⟨decide_eq_true hs,fm,bJ ?_ p2 (bJ ?_ p3 (bJ ?_ p4 ?_))⟩⟩
 ·rw[aD];simp;lia
 ·rw[aD,aD];simp;lia
 ·rw[aD,aD,aD];simp;lia
 ·rw[ex]
  refine⟨⟨o,?_⟩,.inl ⟨r,z⟩⟩
  simp;lia
section
theorem K6{w:Str}(h:w=s0 ""∨w=s0 "fs"∨w=s0 "gs")(d l:Bool):dy (fun y=>fB 8 y (.int 240)) (dG (jd w d 0 l))=l:=by
 have k1:=z0 h;have k2:=rM d;have k3:=rM l;clear h;revert w d l k1 k2 k3
 exact@(jY (by kernel_rfl))
theorem Ks{w:Str}(h:w=s0 ""∨w=s0 "fs"∨w=s0 "gs")(d l:Bool):dy (fun y=>fB 8 y (.int 102)) (dG (jd w d 0 l))=d:=by
 have k1:=z0 h;have k2:=rM d;have k3:=rM l;clear h;revert w d l k1 k2 k3
 exact@(jY (by kernel_rfl))
theorem fM{L:Ln}(ok:L.Ok):dm L.rexl∧L.rexl.length≤1:=by
  have e:L.rexl=if L.has then[L.rexv]else[]:=rfl
  cases hh:L.has with
  | true=>
    have:=(qV ok).rex hh
    rw[e,hh,if_pos rfl]
    exact⟨⟨by lia,trivial⟩,by simp⟩
  |false=>rw[e,hh,if_neg (by decide)];exact⟨trivial,by simp⟩
theorem pE{L:Ln}(ok:L.Ok):0≤L.t0∧L.t0 < 56:=by
 have h:=(OV ok).1
 have:=ok.d
 lia
theorem nj{L:Ln}(ok:L.Ok):dm (L.rexl++[L.t0,L.t1,L.disp]):=by
 have h0:=pE ok
 have h1:=Lz ok
 have h2:=ok.disp
 exact bg (fM ok).1 ⟨by lia,by lia,by lia,trivial⟩
theorem oa{n:Nat}{a:Int}(ha:0≤a)(h:n≤5):Int.ofNat n+1+2 - a≤15:=by
 have:Int.ofNat n=(n:Int):=rfl
 lia
theorem mW{zs rest:List Int}(hz:zs.all eK=true)(h:iA zs jN=none):zz (zs++rest) 0:=by
 refine .inl ?_
 unfold rp
 rw[show(0:Int).toNat=0 from rfl,List.drop_zero,lU _ _ _ _ hz,h]
theorem E2(x:Int)(l:List Int):(lX x l).length≤l.length:=by
  induction l with
  |nil=>exact Nat.le_refl _
  | cons y r ih=>
    show(bX (y==x) (lX x r) (y::lX x r)).length≤_
    cases y==x with
    |true=>exact Nat.le_succ_of_le ih
    |false=>exact Nat.succ_le_succ ih
theorem Bj{p:Pf}{x:Int}(h:0≤p.rex):dn p x=none:=by
 unfold dn
 cases aT x <;> first|rfl|(dsimp only;rw[if_pos h])
section
variable {L:Ln}(ok:L.Ok){ms:List Int}(g:ub L.word (L.size==16) L.lock ms)(hlen:ms.length≤3){KU:V→Prop}(hk:KU (.bool true true))
include ok g hlen
theorem uQ:(true=true→64≤L.t1∧L.t1 < 128∧L.t1.fmod 8≠4∧0≤L.disp∧L.disp < 256)∧(true=false→192≤L.t1∧L.t1 < 256):=by
 have h1:=Lz ok
 have h2:=ok.disp
 have h3:=ok.base
 exact⟨fun _=>⟨h1.1,h1.2.1,by rw[h1.2.2.1];exact h3.2.2,h2.1,h2.2⟩,fun e=>by cases e⟩
include hk
theorem zv:qO KU L.legacy ms L.rexl [L.t0,L.t1,L.disp]:=by
 have F:=qV ok
 have h0:=pE ok
 have h1:=Lz ok
 have hr:=fM ok
 refine⟨rfl,rfl,rfl,rfl,?_⟩
 rw[mv,K6 ok.word]
 refine⟨fun _=>hk,fun e=>?_⟩
 have hl:L.lock=true:=by
  cases h:L.lock
  ·rw[h]at e;cases e
  ·rfl
 refine bJ (by lia) (by lia) (bJ ?_ (by simp) ?_)
 ·rw[aD,List.length_append];lia
 ·have m1:=aQ L.t1 (n:=64) (by decide)
  have m2:=a6 L.t1 (n:=64) (by decide)
  have ex:bc (bc ms L.rexl) [aG [L.t0,L.t1,L.disp] 0,192+(aG [L.t0,L.t1,L.disp] 1).fmod 64]=[]++(ms++(L.rexl++(L.t0::(192+L.t1.fmod 64)::[]))):=by
   simp only [aD,List.append_assoc,List.nil_append];rfl
  rw[ex]
  refine⟨⟨?_,?_⟩,.inl ⟨.inr ⟨_,O0 ok (hd:=[]) (y:=0) (md:=false) g.leg g.all ?_ rfl ⟨fun e=>(by cases e),fun _=>⟨by lia,by lia⟩⟩ fun e=>(by cases e),.inr ⟨rfl,hl⟩⟩,hk⟩⟩
  ·exact bg (a:=ms) g.oct (bg (a:=L.rexl) hr.1 ⟨⟨h0.1,by lia⟩,⟨by lia,by lia⟩,trivial⟩)
  ·simp only [List.nil_append,List.length_append,List.length_cons,List.length_nil];lia
  ·exact⟨ok.word,.inl rfl,fun _=>rfl,F.ok⟩
theorem zT:uU KU L.size L.legacy ms L.rexl [L.t0,L.t1,L.disp]:=by
 have F:=qV ok
 have hr:=fM ok
 have hend:=zv ok g hlen hk
 unfold uU
 have ea:dy (fun y=>fB 8 y (.int 102)) (dG L.legacy)=(L.size==16):=by rw[mv];exact Ks ok.word _ _
 rw[ea]
 refine⟨fun e=>?_,fun _=>hend⟩
 have hd:(L.size==16)=false:=by
  cases h:(L.size==16)
  ·rfl
  ·rw[h]at e;cases e
 have ex:bc (bc (bc ms [102]) L.rexl) [L.t0,L.t1,L.disp]=[]++((ms++[102])++(L.rexl++(L.t0::L.t1::[L.disp]))):=by
  simp only [aD,List.append_assoc,List.nil_append]
 have hz:(ms++[102]).all eK=true:=by
  rw[List.all_append,g.leg];rfl
 have dk:=O0 ok (hd:=[]) (y:=L.disp) (md:=true) (m:=L.t1) (tail:=[L.disp]) hz (g.data hd) ⟨ok.word,.inl rfl,fun _=>rfl,F.ok⟩ rfl (uQ ok g hlen) fun _=>⟨[],rfl⟩
 have oc:dm ([]++((ms++[102])++(L.rexl++(L.t0::L.t1::[L.disp])))):=bg (a:=ms++[102]) (bg g.oct ⟨⟨by decide,by decide⟩,trivial⟩) (nj ok)
 have ol:([]++((ms++[102])++(L.rexl++(L.t0::L.t1::[L.disp])))).length≤60:=by
  simp only [List.nil_append,List.length_append,List.length_cons,List.length_nil];lia
 have hn5:(qy L ([]:List Int).length (ms++[102]).length ⟨L.word,true,0,L.lock,-1⟩ true L.t1 L.disp).n≤5:=by
  show([]:List Int).length+(ms++[102]).length+L.rexl.length≤5
  simp only [List.length_append,List.length_cons,List.length_nil]
  lia
 refine bJ (by lia) (by simp) (bJ ?_ (by lia) (bJ ?_ (by simp) ?_))
 ·rw[aD,List.length_append,List.length_cons,List.length_nil];lia
 ·simp only [aD,List.length_append,List.length_cons,List.length_nil];lia
 rw[ex]
 refine⟨⟨oc,ol⟩,?_⟩
 rcases ok.size with h|h|h|h
 ·refine .inl ⟨.inr ⟨_,dk,.inl ⟨rfl,.inr ?_⟩⟩,hend⟩
  show(match L.size==8 with|true=>true|false=>aY L.pf.rex 8==1)=true
  rw[h];rfl
 ·rw[h]at hd;exact absurd hd (by decide)
 ·refine .inr ⟨_,⟨dk,rfl,rfl,?_,?_⟩,rfl,rfl,fun e=>?_,fun _=>⟨fun e=>?_,fun _=>hend⟩⟩
  ·show(match L.size==8 with|true=>true|false=>aY L.pf.rex 8==1)=false
   rw[F.w,h];rfl
  ·exact oa (by decide) hn5
  ·have t:=(OV ok).2
   rw[h]at t
   have t:L.t0=8*L.d+1:=t
   have e:(L.t0.fmod 2==0)=true:=e
   rw[beq_iff_eq]at e
   rw[Int.fmod_eq_emod_of_nonneg _ (by decide),t]at e
   lia
  ·rw[h]at e;cases e
 ·refine .inl ⟨.inr ⟨_,dk,.inl ⟨rfl,.inr ?_⟩⟩,hend⟩
  show(match L.size==8 with|true=>true|false=>aY L.pf.rex 8==1)=true
  rw[F.w,h];rfl
theorem GH(pk:Int):NS KU L.size L.legacy ms L.rexl [L.t0,L.t1,L.disp] pk:=by
  have F:=qV ok
  have hr:=fM ok
  have hc:=zT ok g hlen hk
  have fm:few ms.length=true:=iP (by lia)
  refine⟨fm,decide_eq_true (by show(0:Int) < (ms.length:Int)+1;lia),fun b=>b∈tu,⟨aQ _ (by decide),a6 _ (by decide),fun _=>(by decide:(38:Int)∈tu),fun _=>(by decide:(46:Int)∈tu),fun _=>(by decide:(54:Int)∈tu),fun _=>(by decide:(62:Int)∈tu),fun _=>(by decide:(103:Int)∈tu),trivial⟩,fun b hb=>?_⟩
  refine qt (by lia) (by lia) (by simp) fun zs hz=>?_
  refine jD (g.ins b (.inr hb) zs hz) fun a1 a2 a3=>?_
  refine⟨bg a2 (nj ok),mW a1 a3,qt (by lia) (by lia) (by simp) fun zs hz=>?_⟩
  have hx:242+(pk.fdiv 20).fmod 2=242∨242+(pk.fdiv 20).fmod 2=243:=by have:=qh (pk.fdiv 20);lia
  refine jD (g.rep _ hx zs hz) fun a1 a2 a3=>?_
  refine⟨bg a2 (nj ok),?_,hc⟩
  cases hl:L.lock with
  |true=>rw[hl]at a3;exact mW a1 a3
  | false=>
    rw[hl]at a3
    refine .inr ⟨_,O0 ok (hd:=[]) (y:=L.disp) (md:=true) (m:=L.t1) (tail:=[L.disp]) a1 a3 ⟨ok.word,.inr hx,fun e=>(by cases e),F.ok⟩ rfl (uQ ok g hlen) fun _=>⟨[],rfl⟩,.inl ⟨rfl,.inl ?_⟩⟩
    show 242+(pk.fdiv 20).fmod 2≠0
    lia
theorem yf (pk:Int) (lg:List Int) (h:∀x∈lg,x∈ms):xK KU L.size L.legacy ms L.rexl [L.t0,L.t1,L.disp] pk lg:=by
  induction lg with
  |nil=>exact GH ok g hlen hk pk
  | cons x r ih=>
    have F:=qV ok
    have hr:=fM ok
    have next:=ih fun y hy=>h y (.tail _ hy)
    have fm:few ms.length=true:=iP (by lia)
    have hx:=h x (.head _)
    refine⟨fm,decide_eq_true (by show(0:Int) < (ms.length:Int)+1;lia),qt (by lia) (by lia) (by simp) fun zs hz=>?_⟩
    refine jD (g.ins x (.inl hx) zs hz) fun a1 a2 a3=>?_
    refine⟨bg a2 (nj ok),mW a1 a3,fun e=>?_,fun _=>next⟩
    obtain⟨⟨q,n1⟩,n2,n3⟩:=g.ne x hx
    have nl:=E2 x ms
    have hxo:dm [x]:=by
      have:∀{l:List Int},dm l→x∈l→dm [x]:=fun{l} ho hm=>by
        induction l with
        |nil=>cases hm
        | cons y l ih=>cases hm with
          |head=>exact⟨ho.1,trivial⟩
          |tail _ hm=>exact ih ho.2 hm
      exact this g.oct hx
    have lx:eK x=true:=List.all_eq_true.mp g.leg x hx
    have ex:bc (bc (bc (lX x ms) L.rexl) [x]) [L.t0,L.t1,L.disp]=lX x ms++(L.rexl++(x::[L.t0,L.t1,L.disp])):=by
      simp only [aD,List.append_assoc,List.cons_append,List.nil_append]
    refine⟨fm,bJ (by lia) (by lia) (bJ ?_ (by simp) (bJ ?_ (by simp) ?_))⟩
    · rw[aD,List.length_append];lia
    · simp only [aD,List.length_append,List.length_cons,List.length_nil];lia
    rw[ex]
    have h0:=pE ok
    have h1:=Lz ok
    have h2:=ok.disp
    refine⟨⟨bg n3 (bg hr.1 ⟨hxo.1,by lia,by lia,by lia,trivial⟩),?_⟩,.inl ⟨.inl ?_,next⟩⟩
    · simp only [List.length_append,List.length_cons,List.length_nil];lia
    · unfold rp
      rw[show(0:Int).toNat=0 from rfl,List.drop_zero,lU _ _ _ _ n2,n1]
      have er:L.rexl=if L.has then[L.rexv]else[]:=rfl
      cases hh:L.has with
      | false=>
        rw[hh,if_neg (by decide)]at er
        rw[er]at e;cases e
      | true=>
        rw[hh,if_pos rfl]at er
        have rg:=F.rex hh
        rw[er]
        show fA (L.rexv::x::[L.t0,L.t1,L.disp]) q _=none
        rw[cV,mB rg.1 rg.2,if_pos rfl]
        split
        · rfl
        · rw[lz (mJ lx).1 (mJ lx).2,Bj (p:={q with rex:=L.rexv}) (by show 0≤L.rexv;lia)]
end
end
theorem GZ(a b g seg r:Str)(d s n:Int):fB 8 (vA a b (wc g d s seg) r n) (vA a b (wc g d s seg) r n)=true:=by
 rw[jh];simp[vA,wc,PyData.eqv,PyData.eqvAll]
theorem rN(l:List Int):cF l l=true:=by
 induction l with
 |nil=>rfl
 |cons x r ih=>show bX (x==x) (cF r r) false=true;rw[beq_self_eq_true];exact ih
theorem yU(b:Bool):oT b=kT b:=by cases b <;> rfl
set_option tactic.hygienic true in
theorem Bl(y:Int):nV y=y - 256*bI (decide (127 < y)):=by
 unfold nV
 split
 ·rename_i h;rw[decide_eq_true h];show y - 256=y - 256*1;lia
 ·rename_i h;rw[decide_eq_false h];show y=y - 256*0;lia
theorem zl(n size:Int)(b:Bool):(match iV n size b with|true=>gG n|false=>d5 n size)=kC n size b:=by
  unfold kC iV
  cases h1:(size==8)with
  |false=>rfl
  | true=>
    cases b with
    |true=>rfl
    | false=>
      show(match ay (decide (4≤n)) (decide (n < 8))with|true=>gG n|false=>d5 n size)=if(true&&!false&&decide (4≤n)&&decide (n < 8))=true then gG n else d5 n size
      cases decide (4≤n) <;> cases decide (n < 8) <;> rfl
theorem KX(L:Ln)(hh:decide (0≤L.pf.rex)=L.has):eZ L.pf=L.legacy++L.rexl:=by
  have e1:eZ L.pf=jd L.word (L.size==16) 0 L.lock++(if 0≤L.pf.rex then[L.pf.rex]else[]):=rfl
  have e2:L.rexl=if L.has then[L.rexv]else[]:=rfl
  have e3:L.pf.rex=if L.has then L.rexv else -1:=rfl
  rw[e1,←mv,e2]
  cases h:L.has with
  | true=>
    rw[h]at hh e3
    have hh:=of_decide_eq_true hh
    rw[if_pos hh,e3,if_pos rfl,if_pos rfl]
  | false=>
    rw[h]at hh e3
    have hh:=of_decide_eq_false hh
    rw[if_neg hh,if_neg (by decide)]
theorem tE(x:Int):x.fmod 8+8*x.fdiv 8=x:=by rw[Sq,O3];lia
theorem KI {KU:V→Prop} {xs:List Int} {L:Ln} (hl:xs.length≤63) (ok:L.Ok) (hk:KU (.bool true true)):Ru KU xs L L.legacy L.rexl:=by
  have F:=qV ok
  have hr:=fM ok
  have ll:=xf L
  refine⟨hl,by decide,fun _ _=>⟨ll,fun ms hp=>?_⟩⟩
  have g:ub L.word (L.size==16) L.lock ms:=o6 ok.word (by rw[←mv];exact hp)
  have hlen:ms.length≤3:=by rw[hp.length_eq];exact ll
  have ex:bc (bc (bc (bc [15] ms) L.rexl) [L.t0,L.t1,L.disp]) [103,1]=[15]++(ms++(L.rexl++(L.t0::L.t1::[L.disp,103,1]))):=by
    simp only [aD,List.append_assoc,List.cons_append,List.nil_append]
  have n1:(bc [15] ms).length≤60:=by rw[aD,List.length_append,List.length_cons,List.length_nil];lia
  have n2:(bc (bc [15] ms) L.rexl).length≤60:=by simp only [aD,List.length_append,List.length_cons,List.length_nil];lia
  have n3:(bc (bc (bc [15] ms) L.rexl) [L.t0,L.t1,L.disp]).length≤60:=by simp only [aD,List.length_append,List.length_cons,List.length_nil];lia
  have n4:(bc (bc (bc (bc [15] ms) L.rexl) [L.t0,L.t1,L.disp]) [103,1]).length≤60:=by simp only [aD,List.length_append,List.length_cons,List.length_nil];lia
  refine bJ (by simp) (by lia) (bJ n1 (by lia) (bJ n2 (by simp) (bJ n3 (by simp) ⟨?_,iP n4,⟨by decide,iP n4,by lia⟩,?_⟩)))
  · have h0:=pE ok
    have h1:=Lz ok
    have h2:=ok.disp
    have o1:dm (bc (bc (bc [15] ms) L.rexl) [L.t0,L.t1,L.disp]):=by
      have:bc (bc (bc [15] ms) L.rexl) [L.t0,L.t1,L.disp]=15::(ms++(L.rexl++[L.t0,L.t1,L.disp])):=by
        simp only [aD,List.append_assoc,List.cons_append,List.nil_append]
      rw[this]
      exact⟨by decide,bg g.oct (nj ok)⟩
    exact fJ o1 ⟨by decide,by decide,trivial⟩
  · rw [ex]
    have dk:=O0 ok (hd:=[15]) (y:=L.disp) (md:=true) (m:=L.t1) (tail:=[L.disp,103,1]) g.leg g.all ⟨ok.word,.inl rfl,fun _=>rfl,F.ok⟩ rfl (uQ ok g hlen) fun _=>⟨[103,1],rfl⟩
    have hn:(qy L 1 ms.length ⟨L.word,L.size==16,0,L.lock,-1⟩ true L.t1 L.disp).n≤5:=by
      show 1+ms.length+L.rexl.length≤5
      lia
    refine⟨_,⟨dk,rfl,rfl,?_,oa (by decide) hn⟩,?_⟩
    · show(match L.size==16 with|true=>(match L.size==8 with|true=>true|false=>aY L.pf.rex 8==1)|false=>false)=false
      rw[F.w]
      rcases ok.size with h|h|h|h <;> rw[h] <;> rfl
    · have fm:few ms.length=true:=iP (by lia)
      have e1:(qy L 1 ms.length ⟨L.word,L.size==16,0,L.lock,-1⟩ true L.t1 L.disp).size=L.size:=A8 ok rfl
      have tf:=Lz ok
      have er:Fe (qy L 1 ms.length ⟨L.word,L.size==16,0,L.lock,-1⟩ true L.t1 L.disp)=kC L.number L.size L.has:=by
        unfold Fe
        rw[e1]
        have:((qy L 1 ms.length ⟨L.word,L.size==16,0,L.lock,-1⟩ true L.t1 L.disp).m.fdiv 8).fmod 8+8*aY (qy L 1 ms.length ⟨L.word,L.size==16,0,L.lock,-1⟩ true L.t1 L.disp).P.rex 4=L.number:=by
          show(L.t1.fdiv 8).fmod 8+8*aY L.pf.rex 4=L.number
          rw[tf.2.2.2,F.r,tE]
        rw[this]
        have h2:decide (0≤(qy L 1 ms.length ⟨L.word,L.size==16,0,L.lock,-1⟩ true L.t1 L.disp).P.rex)=L.has:=F.has
        rw[h2]
        exact zl _ _ _
      have em:(qy L 1 ms.length ⟨L.word,L.size==16,0,L.lock,-1⟩ true L.t1 L.disp).m.fmod 8+8*aY (qy L 1 ms.length ⟨L.word,L.size==16,0,L.lock,-1⟩ true L.t1 L.disp).P.rex 1=L.base:=by
        show L.t1.fmod 8+8*aY L.pf.rex 1=L.base
        rw[tf.2.2.1,F.b,tE]
      have en:Int.ofNat (qy L 1 ms.length ⟨L.word,L.size==16,0,L.lock,-1⟩ true L.t1 L.disp).n+1+2 - 1=Int.ofNat ms.length+Int.ofNat L.rexl.length+Int.ofNat [L.t0,L.t1,L.disp].length:=by
        have q:(qy L 1 ms.length ⟨L.word,L.size==16,0,L.lock,-1⟩ true L.t1 L.disp).n=1+ms.length+L.rexl.length:=rfl
        rw[q]
        have c:∀n:Nat,Int.ofNat n=(n:Int):=fun _=>rfl
        rw[c,c,c,c]
        simp only [List.length_cons,List.length_nil]
        lia
      have eS:nV (qy L 1 ms.length ⟨L.word,L.size==16,0,L.lock,-1⟩ true L.t1 L.disp).y=L.disp - 256*bI (decide (127 < L.disp)):=Bl _
      have eL:oT (qy L 1 ms.length ⟨L.word,L.size==16,0,L.lock,-1⟩ true L.t1 L.disp).P.lock=kT L.lock:=yU _
      have eP:(qy L 1 ms.length ⟨L.word,L.size==16,0,L.lock,-1⟩ true L.t1 L.disp).P=L.pf:=rfl
      show Rj KU xs L L.legacy L.rexl ms [L.t0,L.t1,L.disp] (qy L 1 ms.length ⟨L.word,L.size==16,0,L.lock,-1⟩ true L.t1 L.disp)
      unfold Rj
      rw[e1,er,em,en,eS,eL]
      refine⟨fm,iP (by lia),rfl,fun q=>?_,fun _=>⟨dk.pok,bJ (by lia) (by lia) ⟨?_,?_,fun q=>?_,fun _=>⟨hl,by decide,fun pk _=>yf ok g hlen hk pk _ fun x hx=>hp.mem_iff.mpr hx⟩⟩⟩⟩
      · exfalso
        have:=GZ (bC L.d) (kT L.lock) (d5 L.base 64) L.word (kC L.number L.size L.has) (L.disp - 256*bI (decide (127 < L.disp))) L.size (Int.ofNat ms.length+Int.ofNat L.rexl.length+Int.ofNat [L.t0,L.t1,L.disp].length)
        exact absurd (q.symm.trans (congrArg lh this)) (by decide)
      · refine fJ ?_ hr.1
        have g0:=o6 (ms:=L.legacy) ok.word (by rw[←mv])
        exact g0.oct
      · rw[aD];exact iP (by rw[List.length_append];lia)
      · exfalso
        rw[eP,KX L F.has,aD,rN]at q
        exact absurd q (by decide)
noncomputable def iq:bf:=fun as KV _=>d4 (eI HL some as) fun xs v=>xs.length≤63∧v=cU∧KV (.bool true true)
theorem yv(w:World):∀R as KV,iq as KV R→∃bs,cu (fun _=>cU) w as bs∧ao (R9 R) xB bs ⟨.nil,0⟩ (aV (aU (fun _=>cU) w KV)):=by
 intro R as KV h
 replace h:=Tb h
 obtain⟨k,xs,v,rfl,h⟩:=h
 obtain⟨hl,rfl,hk⟩:=h
 refine⟨[.irow false xs,.named 1],fun H rs hv=>?_,?_⟩
 ·exact hv.cons' fun r1 l1 a b e1=>b.cons' fun r2 l2 b c e2=>c.nil' fun e3=>by rw[e1,e2,e3];exact .cons (aP.rel .irow a) (.cons (.named b) .nil)
 rw[uo]
 have hk':aU (fun _=>cU) w KV (.bool true true):=⟨_,aP.same .refl,hk⟩
 refine⟨hl,fun L ok=>?_⟩
 have all:∀lg rx,L.legacy=lg→L.rexl=rx→Ru (aU (fun _=>cU) w KV) xs L lg rx:=fun lg rx e1 e2=>by
  subst e1 e2
  exact KI hl ok hk'
 exact⟨⟨fun e=>⟨fun e'=>all _ _ e e',fun r e'=>all _ _ e e'⟩,fun x e=>⟨fun e'=>all _ _ e e',fun r e'=>all _ _ e e'⟩⟩,fun x y e=>⟨fun e'=>all _ _ e e',fun r e'=>all _ _ e e'⟩,fun x y z e=>⟨fun e'=>all _ _ e e',fun r e'=>all _ _ e e'⟩⟩
noncomputable def CF(a:Nat):Option (Nat×bf):=xS a [(1197,191,d8),(1204,141,d8),(1237,251,iq)]
noncomputable def Li:ck:={gx with C:=CF,NM:=wU}
noncomputable abbrev SK(R:Addr→Prop):Ev:=ev {Li with R:=R} 320
theorem J7(R:Addr→Prop)(KU:V→Prop)(xs:List Int):ao (SK R) wj [.irow false xs] ⟨.nil,0⟩ (aV KU)=(xs.length≤63∧xs.length≤63∧xs.length≤63∧cU=cU∧KU (.bool true true)):=by kernel_rfl
noncomputable def LU:bf:=d8
theorem MF(w:World):∀R as KV,LU as KV R→∃bs,cu (fun _=>cU) w as bs∧ao (SK R) wj bs ⟨.nil,0⟩ (aV (aU (fun _=>cU) w KV)):=by
 intro R as KV h
 obtain⟨k,xs,rfl,hl,hk⟩:=dR h
 refine⟨[.irow false xs],(aS.cons .irow .nil).same,?_⟩
 rw[J7]
 exact⟨hl,hl,hl,rfl,_,aP.same .refl,hk⟩
section
theorem iw(d size:Int)(rm r:String)(num:Int):aP (rH d size rm r num) (kD d size rm r num):=
 .inst (.cons .str (.cons .refl (.cons .int (.cons .refl (.cons .refl (.cons .refl (.cons .refl (.cons .refl (.cons .int (.cons .refl .nil))))))))))
theorem Nw(d:Int):aP (.list (xH d)) (.list (BK d)):=.list (.cons (iw ..) .nil)
theorem Oz(d:Int):aP (.list (w9 d)) (.list (AN d)):=.list (.cons (iw ..) (.cons (iw ..) (.cons (iw ..) .nil)))
theorem xa(w:World){k1 k2 k3:Bool}{m e o:Int}:cu TI w [.named 1,.int k1 m,.int k2 e,.int k3 o] [cU,.int true m,.int true e,.int true o]:=by
  intro H rs hv
  cases hv with
  | cons a b=>
    cases a with
    |named a=>exact .cons a ((aS.cons .int (.cons .int (.cons .int .nil))).rel b)
theorem Hv {e m:Int} {A B:Prop} (h:match e==0 with|true=>(match m==0 with|true=>A|false=>match v9 m with|true=>B|false=>False)|false=>False):e=0∧((m=0∧A)∨((m=102∨m=242∨m=243)∧B)):=by
  cases qe:e==0 with
  |false=>rw[qe]at h;exact h.elim
  | true=>
    rw[qe]at h
    refine⟨eq_of_beq qe,?_⟩
    cases qm:m==0 with
    |true=>rw[qm]at h;exact .inl ⟨eq_of_beq qm,h⟩
    | false=>
      rw[qm]at h
      cases qa:v9 m with
      |false=>rw[qa]at h;exact h.elim
      | true=>
        rw[qa]at h
        refine .inr ⟨?_,h⟩
        have qa:(match m==102 with|true=>true|false=>match m==242 with|true=>true|false=>m==243)=true:=qa
        cases q1:m==102 with
        |true=>exact .inl (eq_of_beq q1)
        | false=>
          rw[q1]at qa
          cases q2:m==242 with
          |true=>exact .inr (.inl (eq_of_beq q2))
          |false=>rw[q2]at qa;exact .inr (.inr (eq_of_beq qa))
theorem P1(w:World){D:Dc}(hd:0≤D.d∧D.d < 7):∀R as KV,Bk D as KV R→∃bs,cu TI w as bs∧ao (gf R) gq bs ⟨.nil,0⟩ (aV (aU TI w KV)):=by
  intro R as KV h
  have none_ (m:Int) (hm:m=102∨m=242∨m=243) (o:Int) (ho:o=8*D.d+(match D.is8 with|true=>0|false=>1)) (hk:KV (.list [])):ao (gf R) gq [cU,.int true m,.int true 0,.int true o] ⟨.nil,0⟩ (aV (aU TI w KV)):=by
    subst ho
    cases D.is8 with
    | true=>
      show ao (gf R) gq [cU,.int true m,.int true 0,.int true (8*D.d+0)] ⟨.nil,0⟩ _
      rw[Int.add_zero,Hf R _ hd.1 hd.2 hm]
      exact⟨_,aP.same .refl,hk⟩
    | false=>
      show ao (gf R) gq [cU,.int true m,.int true 0,.int true (8*D.d+1)] ⟨.nil,0⟩ _
      rw[Fs R _ hd.1 hd.2 hm]
      exact⟨_,aP.same .refl,hk⟩
  replace h:=NJ h
  obtain⟨k1,m,k2,e,k3,o,rfl,h⟩:=h
  obtain⟨rfl,⟨rfl,ho,hk⟩|⟨hm,ho,hk⟩⟩:=Hv h
  · refine⟨_,xa w,?_⟩
    subst ho
    cases q:D.is8 with
    | true=>
      rw[q]at hk
      show ao (gf R) gq [cU,.int true 0,.int true 0,.int true (8*D.d+0)] ⟨.nil,0⟩ _
      rw[Int.add_zero,Kw R _ hd.1 hd.2]
      exact⟨_,(Nw _).same,hk⟩
    | false=>
      rw[q]at hk
      show ao (gf R) gq [cU,.int true 0,.int true 0,.int true (8*D.d+1)] ⟨.nil,0⟩ _
      rw[Jz R _ hd.1 hd.2]
      exact⟨_,(Oz _).same,hk⟩
  · exact⟨_,xa w,none_ m hm _ ho hk⟩
theorem rz{T:Nat→V}{w:World}{KV:V→Prop}{v:V}(h:KV v):aU T w KV v:=⟨v,aP.same .refl,h⟩
section
variable {h B:Heap}{K:Frag}{prog:Program}{w:World}
noncomputable abbrev SP(prog:Program)(w:World)(B:Heap)(a m:Nat)(S:bf):Prop:=c6 prog w TI B a m S
structure z5(prog:Program)(w:World)(B:Heap):Prop where
 s155:SP prog w B 155 41 j4
 s226:SP prog w B 226 41 fu
 s219:SP prog w B 219 41 i4
 s1162:SP prog w B 1162 41 lM
 s1169:SP prog w B 1169 41 i3
 s127:SP prog w B 127 41 gB
 s134:SP prog w B 134 41 i7
 s205:SP prog w B 205 41 gT
 s814:SP prog w B 814 41 AE
 s821:SP prog w B 821 41 wa
 s351:SP prog w B 351 41 fV
 s358:SP prog w B 358 41 ir
 s120:SP prog w B 120 41 Cf
 s849:SP prog w B 849 41 lK
 s863:SP prog w B 863 41 i8
 s987:SP prog w B 987 41 Dt
 s1120:∀D:Dc,0≤D.d∧D.d < 7→SP prog w B 1120 41 (Bk D)
theorem SS(S:dM h K)(k:∀b o,h.get? b=some o→b∉jJ→B.get? b=some o)(hb:Gi h B):z5 prog w B:=by
 have G:aI prog w TI {gx with C:=fun _=>none,NM:=wU,J:=fun _ _=>none} K B:=AP S k hb (fun _ e=>nomatch e) (fun _ _ _ e=>nomatch e)
 have G0:aI prog w TI gx K B:=⟨G.kin,G.g,G.nolimit,G.fi,G.keep,G.cm,G.cs,G.ci,G.named,G.spec,G.xc,fun _ _ e=>(nomatch e),G.low,G.lamP,G.bm,G.heard,G.exc⟩
 exact{
  s155:=aF G0 (i:=Gf) (by kernel_rfl) (yD _ _)
  s226:=aF G0 (i:=Gr) (by kernel_rfl) (nA _ _)
  s219:=aF G0 (i:=FC) (by kernel_rfl) (vz _ _)
  s1162:=aF G0 (i:=wq) (by kernel_rfl) (JR _ _)
  s1169:=aF G0 (i:=wA) (by kernel_rfl) (vZ _ _)
  s127:=aF G0 (i:=FK) (by kernel_rfl) (sd _ _)
  s134:=aF G0 (i:=FL) (by kernel_rfl) (tY _ _)
  s205:=aF G0 (i:=Gz) (by kernel_rfl) (Du _ _)
  s814:=aF G0 (i:=Hs) (by kernel_rfl) (MV _ _)
  s821:=aF G0 (i:=EX) (by kernel_rfl) (Jd _ _)
  s351:=aF G0 (i:=GY) (by kernel_rfl) (wb _ _)
  s358:=aF G0 (i:=HE) (by kernel_rfl) (yX _ _)
  s120:=aF G0 (i:=Fm) (by kernel_rfl) (My _ _)
  s849:=aF G0 (i:=Fy) (by kernel_rfl) (Ej _ _)
  s863:=aF G0 (i:=Gk) (by kernel_rfl) (tU _ _)
  s987:=aF G0 (i:=GX) (by kernel_rfl) (ON _ _)
  s1120:=fun D hd=>aF G0 (i:=gq) (by kernel_rfl) (P1 _ hd)}
end
end
section
section
variable {h B:Heap}{K:Frag}{prog:Program}{w:World}
structure ku(prog:Program)(w:World)(h B:Heap)(K:Frag):Prop where
 S:dM h K
 k:∀b o,h.get? b=some o→b∉jJ→B.get? b=some o
 b:Gi h B
theorem ku.cfg(X:ku prog w h B K){C:Addr→Option (Nat×bf)}{J:Nat→Nat→Option JT}
  (hC:∀a,(C a).isSome=true→(FV a).isSome=true) (hS:∀a m Sp,C a=some (m,Sp)→c6 prog w TI B a m Sp):aI prog w TI {gx with C:=C,NM:=wU,J:=J} K B:=AP X.S X.k X.b hC hS
noncomputable def Mp(a:Nat):Bool:=dJ (FV a)
theorem Jm{l:Kk}(h:bb (fun p=>Mp p.1) l=true)(a:Addr)(e:(xS a l).isSome=true):(FV a).isSome=true:=FQ h e
noncomputable abbrev rl(prog:Program)(w:World)(B:Heap)(l:Kk):Prop:=GK (fun p=>c6 prog w TI B p.1 p.2.1 p.2.2) l
theorem Bt{l:Kk}(h:rl prog w B l)(a:Addr)(m:Nat)(Sp:bf)(e:xS a l=some (m,Sp)):c6 prog w TI B a m Sp:=IV (M:=fun a y=>c6 prog w TI B a y.1 y.2) e h
theorem ku.tab(X:ku prog w h B K){l:Kk}{J:Nat→Nat→Option JT}(h1:bb (fun p=>Mp p.1) l=true)(h2:rl prog w B l):aI prog w TI {gx with C:=fun a=>xS a l,NM:=wU,J:=J} K B:=X.cfg (Jm h1) (Bt h2)
theorem IY(L:z5 prog w B):rl prog w B G3:=⟨L.s155,L.s226,L.s219,L.s1162,L.s1169,L.s127,L.s134,L.s205,L.s814,L.s821,L.s351,L.s358,L.s120,L.s849,L.s863,trivial⟩
theorem E5(X:ku prog w h B K)(L:z5 prog w B):aI prog w TI (Oe 1) K B:=X.tab (l:=G3) (by kernel_rfl) (IY L)
structure ES(prog:Program)(w:World)(B:Heap):Prop where
 s233:SP prog w B 233 91 gv
 s1001:SP prog w B 1001 91 Eb
 s884:SP prog w B 884 91 DH
 s877:∀D:Dc,D.Mrm→SP prog w B 877 91 (mI D)
 s1218:SP prog w B 1218 91 iZ
 s1211:SP prog w B 1211 91 jH
 s1176:SP prog w B 1176 91 DZ
theorem SY(X:ku prog w h B K)(L:z5 prog w B):ES prog w B:=by
 have G:=E5 X L
 exact{
  s233:=aF G (i:=kY) (by kernel_rfl) (k6 _ _)
  s1001:=aF G (i:=rT) (by kernel_rfl) (NG _ _)
  s884:=aF G (i:=BL) (by kernel_rfl) (LQ _ _)
  s877:=fun D hD=>aF G (i:=Hb) (by kernel_rfl) (GF _ _ hD)
  s1218:=aF G (i:=rC) (by kernel_rfl) (KH _ _)
  s1211:=aF G (i:=wy) (by kernel_rfl) (Cd _ _)
  s1176:=aF G (i:=xJ) (by kernel_rfl) (Ou _ _)}
theorem K7(L:ES prog w B):SP prog w B 233 91 II:=gF L.s233 fun R as KV e=>by
 replace e:=LB e
 obtain⟨_,_,_,_,rfl,e⟩:=e
 obtain⟨⟨a1,a2,a3⟩,b,c⟩:=e
 exact⟨_,aS.same (.cons .refl (.cons .refl .nil)),a1,a2,a3,fun p e' q=>rz (b p e' q),c⟩
theorem K4(L:ES prog w B)(D:Dc):SP prog w B 233 91 (IH D):=gF L.s233 fun R as KV e=>by
 replace e:=LB e
 obtain⟨_,_,_,_,rfl,e⟩:=e
 obtain⟨⟨a1,a2,a3,a4⟩,b⟩:=e
 refine⟨_,aS.same (.cons .refl (.cons .refl .nil)),a1,a2,a3,fun p e' q=>?_,fun q=>?_⟩
 ·rw[a4]at q
  cases q
  exact⟨_,aP.same (.tup (.cons (.inst (.cons .refl (.cons .bool (.cons .int (.cons .bool (.cons .refl .nil)))))) (.cons .refl .nil))),b⟩
 ·rw[a4]at q;cases q
theorem JU(L:ES prog w B):SP prog w B 233 91 uY:=gF L.s233 fun R as KV e=>by
 replace e:=LB e
 obtain⟨_,_,_,_,rfl,e⟩:=e
 obtain⟨⟨a1,a2,a3,a4⟩,b⟩:=e
 refine⟨_,aS.same (.cons .refl (.cons .refl .nil)),a1,a2,a3,fun p e' q=>?_,fun _=>b⟩
 rw[a4]at q;cases q
theorem Bq(L:z5 prog w B){D:Dc}(hw:D.w=aY D.P.rex 8):SP prog w B 134 41 (w7 D):=gF L.s134 fun R as KV e=>by
 replace e:=dI e
 obtain⟨k,o,rfl,e⟩:=e
 obtain⟨rfl,b⟩:=e
 rw[hw]at b
 exact⟨_,aS.same (.cons .refl .nil),_,aP.same (.tup (.cons .int (.cons .refl (.cons .refl (.cons .refl .nil))))),b⟩
theorem Nd(L:z5 prog w B)(L1:ES prog w B){D:Dc}(hd:0≤D.d∧D.d < 7)(hw:D.w=aY D.P.rex 8)(hm:D.Mrm):rl prog w B (Lb D):=⟨K4 L1 D,L.s1120 D hd,Bq L hw,L1.s877 D hm,L1.s884,L.s987,L1.s1001,L.s351,L.s358,trivial⟩
theorem Kz(X:ku prog w h B K)(L:z5 prog w B)(L1:ES prog w B):SP prog w B 1075 141 eR:=by
 refine uP (P:=Dh) (K:=K) (i:=mU) (fun c hc=>?_) (fun c hc=>?_) (EB _ _)
 ·rcases hc with rfl|⟨D,rfl,hd,hw,hm⟩
  ·exact X.tab (l:=[(233,91,uY)]) (by kernel_rfl) ⟨JU L1,trivial⟩
  ·exact X.tab (l:=Lb D) (by kernel_rfl) (Nd L L1 hd hw hm)
 ·rcases hc with rfl|⟨D,rfl,_⟩
  ·kernel_rfl
  ·kernel_rfl
theorem Fu(L:SP prog w B 1075 141 eR):SP prog w B 1075 141 vy:=gF L fun R as KV e=>by
 replace e:=NU e
 obtain⟨_,_,_,_,rfl,e⟩:=e
 obtain⟨a1,D,a2,a3⟩:=e
 exact⟨_,aS.same (.cons .refl (.cons .refl (.cons .refl .nil))),a1,.inr ⟨D,a2,rz a3⟩⟩
theorem Im(L:z5 prog w B)(L1:ES prog w B):rl prog w B z8:=⟨K7 L1,L1.s1176,L1.s1218,IY L⟩
structure PB(prog:Program)(w:World)(B:Heap):Prop where
 s1190:SP prog w B 1190 141 d6
 s1204:SP prog w B 1204 141 d8
 s1225:SP prog w B 1225 141 pJ
theorem SQ(X:ku prog w h B K)(L:z5 prog w B)(L1:ES prog w B):PB prog w B:=by
 have G:aI prog w TI Nk K B:=X.tab (l:=z8) (by kernel_rfl) (Im L L1)
 exact{
  s1190:=aF G (i:=wH) (by kernel_rfl) (QL _ _)
  s1204:=aF G (i:=w3) (by kernel_rfl) (Jh _ _)
  s1225:=aF G (i:=xV) (by kernel_rfl) (Kl _ _)}
theorem zd(X:ku prog w h B K)(L:z5 prog w B)(L1:ES prog w B)(L2:PB prog w B):SP prog w B 1197 191 d8:=by
 have G:aI prog w TI NK K B:=X.tab (l:=(1190,141,d6)::z8) (by kernel_rfl) ⟨L2.s1190,Im L L1⟩
 exact aF G (i:=xY) (by kernel_rfl) (Mb _ _)
theorem J2(X:ku prog w h B K)(D:SP prog w B 1075 141 eR):SP prog w B 1232 191 fI:=by
 have G:aI prog w TI I0 K B:=X.tab (l:=[(1075,141,eR)]) (by kernel_rfl) ⟨D,trivial⟩
 exact aF G (i:=xM) (by kernel_rfl) (zX _ _)
theorem vk(X:ku prog w h B K)(L:z5 prog w B)(L1:ES prog w B)(L2:PB prog w B)(D:SP prog w B 1075 141 eR)(R:SP prog w B 1232 191 fI):SP prog w B 1237 251 iq:=by
 have G:aI prog w TI OI K B:=X.tab (l:=[(1225,141,pJ),(1211,91,jH),(1075,141,vy),(1232,191,fI),(1162,41,lM),(205,41,gT)]) (by kernel_rfl) ⟨L2.s1225,L1.s1211,Fu D,R,L.s1162,L.s205,trivial⟩
 exact aF G (i:=xB) (by kernel_rfl) (yv _)
theorem Fg(X:ku prog w h B K):aI prog w TI Li K B:=by
 have L:z5 prog w B:=SS X.S X.k X.b
 have L1:=SY X L
 have L2:=SQ X L L1
 have D:=Kz X L L1
 have A:=zd X L L1 L2
 have Z:=vk X L L1 L2 D (J2 X D)
 exact X.tab (l:=[(1197,191,d8),(1204,141,d8),(1237,251,iq)]) (by kernel_rfl) ⟨A,L2.s1204,Z,trivial⟩
end
end
noncomputable def MD(a:Addr)(o:Obj):HP:=fun b x=>b=a∧x=o
theorem zq:HQ.map (·.1)=jJ:=rfl
theorem BM {prog:Program} {w:World} {h:Heap} {K:Frag} {s:Shared} (S:dM h K) (hk:∀b o,h.get? b=some o→s.heap.get? b=some o)
    (hb:∃mg bm ob,s.heap.Ns mainGlobals mg∧mg "__builtins__"=some (.ref bm)∧bm≠builtinsNs∧s.heap.get? bm=some ob∧ob.cls=.type "module"∧ob.dict=some builtinsNs∧ob.data=.plain)
    {La:Addr} {rs:List Value} {n:Nat} {xs:List Int} (hl:s.heap.get? La=some (aA rs n)) (hx:IntsAre rs xs) (hn:xs.length≤63) {A:Around} (hfr:A.frames=some []) (hh:A.handled=none) (hd:A.depth+2*320+10 < recursionLimit) (hu:A.units+16*320+144 < cLine) :
    codeAny (model prog w) A (.call (.ref 1244) ⟨[.ref La],[]⟩) (jA (fun r s'=>r=.bool true∧OldK s.heap s'.heap∧s'.os=s.os∧s'.gens=s.gens) fun _ _=>False) s:=by
  have hP:∀l∈iF,s.heap.get? l.P=some (tabObj #[]):=fun l hl=>hk _ _ (ib S hl).2.1
  have notL:∀l∈iF,l.P≠La:=fun l hl' q=>by
    have:=hP l hl'
    rw[q,hl]at this
    cases this
  let B:=hideAll s.heap jJ
  have kB:∀b o,h.get? b=some o→b∉jJ→B.get? b=some o:=fun b o e q=>hideAll_get _ (hk b o e) q
  have bm:Gi h B:=by
    refine MC hb fun mg bm ob g1 g2 g3 g4 g5 g6 g7=>?_
    refine⟨bm,ob,?_,g3,hideAll_get _ g4 fun q=>?_,g5,g6,g7⟩
    · have:mg=h.nsMap mainGlobals:=by
        rw[g1.eq_nsMap,(S.ns.keeps hk).eq_nsMap.symm]
      rw[←this];exact g2
    · refine aq (List.mem_map.mp q) fun l hl' q=>?_
      have:=hP l hl'
      rw[q,g4]at this
      cases this
      cases g5
  have X:ku prog w h B K:=⟨S,kB,bm⟩
  have G:=DC (Fg X) (fun _=>False)
  have I:aM (pm w TI) B (MD La (aA rs n)) [] HQ .nil s.heap:=by
    refine⟨fun b o e=>of_hideAll _ e,fun a o ⟨e1,e2⟩=>by rw[e1,e2];exact hl,fun p hp=>?_,fun p hp=>?_,?_,fun i o e=>(nomatch e),List.nodup_nil,fun a ha=>(nomatch ha),fun a ha=>(nomatch ha)⟩
    · refine aq (List.mem_map.mp hp) fun l hl' rq2=>?_;subst rq2
      exact⟨_,hP l hl',#[],rfl,trivial,fun _ _ _=>.inl rfl⟩
    · refine aq (List.mem_map.mp hp) fun l hl' rq2=>?_;subst rq2
      exact⟨hideAll_none _ (List.mem_map.mpr ⟨l,hl',rfl⟩),fun o ⟨e1,_⟩=>notL l hl' e1⟩
    · rw[zq];decide
  have hv:ai (pm w TI) (MD La (aA rs n)) [] [.irow false xs] [.ref La]:=.cons (.irow ⟨rfl,rfl⟩ hx) .nil
  refine aq (MF w (fun _=>False) [.irow false xs] (fun v=>v=.bool true true) ⟨hn,rfl⟩) fun bs hsm he=>?_
  refine qv (c:={Li with R:=fun _=>False}) G (B5 G 320) hfr hh (by lia) (by lia) (i:=wj) (by kernel_rfl) he I rfl ⟨fun _ h=>(nomatch h),fun p hp=>hp⟩ (fun e s' _ _ _ t=>kN t) (hsm _ _ hv) fun v r ob' H' ρ' s' I' hl' L' R' q=>?_
  refine aB q fun p hf q=>a8 q fun hnr q=>?_
  refine aq q fun u hsu eu=>?_
  refine aq (ix 12 _ _ _ _ _ I' R' hf) fun H₂ F₂ R₂=>?_
  have R₃:=hsu _ _ (jr (G.named · _ _ ·) 14 _ _ R₂ hnr)
  have old:∀b o,s.heap.get? b=some o→asItWas s.heap s'.heap b o∧∃o',s'.heap.get? b=some o':=fun b o e=>by
    by_cases q:b∈jJ
    · refine aq (List.mem_map.mp q) fun l hl' rq2=>?_;subst rq2
      have e':=hP l hl'
      rw[e]at e'
      cases e'
      refine aq (I'.frNs (l.P,wD l) (List.mem_map.mpr ⟨l,hl',rfl⟩)) fun o' h1 h2=>?_
      refine aq h2 fun ps h3 _=>?_
      obtain⟨oc,vs,_,_,_,_,_,_,_,c1,c2,c3,c4,_⟩:=(ib S hl').1
      refine⟨.inr (.inl ⟨⟨_,oc,vs,hk _ _ c1,c2,c3,c4⟩,rfl,#[],ps,rfl,?_⟩),o',h1⟩
      rw[h1,h3]
      simp
    · have:=I'.keep b o (hideAll_get _ e q)
      exact⟨.inl this,o,this⟩
  rw[eu]at R₃
  exact⟨R₃.inv,⟨fun b o e=>(old b o e).1,fun b o e=>(old b o e).2⟩,L'.os,L'.gens⟩
noncomputable def HX:List Stmt→Nat→List Stmt
  |[],_=>[]
  | x::r,n=>match n with
    |0=>[x]
    |n+1=>HX r n
noncomputable def q0:Program:={pw with main:={pw.main with body:=HX pw.main.body 133}}
noncomputable def mx:List Str:=(["_wall","MintError","OperandError","EncodeError","DecodeError","mask","wrap","signed","from_little","from_little_signed","FS","GS","DATA_prefixes","REPNE","REP","LOCK","REX","rex_octet","rex_bits","is_rex","segment_octet","sort_of","Prefixes","with_rex","with_legacy","read_prefixes","LOCKED","MOVED","COMPARED","is_fixed","is_immediate","is_relative","takes_memory","kind_size","kind_width","slot_of","Form","can_lock","repeats","FOLD","fold_names","wide_sizes","every_size","kind_of","accumulator","whole_immediate","paired","store_forms","load_forms","group_forms","immediate_forms","short_forms","accumulator_forms","fold_forms","test_forms","single_forms","arith_forms","Operand","Reg","Imm","Rel","Mem","Instruction","NAMES_8","NAMES_16","NAMES_32","NAMES_64","HIGH_NAMES","Register","early_names","late_ending","gpr","high","xmm","rip","NO_INDEX","NO_BASE","WITH_SIB","FROM_RIP","unpack_three","unpack_modrm","unpack_sib","octet_at","disp_width_of","read_modrm","memory_of","MOST_OCTETS","ESCAPE","DATA_decoder","NOP","REGISTER","Decoded","Frame","fits_size","fits_mod","fits_nop","picked","register_at","reg_operand","rm_operand","plus_operand","fixed_operand","field_at","written_operand","operands_of","check_used","prefix_word","read_frame","decode","codes_of","InstructionSet","_law_cell","_law_sort","_law_due","_law_heard","_law_read_right","_law_any_right","_law_made_right","_law_turned","_law_name","_law_line","_law_refused","_law_decoded_right"]:List String).map Str.ofString
theorem LI:opening pw=plainProg pw.main.scope.names:=by kernel_rfl
theorem JI(s:Shared):fenceModules? pw s=some s:=by kernel_rfl
theorem OE(P:Params):((boot_heap P).isNs mainGlobals&&(Array.mk []:Array GenState).size==0,(boot_heap P).objs.size,(boot_heap P).nsMap mainGlobals "__annotations__")=(true,11,some (.ref 6)):=by kernel_rfl
theorem HG{α:Type}{q:Program}{loose:List Str}{Xt:Shared→Bool}{Yf:Shared→α}{Ya:World→α}{N M m₀:Nat}{p:Program}{H₀:Params→Heap}{ann:Option Value}{w:World}{gs₀:Array GenState}{d₀:Drawn}{k₀:Nat}
  (open_:(fencedOpening treeTable p w N).map (fun s=>(s.heap,s.gens,s.drawn,s.toks))=some (H₀ w.params,gs₀,d₀,k₀))
  (size:((H₀ w.params).isNs mainGlobals&&gs₀.size==0,(H₀ w.params).objs.size,(H₀ w.params).nsMap mainGlobals "__annotations__")=(true,m₀,ann))
  (le:Nat.ble M N=true)
  (run:∀os:OsState,∃s₁,topRun treeTable p w m₀ ann M ⟨H₀ w.params,gs₀,d₀,k₀,os⟩ (topStub p)=some s₁∧(staticsOk (importedModules p.main.body) (H₀ w.params) s₁.heap&&namesBound p s₁.heap&&gensDone s₁&&laidKept (H₀ w.params) s₁.heap)=true∧
   openSeen q loose (importedModules p.main.body) Xt true s₁=openGood q loose∧Yf s₁=Ya w):(openEnds treeTable p w N).map (fun s=>(openSeen q loose (importedModules p.main.body) Xt true s,Yf s))=some (openGood q loose,Ya w):=by
 obtain⟨⟨h,gs,d,k,os⟩,e,e'⟩:=Option.map_eq_some_iff.mp open_
 obtain⟨rfl,rfl,rfl,rfl⟩:h=H₀ w.params∧gs=gs₀∧d=d₀∧k=k₀:=by simpa using e'
 obtain⟨z1,z2,z3⟩:_∧_∧_:=by simpa only [Prod.mk.injEq]using size
 obtain⟨s₁,r,l1,l2,l3⟩:=run os
 have r:=topRun_mono (N - M) _ _ _ _ r
 rw[show M+(N - M)=N by have:=Nat.le_of_ble_eq_true le;omega]at r
 have t:topFrom treeTable p w N ⟨H₀ w.params,gs,d,k,os⟩=some s₁:=by
  unfold topFrom
  dsimp only
  rw[z1,z2,z3,r]
  show(match staticsOk (importedModules p.main.body) (H₀ w.params) s₁.heap&&namesBound p s₁.heap&&gensDone s₁&&laidKept (H₀ w.params) s₁.heap with|true=>_|false=>_)=_
  rw[l1]
 unfold openEnds
 rw[e]
 show(topFrom treeTable p w N _).map _=_
 rw[t]
 exact congrArg some (Prod.ext l2 l3)
noncomputable def Lx:Stmt→Str
 |.FunctionDef n _ _ _ _ _ _ _ _ _=>n
 |_=>Str.empty
noncomputable def S5(d:Arguments):Stmt→Arguments
 |.FunctionDef _ a _ _ _ _ _ _ _ _=>a
 |_=>d
noncomputable def LR:Stmt→List Stmt
 |.FunctionDef _ _ b _ _ _ _ _ _ _=>b
 |.ClassDef _ _ _ b _ _ _ _ _ _ _=>b
 |_=>[]
noncomputable def O7:Stmt→Scope
 |.FunctionDef _ _ _ _ _ _ s _ _ _=>s
 |_=>⟨.module,[],false,false,[]⟩
noncomputable def Rd:List Stmt→Nat→Stmt
  |[],_=>.Pass ⟨0,0,0,0⟩
  | x::r,n=>match n with
    |0=>x
    |n+1=>Rd r n
noncomputable def st(k:Nat):Stmt:=Rd pw.main.body k
noncomputable def sm(k j:Nat):Stmt:=Rd (LR (st k)) j
noncomputable def ak(x:String)(t:Nat):Value:=.str (Str.ofString x) t
noncomputable def tO(l:List Value):Obj:=⟨.type "tuple",none,.seq l.toArray 0,#[]⟩
noncomputable def fO(l:List Value):Obj:=⟨.none,none,.fields l.toArray,#[]⟩
noncomputable def xO(c:String)(l:List Value):Obj:=⟨.type c,none,.fields l.toArray,#[]⟩
noncomputable def cO(l:List Value):Obj:=xO "code" l
noncomputable def iM(l:List Value):Obj:=xO "builtin_function_or_method" l
noncomputable def gO(l:List Value):Obj:=xO "getset_descriptor" l
noncomputable def uO(l:List Value):Obj:=xO "super" l
noncomputable def rO(l:List (Option Value)):Obj:=⟨.type "frame",none,.plain,l.toArray⟩
noncomputable def dE(P:Params)(x:String)(t:Nat)(v:Value):DictEntry:=⟨PyData.keyHash P (Str.ofString x),.str (Str.ofString x) t,v⟩
noncomputable def dO(c:Value)(n:Nat)(l:List DictEntry):Obj:=⟨c,none,.dict l.toArray n,#[]⟩
noncomputable def kO(nm:String)(bs mro:List Value)(ns:Nat)(sub:List Value)(sl:List (Option Value)):Obj:=
 ⟨.type "type",none,.cls ⟨Str.ofString nm,bs,mro,ns,Str.ofString nm,true,[],sub,false,none,false⟩,sl.toArray⟩
noncomputable def A7:List String→Nat→List Value
 |[],_=>[]
 |x::r,t=>ak x t::A7 r (t+1)
noncomputable def wC(s:Stmt):Arguments:=S5 ⟨[],[],none,[],[],none,[]⟩ s
noncomputable def fG(s:Stmt)(qn:String)(md dv:Value)(line argc fl a t:Nat)(vn cv:List String):List Obj:=
  [tO [],fO [],tO (A7 vn (t+3)),tO (A7 cv (t+3+vn.length)),
   ⟨.none,none,.func ⟨Lx s,Str.ofString qn,wC s,.stmts (LR s),O7 s,0,[],.none,.none,.none,.none,none,.none,.none,0⟩,#[]⟩,
   cO [.str (Lx s) t,ak qn (t+1),ak "/claim/cut.py" (t+2),.int line 0,.int argc 0,.int 0 0,.int 0 0,.int fl 0,.ref a,.bool true,.int 181 0,.ref (a+1),.none,.ref (a+2),.ref (a+3),.ref (a+4),
     .int (Int.ofNat (t+3+vn.length+cv.length)) 0,.int line 0,ak "/claim/cut.py" (t+4+vn.length+cv.length)],
   ⟨.type "function",none,.func ⟨Lx s,Str.ofString qn,wC s,.stmts (LR s),O7 s,mainGlobals,[],dv,.none,.none,md,none,.ref (a+5),.none,builtinsNs⟩,#[]⟩]
noncomputable def fH(s:Stmt)(qn:String)(md dv:Value)(line argc fl a t:Nat):List Obj:=
  [tO [],fO [],
   ⟨.none,none,.func ⟨Lx s,Str.ofString qn,wC s,.stmts (LR s),O7 s,0,[],.none,.none,.none,.none,none,.none,.none,0⟩,#[]⟩,
   cO [.str (Lx s) t,ak qn (t+1),ak "/claim/cut.py" (t+2),.int line 0,.int argc 0,.int 0 0,.int 0 0,.int fl 0,.ref a,.bool true,.int 181 0,.ref (a+1),.none,.none,.none,.ref (a+2),
     .int (Int.ofNat (t+3)) 0,.int line 0,ak "/claim/cut.py" (t+4)],
   ⟨.type "function",none,.func ⟨Lx s,Str.ofString qn,wC s,.stmts (LR s),O7 s,mainGlobals,[],dv,.none,.none,md,none,.ref (a+3),.none,builtinsNs⟩,#[]⟩]
noncomputable def I6:List Obj→List Obj
 |[]=>[]
 |[x]=>[x]
 |x::_::r=>x::I6 r
noncomputable def Ls:Nat→List Obj→BT
 |0,_=>.nil
 |_+1,[]=>.nil
 |n+1,o::r=>.node o (Ls n (I6 r)) (Ls n (I6 (r.drop 1)))
noncomputable def M0(sub:List Value):Obj:=kO "Operand" [.type "object"] [.ref 517,.type "object"] 516 sub [none,none,some (ak "Operand" 795),some (ak "Operand" 803),some (.builtin "object.__new__"),some (.bool true)]
noncomputable def pK(P:Params)(nm:Value):List DictEntry:=[dE P "__name__" 165 nm,dE P "__doc__" 166 .none,dE P "__package__" 167 .none,dE P "__loader__" 168 (.builtin "__main__.__loader__#opaque"),dE P "__spec__" 169 .none,dE P "__annotations__" 170 (.ref 6),dE P "__builtins__" 171 (.ref 4),dE P "__file__" 173 (ak "/claim/cut.py" 172),dE P "__cached__" 174 .none,dE P "_wall" 193 (.ref 21),dE P "MintError" 233 (.ref 46),dE P "OperandError" 249 (.ref 59),dE P "EncodeError" 265 (.ref 71),dE P "DecodeError" 281 (.ref 83),dE P "mask" 288 (.ref 92),dE P "wrap" 296 (.ref 99),dE P "signed" 305 (.ref 106),dE P "from_little" 315 (.ref 113),dE P "from_little_signed" 322 (.ref 120),dE P "FS" 326 (.int 100 325),dE P "GS" 328 (.int 101 327),dE P "DATA_prefixes" 330 (.int 102 329),dE P "REPNE" 332 (.int 242 331),dE P "REP" 334 (.int 243 333),dE P "LOCK" 336 (.int 240 335),dE P "REX" 338 (.int 64 337),dE P "rex_octet" 349 (.ref 127),dE P "rex_bits" 356 (.ref 134),dE P "is_rex" 363 (.ref 141),dE P "segment_octet" 370 (.ref 148),dE P "sort_of" 377 (.ref 155),dE P "Prefixes" 454 (.ref 208),dE P "with_rex" 462 (.ref 219),dE P "with_legacy" 472 (.ref 226),dE P "read_prefixes" 482 (.ref 233),dE P "LOCKED" 486 (ak "add adc and or sbb sub xor inc dec neg not xchg xadd cmpxchg bts btr btc" 485),dE P "MOVED" 488 (ak "movsb movsw movsd movsq stosb stosw stosd stosq lodsb lodsw lodsd lodsq" 487),dE P "COMPARED" 490 (ak "cmpsb cmpsw cmpsd cmpsq scasb scasw scasd scasq" 489),dE P "is_fixed" 497 (.ref 240),dE P "is_immediate" 504 (.ref 247),dE P "is_relative" 511 (.ref 254),dE P "takes_memory" 518 (.ref 261),dE P "kind_size" 525 (.ref 268),dE P "kind_width" 532 (.ref 275),dE P "slot_of" 539 (.ref 282),dE P "Form" 622 (.ref 340),dE P "can_lock" 629 (.ref 351),dE P "repeats" 636 (.ref 358),dE P "FOLD" 640 (ak "add or adc sbb and sub xor cmp" 639),dE P "fold_names" 646 (.ref 365),dE P "wide_sizes" 652 (.ref 372),dE P "every_size" 658 (.ref 379),dE P "kind_of" 666 (.ref 386),dE P "accumulator" 673 (.ref 393),dE P "whole_immediate" 680 (.ref 400),dE P "paired" 688 (.ref 407),dE P "store_forms" 701 (.ref 415),dE P "load_forms" 714 (.ref 423),dE P "group_forms" 725 (.ref 430),dE P "immediate_forms" 737 (.ref 437),dE P "short_forms" 748 (.ref 444),dE P "accumulator_forms" 759 (.ref 451),dE P "fold_forms" 769 (.ref 458),dE P "test_forms" 776 (.ref 465),dE P "single_forms" 783 (.ref 472),dE P "arith_forms" 792 (.ref 479),dE P "Operand" 844 (.ref 517),dE P "Reg" 883 (.ref 552),dE P "Imm" 925 (.ref 586),dE P "Rel" 975 (.ref 627),dE P "Mem" 1051 (.ref 680),dE P "Instruction" 1124 (.ref 733),dE P "NAMES_8" 1128 (ak "al cl dl bl spl bpl sil dil" 1127),dE P "NAMES_16" 1130 (ak "ax cx dx bx sp bp si di" 1129),dE P "NAMES_32" 1132 (ak "eax ecx edx ebx esp ebp esi edi" 1131),dE P "NAMES_64" 1134 (ak "rax rcx rdx rbx rsp rbp rsi rdi" 1133),dE P "HIGH_NAMES" 1136 (ak "ah ch dh bh" 1135),dE P "Register" 1206 (.ref 789),dE P "early_names" 1213 (.ref 800),dE P "late_ending" 1220 (.ref 807),dE P "gpr" 1229 (.ref 814),dE P "high" 1236 (.ref 821),dE P "xmm" 1243 (.ref 828),dE P "rip" 1249 (.ref 835),dE P "NO_INDEX" 1253 (.int 4 1252),dE P "NO_BASE" 1255 (.int 5 1254),dE P "WITH_SIB" 1257 (.int 4 1256),dE P "FROM_RIP" 1259 (.int 5 1258),dE P "unpack_three" 1266 (.ref 842),dE P "unpack_modrm" 1273 (.ref 849),dE P "unpack_sib" 1280 (.ref 856),dE P "octet_at" 1288 (.ref 863),dE P "disp_width_of" 1297 (.ref 870),dE P "read_modrm" 1311 (.ref 877),dE P "memory_of" 1329 (.ref 884),dE P "MOST_OCTETS" 1333 (.int 15 1332),dE P "ESCAPE" 1335 (.int 15 1334),dE P "DATA_decoder" 1337 (.int 102 1336),dE P "NOP" 1339 (.int 144 1338),dE P "REGISTER" 1341 (.int 3 1340),dE P "Decoded" 1383 (.ref 908),dE P "Frame" 1473 (.ref 964),dE P "fits_size" 1481 (.ref 975),dE P "fits_mod" 1487 (.ref 980),dE P "fits_nop" 1496 (.ref 987),dE P "picked" 1505 (.ref 994),dE P "register_at" 1514 (.ref 1001),dE P "reg_operand" 1523 (.ref 1008),dE P "rm_operand" 1534 (.ref 1015),dE P "plus_operand" 1543 (.ref 1022),dE P "fixed_operand" 1550 (.ref 1029),dE P "field_at" 1560 (.ref 1036),dE P "written_operand" 1569 (.ref 1043),dE P "operands_of" 1583 (.ref 1050),dE P "check_used" 1589 (.ref 1055),dE P "prefix_word" 1599 (.ref 1062),dE P "read_frame" 1605 (.ref 1067),dE P "decode" 1620 (.ref 1075),dE P "codes_of" 1628 (.ref 1080),dE P "InstructionSet" 1724 (.ref 1151),dE P "_law_cell" 1734 (.ref 1162),dE P "_law_sort" 1741 (.ref 1169),dE P "_law_due" 1752 (.ref 1176),dE P "_law_heard" 1759 (.ref 1183),dE P "_law_read_right" 1771 (.ref 1190),dE P "_law_any_right" 1782 (.ref 1197),dE P "_law_made_right" 1799 (.ref 1204),dE P "_law_turned" 1810 (.ref 1211),dE P "_law_name" 1819 (.ref 1218),dE P "_law_line" 1841 (.ref 1225),dE P "_law_refused" 1851 (.ref 1232),dE P "_law_decoded_right" 1857 (.ref 1237),dE P "law" 1865 (.ref 1244)]
noncomputable def wL:List Value:=[.int 1 0,.int 0 0,.ref 20,.int 5 0,.int 0 0,.ref 27,.int 16 0,.int 0 0,.ref 55,.int 18 0,.int 0 0,.ref 67,.int 20 0,.int 0 0,.ref 79,.int 22 0,.int 0 0,.ref 91,.int 24 0,.int 0 0,.ref 98,.int 26 0,.int 0 0,.ref 105,.int 31 0,.int 0 0,.ref 112,.int 38 0,.int 0 0,.ref 119,.int 50 0,.int 0 0,.ref 126,.int 55 0,.int 0 0,.ref 133,.int 59 0,.int 0 0,.ref 140,.int 61 0,.int 0 0,.ref 147,.int 67 0,.int 0 0,.ref 154,.int 77 0,.int 0 0,.ref 161,.int 117 0,.int 0 0,.ref 218,.int 119 0,.int 0 0,.ref 225,.int 141 0,.int 0 0,.ref 232,.int 159 0,.int 0 0,.ref 239,.int 161 0,.int 0 0,.ref 246,.int 163 0,.int 0 0,.ref 253,.int 165 0,.int 0 0,.ref 260,.int 167 0,.int 0 0,.ref 267,.int 175 0,.int 0 0,.ref 274,.int 181 0,.int 0 0,.ref 281,.int 191 0,.int 0 0,.ref 288,.int 222 0,.int 0 0,.ref 350,.int 224 0,.int 0 0,.ref 357,.int 230 0,.int 0 0,.ref 364,.int 232 0,.int 0 0,.ref 371,.int 234 0,.int 0 0,.ref 378,.int 236 0,.int 0 0,.ref 385,.int 238 0,.int 0 0,.ref 392,.int 244 0,.int 0 0,.ref 399,.int 246 0,.int 0 0,.ref 406,.int 248 0,.int 0 0,.ref 414,.int 254 0,.int 0 0,.ref 422,.int 260 0,.int 0 0,.ref 429,.int 265 0,.int 0 0,.ref 436,.int 271 0,.int 0 0,.ref 443,.int 276 0,.int 0 0,.ref 450,.int 282 0,.int 0 0,.ref 457,.int 290 0,.int 0 0,.ref 464,.int 295 0,.int 0 0,.ref 471,.int 301 0,.int 0 0,.ref 478,.int 309 0,.int 0 0,.ref 485,.int 322 0,.int 0 0,.ref 527,.int 333 0,.int 0 0,.ref 560,.int 345 0,.int 0 0,.ref 594,.int 360 0,.int 0 0,.ref 635,.int 388 0,.int 0 0,.ref 688,.int 419 0,.int 0 0,.ref 743,.int 441 0,.int 0 0,.ref 799,.int 451 0,.int 0 0,.ref 806,.int 459 0,.int 0 0,.ref 813,.int 466 0,.int 0 0,.ref 820,.int 470 0,.int 0 0,.ref 827,.int 474 0,.int 0 0,.ref 834,.int 481 0,.int 0 0,.ref 841,.int 483 0,.int 0 0,.ref 848,.int 485 0,.int 0 0,.ref 855,.int 487 0,.int 0 0,.ref 862,.int 491 0,.int 0 0,.ref 869,.int 501 0,.int 0 0,.ref 876,.int 513 0,.int 0 0,.ref 883,.int 529 0,.int 0 0,.ref 890,.int 539 0,.int 0 0,.ref 918,.int 590 0,.int 0 0,.ref 974,.int 598 0,.int 0 0,.ref 979,.int 600 0,.int 0 0,.ref 986,.int 605 0,.int 0 0,.ref 993,.int 612 0,.int 0 0,.ref 1000,.int 616 0,.int 0 0,.ref 1007,.int 621 0,.int 0 0,.ref 1014,.int 629 0,.int 0 0,.ref 1021,.int 632 0,.int 0 0,.ref 1028,.int 640 0,.int 0 0,.ref 1035,.int 645 0,.int 0 0,.ref 1042,.int 651 0,.int 0 0,.ref 1049,.int 667 0,.int 0 0,.ref 1054,.int 675 0,.int 0 0,.ref 1061,.int 685 0,.int 0 0,.ref 1066,.int 694 0,.int 0 0,.ref 1074,.int 703 0,.int 0 0,.ref 1079,.int 707 0,.int 0 0,.ref 1086,.int 748 0,.int 0 0,.ref 1161,.int 752 0,.int 0 0,.ref 1168,.int 760 0,.int 0 0,.ref 1175,.int 773 0,.int 0 0,.ref 1182,.int 778 0,.int 0 0,.ref 1189,.int 783 0,.int 0 0,.ref 1196,.int 790 0,.int 0 0,.ref 1203,.int 808 0,.int 0 0,.ref 1210,.int 814 0,.int 0 0,.ref 1217,.int 816 0,.int 0 0,.ref 1224,.int 832 0,.int 0 0,.ref 1231,.int 834 0,.int 0 0,.ref 1236,.int 857 0,.int 0 0,.ref 1243]
noncomputable def GC(P:Params):List DictEntry:=[dE P "type.__subclasses__.Exception.0" 230 (.int 46 0),dE P "type.__subclasses__.Exception.n" 231 (.int 1 0)]
noncomputable def g1(P:Params):List Obj:=fG (st 0) "_wall" (ak "__main__" 164) .none 1 1 3 15 187 ["k"] []++([tO [.type "Exception"],iM [.builtin "type.__prepare__",.type "type"],dO (.type "dict") 6 [dE P "__module__" 203 (ak "octetmint.basics" 194),dE P "__qualname__" 205 (ak "MintError" 204),dE P "__firstlineno__" 207 (.int 5 206),dE P "__init__" 216 (.ref 36),dE P "told" 223 (.ref 43),dE P "__static_attributes__" 226 (.ref 44)],tO [],fO [.int 7 0,.int 4 0,.ref 35,.int 12 0,.int 4 0,.ref 42],cO [ak "MintError" 198,ak "MintError" 199,ak "/claim/cut.py" 200,.int 5 0,.int 0 0,.int 0 0,.int 0 0,.int 0 0,.ref 25,.bool false,.int 181 0,.ref 26,.none,.none,.none,.none,.int 201 0,.int 5 0,ak "/claim/cut.py" 202],rO [some (.ref 27),some (.ref 3),some (.ref 24),none,some (ak "octetmint.basics" 194),none,some (.ref 0)],tO [.none]]++(fG (sm 2 0) "MintError.__init__" (ak "octetmint.basics" 194) (.ref 29) 7 3 3 30 208 ["self","what","at"] []++(fG (sm 2 1) "MintError.told" (ak "octetmint.basics" 194) .none 12 1 3 37 217 ["self"] []++([tO [ak "at" 224,ak "what" 225],dO (.type "dict") 3 [dE P "__module__" 203 (ak "octetmint.basics" 194),dE P "__firstlineno__" 207 (.int 5 206),dE P "__init__" 216 (.ref 36),dE P "told" 223 (.ref 43),dE P "__static_attributes__" 226 (.ref 44),dE P "__weakref__" 228 (.ref 47),dE P "__doc__" 229 .none],kO "MintError" [.type "Exception"] [.ref 46,.type "Exception",.type "BaseException",.type "object"] 45 [.ref 59,.ref 71,.ref 83] [some (.ref 22),none,some (ak "MintError" 196),some (ak "MintError" 204),some (.builtin "Exception.__new__"),some (.bool true)],gO [ak "__weakref__" 227,.ref 46,.builtin "ExceptionGroup.__weakref__",.none],uO [.ref 46,.ref 46,.ref 46],iM [.builtin "object.__init_subclass__",.ref 46],tO [.ref 46],iM [.builtin "type.__prepare__",.type "type"],dO (.type "dict") 4 [dE P "__module__" 241 (ak "octetmint.basics" 194),dE P "__qualname__" 243 (ak "OperandError" 242),dE P "__firstlineno__" 245 (.int 16 244),dE P "__static_attributes__" 246 (.ref 57)],tO [],fO [],cO [ak "OperandError" 236,ak "OperandError" 237,ak "/claim/cut.py" 238,.int 16 0,.int 0 0,.int 0 0,.int 0 0,.int 0 0,.ref 53,.bool false,.int 181 0,.ref 54,.none,.none,.none,.none,.int 239 0,.int 16 0,ak "/claim/cut.py" 240],rO [some (.ref 55),some (.ref 3),some (.ref 52),none,some (ak "octetmint.basics" 194),none,some (.ref 0)],tO [],dO (.type "dict") 2 [dE P "__module__" 241 (ak "octetmint.basics" 194),dE P "__firstlineno__" 245 (.int 16 244),dE P "__static_attributes__" 246 (.ref 57),dE P "__doc__" 247 .none],kO "OperandError" [.ref 46] [.ref 59,.ref 46,.type "Exception",.type "BaseException",.type "object"] 58 [] [some (.ref 50),none,some (ak "OperandError" 234),some (ak "OperandError" 242),some (.builtin "Exception.__new__"),some (.bool true)],uO [.ref 59,.ref 59,.ref 59],iM [.builtin "object.__init_subclass__",.ref 59],tO [.ref 46],iM [.builtin "type.__prepare__",.type "type"],dO (.type "dict") 4 [dE P "__module__" 257 (ak "octetmint.basics" 194),dE P "__qualname__" 259 (ak "EncodeError" 258),dE P "__firstlineno__" 261 (.int 18 260),dE P "__static_attributes__" 262 (.ref 69)],tO [],fO [],cO [ak "EncodeError" 252,ak "EncodeError" 253,ak "/claim/cut.py" 254,.int 18 0,.int 0 0,.int 0 0,.int 0 0,.int 0 0,.ref 65,.bool false,.int 181 0,.ref 66,.none,.none,.none,.none,.int 255 0,.int 18 0,ak "/claim/cut.py" 256],rO [some (.ref 67),some (.ref 3),some (.ref 64),none,some (ak "octetmint.basics" 194),none,some (.ref 0)],tO [],dO (.type "dict") 2 [dE P "__module__" 257 (ak "octetmint.basics" 194),dE P "__firstlineno__" 261 (.int 18 260),dE P "__static_attributes__" 262 (.ref 69),dE P "__doc__" 263 .none],kO "EncodeError" [.ref 46] [.ref 71,.ref 46,.type "Exception",.type "BaseException",.type "object"] 70 [] [some (.ref 62),none,some (ak "EncodeError" 250),some (ak "EncodeError" 258),some (.builtin "Exception.__new__"),some (.bool true)],uO [.ref 71,.ref 71,.ref 71],iM [.builtin "object.__init_subclass__",.ref 71],tO [.ref 46],iM [.builtin "type.__prepare__",.type "type"],dO (.type "dict") 4 [dE P "__module__" 273 (ak "octetmint.basics" 194),dE P "__qualname__" 275 (ak "DecodeError" 274),dE P "__firstlineno__" 277 (.int 20 276),dE P "__static_attributes__" 278 (.ref 81)],tO [],fO [],cO [ak "DecodeError" 268,ak "DecodeError" 269,ak "/claim/cut.py" 270,.int 20 0,.int 0 0,.int 0 0,.int 0 0,.int 0 0,.ref 77,.bool false,.int 181 0,.ref 78,.none,.none,.none,.none,.int 271 0,.int 20 0,ak "/claim/cut.py" 272],rO [some (.ref 79),some (.ref 3),some (.ref 76),none,some (ak "octetmint.basics" 194),none,some (.ref 0)],tO [],dO (.type "dict") 2 [dE P "__module__" 273 (ak "octetmint.basics" 194),dE P "__firstlineno__" 277 (.int 20 276),dE P "__static_attributes__" 278 (.ref 81),dE P "__doc__" 279 .none],kO "DecodeError" [.ref 46] [.ref 83,.ref 46,.type "Exception",.type "BaseException",.type "object"] 82 [] [some (.ref 74),none,some (ak "DecodeError" 266),some (ak "DecodeError" 274),some (.builtin "Exception.__new__"),some (.bool true)],uO [.ref 83,.ref 83,.ref 83],iM [.builtin "object.__init_subclass__",.ref 83]]++(fG (st 6) "mask" (ak "octetmint.basics" 194) .none 22 1 3 86 282 ["size"] []++(fG (st 7) "wrap" (ak "octetmint.basics" 194) .none 24 2 3 93 289 ["worth","size"] []++(fG (st 8) "signed" (ak "octetmint.basics" 194) .none 26 2 3 100 297 ["worth","size","low"] []++(fG (st 9) "from_little" (ak "octetmint.basics" 194) .none 31 1 3 107 306 ["octets","worth","shift","octet"] []++(fG (st 10) "from_little_signed" (ak "octetmint.basics" 194) .none 38 1 3 114 316 ["octets"] []++(fG (st 19) "rex_octet" (ak "octetmint.prefixes" 323) .none 50 4 3 121 339 ["w","r","x","b","bit"] []++(fG (st 20) "rex_bits" (ak "octetmint.prefixes" 323) .none 55 1 3 128 350 ["octet"] []++(fG (st 21) "is_rex" (ak "octetmint.prefixes" 323) .none 59 1 3 135 357 ["octet"] []++(fG (st 22) "segment_octet" (ak "octetmint.prefixes" 323) .none 61 1 3 142 364 ["segment"] []++(fG (st 23) "sort_of" (ak "octetmint.prefixes" 323) .none 67 1 3 149 371 ["octet"] []++([tO [],iM [.builtin "type.__prepare__",.type "type"],dO (.type "dict") 10 [dE P "__module__" 385 (ak "octetmint.prefixes" 323),dE P "__qualname__" 387 (ak "Prefixes" 386),dE P "__firstlineno__" 389 (.int 77 388),dE P "__init__" 405 (.ref 170),dE P "told" 412 (.ref 177),dE P "has_rex" 419 (.ref 184),dE P "bits" 426 (.ref 191),dE P "count" 433 (.ref 198),dE P "octets" 441 (.ref 205),dE P "__static_attributes__" 447 (.ref 206)],tO [],fO [.int 79 0,.int 4 0,.ref 169,.int 86 0,.int 4 0,.ref 176,.int 89 0,.int 4 0,.ref 183,.int 92 0,.int 4 0,.ref 190,.int 95 0,.int 4 0,.ref 197,.int 98 0,.int 4 0,.ref 204],cO [ak "Prefixes" 380,ak "Prefixes" 381,ak "/claim/cut.py" 382,.int 77 0,.int 0 0,.int 0 0,.int 0 0,.int 0 0,.ref 159,.bool false,.int 181 0,.ref 160,.none,.none,.none,.none,.int 383 0,.int 77 0,ak "/claim/cut.py" 384],rO [some (.ref 161),some (.ref 3),some (.ref 158),none,some (ak "octetmint.prefixes" 323),none,some (.ref 0)],tO [ak "" 390,.bool false,.int 0 391,.bool false,.int (-1) 393]]++(fG (sm 24 0) "Prefixes.__init__" (ak "octetmint.prefixes" 323) (.ref 163) 79 6 3 164 394 ["self","segment","is_data","repeat","is_lock","rex"] []++(fG (sm 24 1) "Prefixes.told" (ak "octetmint.prefixes" 323) .none 86 1 3 171 406 ["self"] []++(fG (sm 24 2) "Prefixes.has_rex" (ak "octetmint.prefixes" 323) .none 89 1 3 178 413 ["self"] []++(fG (sm 24 3) "Prefixes.bits" (ak "octetmint.prefixes" 323) .none 92 1 3 185 420 ["self"] []++(fG (sm 24 4) "Prefixes.count" (ak "octetmint.prefixes" 323) .none 95 1 3 192 427 ["self"] []++(fG (sm 24 5) "Prefixes.octets" (ak "octetmint.prefixes" 323) .none 98 1 3 199 434 ["self","found"] []++([tO [ak "is_data" 442,ak "is_lock" 443,ak "repeat" 444,ak "rex" 445,ak "segment" 446],dO (.type "dict") 4 [dE P "__module__" 385 (ak "octetmint.prefixes" 323),dE P "__firstlineno__" 389 (.int 77 388),dE P "__init__" 405 (.ref 170),dE P "told" 412 (.ref 177),dE P "has_rex" 419 (.ref 184),dE P "bits" 426 (.ref 191),dE P "count" 433 (.ref 198),dE P "octets" 441 (.ref 205),dE P "__static_attributes__" 447 (.ref 206),dE P "__dict__" 449 (.ref 209),dE P "__weakref__" 451 (.ref 210),dE P "__doc__" 452 .none],kO "Prefixes" [.type "object"] [.ref 208,.type "object"] 207 [] [none,none,some (ak "Prefixes" 378),some (ak "Prefixes" 386),some (.builtin "object.__new__"),some (.bool true)],gO [ak "__dict__" 448,.ref 208,.builtin "function.__dict__",.builtin "function.__dict__#set"],gO [ak "__weakref__" 450,.ref 208,.builtin "ExceptionGroup.__weakref__",.none],uO [.ref 208,.ref 208,.ref 208],iM [.builtin "object.__init_subclass__",.ref 208]]++(fG (st 25) "with_rex" (ak "octetmint.prefixes" 323) .none 117 2 3 213 455 ["prefixes","rex"] []++(fG (st 26) "with_legacy" (ak "octetmint.prefixes" 323) .none 119 2 3 220 463 ["prefixes","octet","sort","segment"] []++(fG (st 27) "read_prefixes" (ak "octetmint.prefixes" 323) .none 141 2 3 227 473 ["octets","at","found","octet"] [])))))))))))))))))))))))))
noncomputable def g2(P:Params):List Obj:=fG (st 32) "is_fixed" (ak "octetmint.forms" 483) .none 159 1 3 234 491 ["kind"] []++(fG (st 33) "is_immediate" (ak "octetmint.forms" 483) .none 161 1 3 241 498 ["kind"] []++(fG (st 34) "is_relative" (ak "octetmint.forms" 483) .none 163 1 3 248 505 ["kind"] []++(fG (st 35) "takes_memory" (ak "octetmint.forms" 483) .none 165 1 3 255 512 ["kind"] []++(fG (st 36) "kind_size" (ak "octetmint.forms" 483) .none 167 1 3 262 519 ["kind"] []++(fG (st 37) "kind_width" (ak "octetmint.forms" 483) .none 175 1 3 269 526 ["kind"] []++(fG (st 38) "slot_of" (ak "octetmint.forms" 483) .none 181 1 3 276 533 ["kind"] []++([tO [],iM [.builtin "type.__prepare__",.type "type"],dO (.type "dict") 11 [dE P "__module__" 547 (ak "octetmint.forms" 483),dE P "__qualname__" 549 (ak "Form" 548),dE P "__firstlineno__" 551 (.int 191 550),dE P "__init__" 562 (.ref 295),dE P "told" 569 (.ref 302),dE P "slots" 576 (.ref 309),dE P "has_modrm" 583 (.ref 316),dE P "has_plus" 590 (.ref 323),dE P "memory_size" 597 (.ref 330),dE P "needs_memory" 604 (.ref 337),dE P "__static_attributes__" 615 (.ref 338)],tO [],fO [.int 193 0,.int 4 0,.ref 294,.int 205 0,.int 4 0,.ref 301,.int 208 0,.int 4 0,.ref 308,.int 211 0,.int 4 0,.ref 315,.int 214 0,.int 4 0,.ref 322,.int 217 0,.int 4 0,.ref 329,.int 220 0,.int 4 0,.ref 336],cO [ak "Form" 542,ak "Form" 543,ak "/claim/cut.py" 544,.int 191 0,.int 0 0,.int 0 0,.int 0 0,.int 0 0,.ref 286,.bool false,.int 181 0,.ref 287,.none,.none,.none,.none,.int 545 0,.int 191 0,ak "/claim/cut.py" 546],rO [some (.ref 288),some (.ref 3),some (.ref 285),none,some (ak "octetmint.forms" 483),none,some (.ref 0)],tO [.int 0 552,.int (-1) 554,.int 0 555,.int 0 556,.bool false]]++(fH (sm 39 0) "Form.__init__" (ak "octetmint.forms" 483) (.ref 290) 193 9 3 291 557++(fG (sm 39 1) "Form.told" (ak "octetmint.forms" 483) .none 205 1 3 296 563 ["self"] []++(fG (sm 39 2) "Form.slots" (ak "octetmint.forms" 483) .none 208 1 3 303 570 ["self"] []++(fG (sm 39 3) "Form.has_modrm" (ak "octetmint.forms" 483) .none 211 1 3 310 577 ["self"] []++(fG (sm 39 4) "Form.has_plus" (ak "octetmint.forms" 483) .none 214 1 3 317 584 ["self"] []++(fG (sm 39 5) "Form.memory_size" (ak "octetmint.forms" 483) .none 217 1 3 324 591 ["self"] []++(fG (sm 39 6) "Form.needs_memory" (ak "octetmint.forms" 483) .none 220 1 3 331 598 ["self"] []++([tO [ak "digit" 605,ak "escape" 606,ak "is_wide" 607,ak "kinds" 608,ak "must" 609,ak "name" 610,ak "number" 611,ak "opcode" 612,ak "places" 613,ak "size" 614],dO (.type "dict") 4 [dE P "__module__" 547 (ak "octetmint.forms" 483),dE P "__firstlineno__" 551 (.int 191 550),dE P "__init__" 562 (.ref 295),dE P "told" 569 (.ref 302),dE P "slots" 576 (.ref 309),dE P "has_modrm" 583 (.ref 316),dE P "has_plus" 590 (.ref 323),dE P "memory_size" 597 (.ref 330),dE P "needs_memory" 604 (.ref 337),dE P "__static_attributes__" 615 (.ref 338),dE P "__dict__" 617 (.ref 341),dE P "__weakref__" 619 (.ref 342),dE P "__doc__" 620 .none],kO "Form" [.type "object"] [.ref 340,.type "object"] 339 [] [none,none,some (ak "Form" 540),some (ak "Form" 548),some (.builtin "object.__new__"),some (.bool true)],gO [ak "__dict__" 616,.ref 340,.builtin "function.__dict__",.builtin "function.__dict__#set"],gO [ak "__weakref__" 618,.ref 340,.builtin "ExceptionGroup.__weakref__",.none],uO [.ref 340,.ref 340,.ref 340],iM [.builtin "object.__init_subclass__",.ref 340]]++(fG (st 40) "can_lock" (ak "octetmint.forms" 483) .none 222 1 3 345 623 ["form"] []++(fG (st 41) "repeats" (ak "octetmint.forms" 483) .none 224 1 3 352 630 ["name"] []++(fG (st 44) "fold_names" (ak "octetmint.arith" 637) .none 230 0 3 359 641 [] []++(fG (st 45) "wide_sizes" (ak "octetmint.arith" 637) .none 232 0 3 366 647 [] []++(fG (st 46) "every_size" (ak "octetmint.arith" 637) .none 234 0 3 373 653 [] []++(fG (st 47) "kind_of" (ak "octetmint.arith" 637) .none 236 2 3 380 659 ["stem","size"] []++(fG (st 48) "accumulator" (ak "octetmint.arith" 637) .none 238 1 3 387 667 ["size"] []++(fG (st 49) "whole_immediate" (ak "octetmint.arith" 637) .none 244 1 3 394 674 ["size"] []++(fG (st 50) "paired" (ak "octetmint.arith" 637) .none 246 2 3 401 681 ["opcode","size"] []++([tO [.int 0 689]]++(fG (st 51) "store_forms" (ak "octetmint.arith" 637) (.ref 408) 248 3 3 409 690 ["name","opcode","escape","found","size","kinds"] []++([tO [.int 0 702]]++(fG (st 52) "load_forms" (ak "octetmint.arith" 637) (.ref 416) 254 3 3 417 703 ["name","opcode","escape","found","size","kinds"] []++(fG (st 53) "group_forms" (ak "octetmint.arith" 637) .none 260 3 3 424 715 ["name","opcode","digit","found","size"] []++(fG (st 54) "immediate_forms" (ak "octetmint.arith" 637) .none 265 3 3 431 726 ["name","opcode","digit","found","size","kinds"] []++(fG (st 55) "short_forms" (ak "octetmint.arith" 637) .none 271 3 3 438 738 ["name","opcode","digit","found","size"] []++(fG (st 56) "accumulator_forms" (ak "octetmint.arith" 637) .none 276 2 3 445 749 ["name","opcode","found","size","kinds"] []++(fG (st 57) "fold_forms" (ak "octetmint.arith" 637) .none 282 2 3 452 760 ["name","digit","base","found"] []++(fG (st 58) "test_forms" (ak "octetmint.arith" 637) .none 290 0 3 459 770 ["found"] []++(fG (st 59) "single_forms" (ak "octetmint.arith" 637) .none 295 0 3 466 777 ["found"] []++(fG (st 60) "arith_forms" (ak "octetmint.arith" 637) .none 301 0 3 473 784 ["found","digit","name"] []++([tO [],iM [.builtin "type.__prepare__",.type "type"],dO (.type "dict") 8 [dE P "__module__" 802 (ak "octetmint.operands" 793),dE P "__qualname__" 804 (ak "Operand" 803),dE P "__firstlineno__" 806 (.int 309 805),dE P "__init__" 814 (.ref 493),dE P "told" 821 (.ref 500),dE P "symbol" 828 (.ref 507),dE P "registers" 835 (.ref 514),dE P "__static_attributes__" 837 (.ref 515)],tO [],fO [.int 311 0,.int 4 0,.ref 492,.int 314 0,.int 4 0,.ref 499,.int 317 0,.int 4 0,.ref 506,.int 320 0,.int 4 0,.ref 513],cO [ak "Operand" 797,ak "Operand" 798,ak "/claim/cut.py" 799,.int 309 0,.int 0 0,.int 0 0,.int 0 0,.int 0 0,.ref 483,.bool false,.int 181 0,.ref 484,.none,.none,.none,.none,.int 800 0,.int 309 0,ak "/claim/cut.py" 801],rO [some (.ref 485),some (.ref 3),some (.ref 482),none,some (ak "octetmint.operands" 793),none,some (.ref 0)]]++(fG (sm 62 0) "Operand.__init__" (ak "octetmint.operands" 793) .none 311 2 3 487 807 ["self","kind"] []++(fG (sm 62 1) "Operand.told" (ak "octetmint.operands" 793) .none 314 1 3 494 815 ["self"] []++(fG (sm 62 2) "Operand.symbol" (ak "octetmint.operands" 793) .none 317 1 3 501 822 ["self"] []++(fG (sm 62 3) "Operand.registers" (ak "octetmint.operands" 793) .none 320 1 3 508 829 ["self"] []++([tO [ak "kind" 836],dO (.type "dict") 4 [dE P "__module__" 802 (ak "octetmint.operands" 793),dE P "__firstlineno__" 806 (.int 309 805),dE P "__init__" 814 (.ref 493),dE P "told" 821 (.ref 500),dE P "symbol" 828 (.ref 507),dE P "registers" 835 (.ref 514),dE P "__static_attributes__" 837 (.ref 515),dE P "__dict__" 839 (.ref 518),dE P "__weakref__" 841 (.ref 519),dE P "__doc__" 842 .none],(M0 [.ref 552,.ref 586,.ref 627,.ref 680]),gO [ak "__dict__" 838,.ref 517,.builtin "function.__dict__",.builtin "function.__dict__#set"],gO [ak "__weakref__" 840,.ref 517,.builtin "ExceptionGroup.__weakref__",.none],uO [.ref 517,.ref 517,.ref 517],iM [.builtin "object.__init_subclass__",.ref 517],tO [.ref 517],iM [.builtin "type.__prepare__",.type "type"],dO (.type "dict") 7 [dE P "__module__" 852 (ak "octetmint.operands" 793),dE P "__qualname__" 854 (ak "Reg" 853),dE P "__firstlineno__" 856 (.int 322 855),dE P "__init__" 864 (.ref 535),dE P "told" 871 (.ref 542),dE P "registers" 878 (.ref 549),dE P "__static_attributes__" 880 (.ref 550)],tO [],fO [.int 324 0,.int 4 0,.ref 534,.int 328 0,.int 4 0,.ref 541,.int 331 0,.int 4 0,.ref 548],cO [ak "Reg" 847,ak "Reg" 848,ak "/claim/cut.py" 849,.int 322 0,.int 0 0,.int 0 0,.int 0 0,.int 0 0,.ref 525,.bool false,.int 181 0,.ref 526,.none,.none,.none,.none,.int 850 0,.int 322 0,ak "/claim/cut.py" 851],rO [some (.ref 527),some (.ref 3),some (.ref 524),none,some (ak "octetmint.operands" 793),none,some (.ref 0)]]++(fG (sm 63 0) "Reg.__init__" (ak "octetmint.operands" 793) .none 324 2 3 529 857 ["self","register"] []++(fG (sm 63 1) "Reg.told" (ak "octetmint.operands" 793) .none 328 1 3 536 865 ["self"] []++(fG (sm 63 2) "Reg.registers" (ak "octetmint.operands" 793) .none 331 1 3 543 872 ["self"] []++([tO [ak "register" 879],dO (.type "dict") 2 [dE P "__module__" 852 (ak "octetmint.operands" 793),dE P "__firstlineno__" 856 (.int 322 855),dE P "__init__" 864 (.ref 535),dE P "told" 871 (.ref 542),dE P "registers" 878 (.ref 549),dE P "__static_attributes__" 880 (.ref 550),dE P "__doc__" 881 .none],kO "Reg" [.ref 517] [.ref 552,.ref 517,.type "object"] 551 [] [some (.ref 522),none,some (ak "Reg" 845),some (ak "Reg" 853),some (.builtin "object.__new__"),some (.bool true)],uO [.ref 552,.ref 552,.ref 552],iM [.builtin "object.__init_subclass__",.ref 552],tO [.ref 517],iM [.builtin "type.__prepare__",.type "type"],dO (.type "dict") 7 [dE P "__module__" 891 (ak "octetmint.operands" 793),dE P "__qualname__" 893 (ak "Imm" 892),dE P "__firstlineno__" 895 (.int 333 894),dE P "__init__" 905 (.ref 569),dE P "told" 912 (.ref 576),dE P "symbol" 919 (.ref 583),dE P "__static_attributes__" 922 (.ref 584)],tO [],fO [.int 335 0,.int 4 0,.ref 568,.int 340 0,.int 4 0,.ref 575,.int 343 0,.int 4 0,.ref 582],cO [ak "Imm" 886,ak "Imm" 887,ak "/claim/cut.py" 888,.int 333 0,.int 0 0,.int 0 0,.int 0 0,.int 0 0,.ref 558,.bool false,.int 181 0,.ref 559,.none,.none,.none,.none,.int 889 0,.int 333 0,ak "/claim/cut.py" 890],rO [some (.ref 560),some (.ref 3),some (.ref 557),none,some (ak "octetmint.operands" 793),none,some (.ref 0)],tO [ak "" 896]]++(fG (sm 64 0) "Imm.__init__" (ak "octetmint.operands" 793) (.ref 562) 335 3 3 563 897 ["self","worth","name"] []++(fG (sm 64 1) "Imm.told" (ak "octetmint.operands" 793) .none 340 1 3 570 906 ["self"] []++(fG (sm 64 2) "Imm.symbol" (ak "octetmint.operands" 793) .none 343 1 3 577 913 ["self"] []++([tO [ak "name" 920,ak "worth" 921],dO (.type "dict") 2 [dE P "__module__" 891 (ak "octetmint.operands" 793),dE P "__firstlineno__" 895 (.int 333 894),dE P "__init__" 905 (.ref 569),dE P "told" 912 (.ref 576),dE P "symbol" 919 (.ref 583),dE P "__static_attributes__" 922 (.ref 584),dE P "__doc__" 923 .none],kO "Imm" [.ref 517] [.ref 586,.ref 517,.type "object"] 585 [] [some (.ref 555),none,some (ak "Imm" 884),some (ak "Imm" 892),some (.builtin "object.__new__"),some (.bool true)],uO [.ref 586,.ref 586,.ref 586],iM [.builtin "object.__init_subclass__",.ref 586]]))))))))))))))))))))))))))))))))))))))))))))))))))
noncomputable def g3(P:Params):List Obj:=[tO [.ref 517],iM [.builtin "type.__prepare__",.type "type"],dO (.type "dict") 8 [dE P "__module__" 933 (ak "octetmint.operands" 793),dE P "__qualname__" 935 (ak "Rel" 934),dE P "__firstlineno__" 937 (.int 345 936),dE P "__init__" 947 (.ref 603),dE P "told" 954 (.ref 610),dE P "symbol" 961 (.ref 617),dE P "target" 969 (.ref 624),dE P "__static_attributes__" 972 (.ref 625)],tO [],fO [.int 347 0,.int 4 0,.ref 602,.int 352 0,.int 4 0,.ref 609,.int 355 0,.int 4 0,.ref 616,.int 358 0,.int 4 0,.ref 623],cO [ak "Rel" 928,ak "Rel" 929,ak "/claim/cut.py" 930,.int 345 0,.int 0 0,.int 0 0,.int 0 0,.int 0 0,.ref 592,.bool false,.int 181 0,.ref 593,.none,.none,.none,.none,.int 931 0,.int 345 0,ak "/claim/cut.py" 932],rO [some (.ref 594),some (.ref 3),some (.ref 591),none,some (ak "octetmint.operands" 793),none,some (.ref 0)],tO [ak "" 938]]++(fG (sm 65 0) "Rel.__init__" (ak "octetmint.operands" 793) (.ref 596) 347 3 3 597 939 ["self","worth","name"] []++(fG (sm 65 1) "Rel.told" (ak "octetmint.operands" 793) .none 352 1 3 604 948 ["self"] []++(fG (sm 65 2) "Rel.symbol" (ak "octetmint.operands" 793) .none 355 1 3 611 955 ["self"] []++(fG (sm 65 3) "Rel.target" (ak "octetmint.operands" 793) .none 358 2 3 618 962 ["self","behind"] []++([tO [ak "name" 970,ak "worth" 971],dO (.type "dict") 2 [dE P "__module__" 933 (ak "octetmint.operands" 793),dE P "__firstlineno__" 937 (.int 345 936),dE P "__init__" 947 (.ref 603),dE P "told" 954 (.ref 610),dE P "symbol" 961 (.ref 617),dE P "target" 969 (.ref 624),dE P "__static_attributes__" 972 (.ref 625),dE P "__doc__" 973 .none],kO "Rel" [.ref 517] [.ref 627,.ref 517,.type "object"] 626 [] [some (.ref 589),none,some (ak "Rel" 926),some (ak "Rel" 934),some (.builtin "object.__new__"),some (.bool true)],uO [.ref 627,.ref 627,.ref 627],iM [.builtin "object.__init_subclass__",.ref 627],tO [.ref 517],iM [.builtin "type.__prepare__",.type "type"],dO (.type "dict") 10 [dE P "__module__" 983 (ak "octetmint.operands" 793),dE P "__qualname__" 985 (ak "Mem" 984),dE P "__firstlineno__" 987 (.int 360 986),dE P "__init__" 1004 (.ref 644),dE P "told" 1013 (.ref 651),dE P "symbol" 1020 (.ref 658),dE P "registers" 1026 (.ref 663),dE P "is_rip" 1033 (.ref 670),dE P "is_absolute" 1040 (.ref 677),dE P "__static_attributes__" 1048 (.ref 678)],tO [],fO [.int 362 0,.int 4 0,.ref 643,.int 372 0,.int 4 0,.ref 650,.int 377 0,.int 4 0,.ref 657,.int 380 0,.int 4 0,.ref 662,.int 383 0,.int 4 0,.ref 669,.int 386 0,.int 4 0,.ref 676],cO [ak "Mem" 978,ak "Mem" 979,ak "/claim/cut.py" 980,.int 360 0,.int 0 0,.int 0 0,.int 0 0,.int 0 0,.ref 633,.bool false,.int 181 0,.ref 634,.none,.none,.none,.none,.int 981 0,.int 360 0,ak "/claim/cut.py" 982],rO [some (.ref 635),some (.ref 3),some (.ref 632),none,some (ak "octetmint.operands" 793),none,some (.ref 0)],tO [.int 0 988,ak "" 989,ak "" 990]]++(fG (sm 66 0) "Mem.__init__" (ak "octetmint.operands" 793) (.ref 637) 362 8 3 638 991 ["self","base","index","scale","worth","size","segment","name"] []++(fG (sm 66 1) "Mem.told" (ak "octetmint.operands" 793) .none 372 1 3 645 1005 ["self","base","index"] []++(fG (sm 66 2) "Mem.symbol" (ak "octetmint.operands" 793) .none 377 1 3 652 1014 ["self"] []++(fH (sm 66 3) "Mem.registers" (ak "octetmint.operands" 793) .none 380 1 3 659 1021++(fG (sm 66 4) "Mem.is_rip" (ak "octetmint.operands" 793) .none 383 1 3 664 1027 ["self"] []++(fG (sm 66 5) "Mem.is_absolute" (ak "octetmint.operands" 793) .none 386 1 3 671 1034 ["self"] []++([tO [ak "base" 1041,ak "index" 1042,ak "name" 1043,ak "scale" 1044,ak "segment" 1045,ak "size" 1046,ak "worth" 1047],dO (.type "dict") 2 [dE P "__module__" 983 (ak "octetmint.operands" 793),dE P "__firstlineno__" 987 (.int 360 986),dE P "__init__" 1004 (.ref 644),dE P "told" 1013 (.ref 651),dE P "symbol" 1020 (.ref 658),dE P "registers" 1026 (.ref 663),dE P "is_rip" 1033 (.ref 670),dE P "is_absolute" 1040 (.ref 677),dE P "__static_attributes__" 1048 (.ref 678),dE P "__doc__" 1049 .none],kO "Mem" [.ref 517] [.ref 680,.ref 517,.type "object"] 679 [] [some (.ref 630),none,some (ak "Mem" 976),some (ak "Mem" 984),some (.builtin "object.__new__"),some (.bool true)],uO [.ref 680,.ref 680,.ref 680],iM [.builtin "object.__init_subclass__",.ref 680],tO [],iM [.builtin "type.__prepare__",.type "type"],dO (.type "dict") 10 [dE P "__module__" 1059 (ak "octetmint.operands" 793),dE P "__qualname__" 1061 (ak "Instruction" 1060),dE P "__firstlineno__" 1063 (.int 388 1062),dE P "__init__" 1074 (.ref 697),dE P "told" 1080 (.ref 702),dE P "memory_at" 1089 (.ref 709),dE P "memory" 1097 (.ref 716),dE P "symbols" 1104 (.ref 723),dE P "replaced" 1113 (.ref 730),dE P "__static_attributes__" 1117 (.ref 731)],tO [],fO [.int 390 0,.int 4 0,.ref 696,.int 395 0,.int 4 0,.ref 701,.int 398 0,.int 4 0,.ref 708,.int 404 0,.int 4 0,.ref 715,.int 408 0,.int 4 0,.ref 722,.int 411 0,.int 4 0,.ref 729],cO [ak "Instruction" 1054,ak "Instruction" 1055,ak "/claim/cut.py" 1056,.int 388 0,.int 0 0,.int 0 0,.int 0 0,.int 0 0,.ref 686,.bool false,.int 181 0,.ref 687,.none,.none,.none,.none,.int 1057 0,.int 388 0,ak "/claim/cut.py" 1058],rO [some (.ref 688),some (.ref 3),some (.ref 685),none,some (ak "octetmint.operands" 793),none,some (.ref 0)],tO [ak "" 1064]]++(fG (sm 67 0) "Instruction.__init__" (ak "octetmint.operands" 793) (.ref 690) 390 4 3 691 1065 ["self","name","operands","prefix"] []++(fH (sm 67 1) "Instruction.told" (ak "octetmint.operands" 793) .none 395 1 3 698 1075++(fG (sm 67 2) "Instruction.memory_at" (ak "octetmint.operands" 793) .none 398 1 3 703 1081 ["self","at","operand"] []++(fG (sm 67 3) "Instruction.memory" (ak "octetmint.operands" 793) .none 404 1 3 710 1090 ["self","at"] []++(fG (sm 67 4) "Instruction.symbols" (ak "octetmint.operands" 793) .none 408 1 3 717 1098 ["self"] []++(fG (sm 67 5) "Instruction.replaced" (ak "octetmint.operands" 793) .none 411 3 3 724 1105 ["self","at","operand"] []++([tO [ak "name" 1114,ak "operands" 1115,ak "prefix" 1116],dO (.type "dict") 4 [dE P "__module__" 1059 (ak "octetmint.operands" 793),dE P "__firstlineno__" 1063 (.int 388 1062),dE P "__init__" 1074 (.ref 697),dE P "told" 1080 (.ref 702),dE P "memory_at" 1089 (.ref 709),dE P "memory" 1097 (.ref 716),dE P "symbols" 1104 (.ref 723),dE P "replaced" 1113 (.ref 730),dE P "__static_attributes__" 1117 (.ref 731),dE P "__dict__" 1119 (.ref 734),dE P "__weakref__" 1121 (.ref 735),dE P "__doc__" 1122 .none],kO "Instruction" [.type "object"] [.ref 733,.type "object"] 732 [] [none,none,some (ak "Instruction" 1052),some (ak "Instruction" 1060),some (.builtin "object.__new__"),some (.bool true)],gO [ak "__dict__" 1118,.ref 733,.builtin "function.__dict__",.builtin "function.__dict__#set"],gO [ak "__weakref__" 1120,.ref 733,.builtin "ExceptionGroup.__weakref__",.none],uO [.ref 733,.ref 733,.ref 733],iM [.builtin "object.__init_subclass__",.ref 733],tO [],iM [.builtin "type.__prepare__",.type "type"],dO (.type "dict") 10 [dE P "__module__" 1144 (ak "octetmint.registers" 1125),dE P "__qualname__" 1146 (ak "Register" 1145),dE P "__firstlineno__" 1148 (.int 419 1147),dE P "__init__" 1159 (.ref 751),dE P "code" 1166 (.ref 758),dE P "is_extended" 1173 (.ref 765),dE P "is_high" 1180 (.ref 772),dE P "needs_rex" 1187 (.ref 779),dE P "told" 1194 (.ref 786),dE P "__static_attributes__" 1199 (.ref 787)],tO [],fO [.int 421 0,.int 4 0,.ref 750,.int 427 0,.int 4 0,.ref 757,.int 430 0,.int 4 0,.ref 764,.int 433 0,.int 4 0,.ref 771,.int 436 0,.int 4 0,.ref 778,.int 439 0,.int 4 0,.ref 785],cO [ak "Register" 1139,ak "Register" 1140,ak "/claim/cut.py" 1141,.int 419 0,.int 0 0,.int 0 0,.int 0 0,.int 0 0,.ref 741,.bool false,.int 181 0,.ref 742,.none,.none,.none,.none,.int 1142 0,.int 419 0,ak "/claim/cut.py" 1143],rO [some (.ref 743),some (.ref 3),some (.ref 740),none,some (ak "octetmint.registers" 1125),none,some (.ref 0)]]++(fG (sm 74 0) "Register.__init__" (ak "octetmint.registers" 1125) .none 421 5 3 745 1149 ["self","name","kind","number","size"] []++(fG (sm 74 1) "Register.code" (ak "octetmint.registers" 1125) .none 427 1 3 752 1160 ["self"] []++(fG (sm 74 2) "Register.is_extended" (ak "octetmint.registers" 1125) .none 430 1 3 759 1167 ["self"] []++(fG (sm 74 3) "Register.is_high" (ak "octetmint.registers" 1125) .none 433 1 3 766 1174 ["self"] []++(fG (sm 74 4) "Register.needs_rex" (ak "octetmint.registers" 1125) .none 436 1 3 773 1181 ["self"] []++(fG (sm 74 5) "Register.told" (ak "octetmint.registers" 1125) .none 439 1 3 780 1188 ["self"] []++([tO [ak "kind" 1195,ak "name" 1196,ak "number" 1197,ak "size" 1198],dO (.type "dict") 4 [dE P "__module__" 1144 (ak "octetmint.registers" 1125),dE P "__firstlineno__" 1148 (.int 419 1147),dE P "__init__" 1159 (.ref 751),dE P "code" 1166 (.ref 758),dE P "is_extended" 1173 (.ref 765),dE P "is_high" 1180 (.ref 772),dE P "needs_rex" 1187 (.ref 779),dE P "told" 1194 (.ref 786),dE P "__static_attributes__" 1199 (.ref 787),dE P "__dict__" 1201 (.ref 790),dE P "__weakref__" 1203 (.ref 791),dE P "__doc__" 1204 .none],kO "Register" [.type "object"] [.ref 789,.type "object"] 788 [] [none,none,some (ak "Register" 1137),some (ak "Register" 1145),some (.builtin "object.__new__"),some (.bool true)],gO [ak "__dict__" 1200,.ref 789,.builtin "function.__dict__",.builtin "function.__dict__#set"],gO [ak "__weakref__" 1202,.ref 789,.builtin "ExceptionGroup.__weakref__",.none],uO [.ref 789,.ref 789,.ref 789],iM [.builtin "object.__init_subclass__",.ref 789]]++(fG (st 75) "early_names" (ak "octetmint.registers" 1125) .none 441 1 3 794 1207 ["size"] []++(fG (st 76) "late_ending" (ak "octetmint.registers" 1125) .none 451 1 3 801 1214 ["size"] []++(fG (st 77) "gpr" (ak "octetmint.registers" 1125) .none 459 2 3 808 1221 ["number","size","names"] []++(fG (st 78) "high" (ak "octetmint.registers" 1125) .none 466 1 3 815 1230 ["number"] []++(fG (st 79) "xmm" (ak "octetmint.registers" 1125) .none 470 1 3 822 1237 ["number"] []++(fG (st 80) "rip" (ak "octetmint.registers" 1125) .none 474 0 3 829 1244 [] []++(fG (st 86) "unpack_three" (ak "octetmint.modrm" 1250) .none 481 1 3 836 1260 ["octet"] []++(fG (st 87) "unpack_modrm" (ak "octetmint.modrm" 1250) .none 483 1 3 843 1267 ["octet"] []++(fG (st 88) "unpack_sib" (ak "octetmint.modrm" 1250) .none 485 1 3 850 1274 ["octet"] []++(fG (st 89) "octet_at" (ak "octetmint.modrm" 1250) .none 487 2 3 857 1281 ["octets","at"] []++(fG (st 90) "disp_width_of" (ak "octetmint.modrm" 1250) .none 491 3 3 864 1289 ["mod","rm","sib"] []++(fG (st 91) "read_modrm" (ak "octetmint.modrm" 1250) .none 501 2 3 871 1298 ["octets","at","mod","reg","rm","sib","width","disp"] []++(fG (st 92) "memory_of" (ak "octetmint.modrm" 1250) .none 513 8 3 878 1312 ["mod","rm","sib","disp","x","b","size","segment","shift","index","base","first"] [])))))))))))))))))))))))))))))))))))))))
noncomputable def g4(P:Params):List Obj:=[tO [],iM [.builtin "type.__prepare__",.type "type"],dO (.type "dict") 6 [dE P "__module__" 1349 (ak "octetmint.decoder" 1330),dE P "__qualname__" 1351 (ak "Decoded" 1350),dE P "__firstlineno__" 1353 (.int 529 1352),dE P "__init__" 1364 (.ref 898),dE P "told" 1371 (.ref 905),dE P "__static_attributes__" 1376 (.ref 906)],tO [],fO [.int 531 0,.int 4 0,.ref 897,.int 537 0,.int 4 0,.ref 904],cO [ak "Decoded" 1344,ak "Decoded" 1345,ak "/claim/cut.py" 1346,.int 529 0,.int 0 0,.int 0 0,.int 0 0,.int 0 0,.ref 888,.bool false,.int 181 0,.ref 889,.none,.none,.none,.none,.int 1347 0,.int 529 0,ak "/claim/cut.py" 1348],rO [some (.ref 890),some (.ref 3),some (.ref 887),none,some (ak "octetmint.decoder" 1330),none,some (.ref 0)]]++(fG (sm 99 0) "Decoded.__init__" (ak "octetmint.decoder" 1330) .none 531 5 3 892 1354 ["self","instruction","length","form","prefixes"] []++(fG (sm 99 1) "Decoded.told" (ak "octetmint.decoder" 1330) .none 537 1 3 899 1365 ["self"] []++([tO [ak "form" 1372,ak "instruction" 1373,ak "length" 1374,ak "prefixes" 1375],dO (.type "dict") 4 [dE P "__module__" 1349 (ak "octetmint.decoder" 1330),dE P "__firstlineno__" 1353 (.int 529 1352),dE P "__init__" 1364 (.ref 898),dE P "told" 1371 (.ref 905),dE P "__static_attributes__" 1376 (.ref 906),dE P "__dict__" 1378 (.ref 909),dE P "__weakref__" 1380 (.ref 910),dE P "__doc__" 1381 .none],kO "Decoded" [.type "object"] [.ref 908,.type "object"] 907 [] [none,none,some (ak "Decoded" 1342),some (ak "Decoded" 1350),some (.builtin "object.__new__"),some (.bool true)],gO [ak "__dict__" 1377,.ref 908,.builtin "function.__dict__",.builtin "function.__dict__#set"],gO [ak "__weakref__" 1379,.ref 908,.builtin "ExceptionGroup.__weakref__",.none],uO [.ref 908,.ref 908,.ref 908],iM [.builtin "object.__init_subclass__",.ref 908],tO [],iM [.builtin "type.__prepare__",.type "type"],dO (.type "dict") 10 [dE P "__module__" 1391 (ak "octetmint.decoder" 1330),dE P "__qualname__" 1393 (ak "Frame" 1392),dE P "__firstlineno__" 1395 (.int 539 1394),dE P "__init__" 1406 (.ref 926),dE P "has_rex" 1413 (.ref 933),dE P "is_narrow" 1420 (.ref 940),dE P "take_code" 1429 (.ref 947),dE P "take_must" 1438 (.ref 954),dE P "take_modrm" 1447 (.ref 961),dE P "__static_attributes__" 1466 (.ref 962)],tO [],fO [.int 541 0,.int 4 0,.ref 925,.int 562 0,.int 4 0,.ref 932,.int 565 0,.int 4 0,.ref 939,.int 568 0,.int 4 0,.ref 946,.int 579 0,.int 4 0,.ref 953,.int 585 0,.int 4 0,.ref 960],cO [ak "Frame" 1386,ak "Frame" 1387,ak "/claim/cut.py" 1388,.int 539 0,.int 0 0,.int 0 0,.int 0 0,.int 0 0,.ref 916,.bool false,.int 181 0,.ref 917,.none,.none,.none,.none,.int 1389 0,.int 539 0,ak "/claim/cut.py" 1390],rO [some (.ref 918),some (.ref 3),some (.ref 915),none,some (ak "octetmint.decoder" 1330),none,some (.ref 0)]]++(fG (sm 100 0) "Frame.__init__" (ak "octetmint.decoder" 1330) .none 541 4 3 920 1396 ["self","begin","prefixes","code_at","bits"] []++(fG (sm 100 1) "Frame.has_rex" (ak "octetmint.decoder" 1330) .none 562 1 3 927 1407 ["self"] []++(fG (sm 100 2) "Frame.is_narrow" (ak "octetmint.decoder" 1330) .none 565 1 3 934 1414 ["self"] []++(fG (sm 100 3) "Frame.take_code" (ak "octetmint.decoder" 1330) .none 568 2 3 941 1421 ["self","octets","at"] []++(fG (sm 100 4) "Frame.take_must" (ak "octetmint.decoder" 1330) .none 579 2 3 948 1430 ["self","iset","must"] []++(fG (sm 100 5) "Frame.take_modrm" (ak "octetmint.decoder" 1330) .none 585 2 3 955 1439 ["self","octets","told"] []++([tO [ak "b" 1448,ak "begin" 1449,ak "code_at" 1450,ak "disp" 1451,ak "escape" 1452,ak "mod" 1453,ak "modrm_at" 1454,ak "must" 1455,ak "opcode" 1456,ak "prefixes" 1457,ak "r" 1458,ak "reg" 1459,ak "rest_at" 1460,ak "rm" 1461,ak "sib" 1462,ak "w" 1463,ak "width" 1464,ak "x" 1465],dO (.type "dict") 4 [dE P "__module__" 1391 (ak "octetmint.decoder" 1330),dE P "__firstlineno__" 1395 (.int 539 1394),dE P "__init__" 1406 (.ref 926),dE P "has_rex" 1413 (.ref 933),dE P "is_narrow" 1420 (.ref 940),dE P "take_code" 1429 (.ref 947),dE P "take_must" 1438 (.ref 954),dE P "take_modrm" 1447 (.ref 961),dE P "__static_attributes__" 1466 (.ref 962),dE P "__dict__" 1468 (.ref 965),dE P "__weakref__" 1470 (.ref 966),dE P "__doc__" 1471 .none],kO "Frame" [.type "object"] [.ref 964,.type "object"] 963 [] [none,none,some (ak "Frame" 1384),some (ak "Frame" 1392),some (.builtin "object.__new__"),some (.bool true)],gO [ak "__dict__" 1467,.ref 964,.builtin "function.__dict__",.builtin "function.__dict__#set"],gO [ak "__weakref__" 1469,.ref 964,.builtin "ExceptionGroup.__weakref__",.none],uO [.ref 964,.ref 964,.ref 964],iM [.builtin "object.__init_subclass__",.ref 964]]++(fG (st 101) "fits_size" (ak "octetmint.decoder" 1330) .none 590 2 3 969 1474 ["form","frame"] []++(fH (st 102) "fits_mod" (ak "octetmint.decoder" 1330) .none 598 2 3 976 1482++(fG (st 103) "fits_nop" (ak "octetmint.decoder" 1330) .none 600 2 3 981 1488 ["form","frame","is_plain"] []++(fG (st 104) "picked" (ak "octetmint.decoder" 1330) .none 605 2 3 988 1497 ["forms","frame","form"] []++(fG (st 105) "register_at" (ak "octetmint.decoder" 1330) .none 612 3 3 995 1506 ["number","size","has_rex"] []++(fG (st 106) "reg_operand" (ak "octetmint.decoder" 1330) .none 616 2 3 1002 1515 ["kind","frame","number"] []++(fG (st 107) "rm_operand" (ak "octetmint.decoder" 1330) .none 621 2 3 1009 1524 ["kind","frame","size","segment","number"] []++(fG (st 108) "plus_operand" (ak "octetmint.decoder" 1330) .none 629 2 3 1016 1535 ["kind","frame","number"] []++(fG (st 109) "fixed_operand" (ak "octetmint.decoder" 1330) .none 632 1 3 1023 1544 ["kind"] []++(fG (st 110) "field_at" (ak "octetmint.decoder" 1330) .none 640 3 3 1030 1551 ["octets","at","width","field"] []++(fG (st 111) "written_operand" (ak "octetmint.decoder" 1330) .none 645 3 3 1037 1561 ["kind","slot","field"] []++(fG (st 112) "operands_of" (ak "octetmint.decoder" 1330) .none 651 3 3 1044 1570 ["form","frame","octets","found","end","kind","slot","width"] []++(fH (st 113) "check_used" (ak "octetmint.decoder" 1330) .none 667 3 3 1051 1584++(fG (st 114) "prefix_word" (ak "octetmint.decoder" 1330) .none 675 2 3 1056 1590 ["form","frame","repeat","word"] []++(fH (st 115) "read_frame" (ak "octetmint.decoder" 1330) .none 685 3 3 1063 1600++([tO [.int 0 1606]]++(fG (st 116) "decode" (ak "octetmint.decoder" 1330) (.ref 1068) 694 3 3 1069 1607 ["iset","octets","at","frame","form","operands","end","instruction"] []++(fH (st 118) "codes_of" (ak "octetmint.iset" 1621) .none 703 1 3 1076 1623++([tO [],iM [.builtin "type.__prepare__",.type "type"],dO (.type "dict") 13 [dE P "__module__" 1636 (ak "octetmint.iset" 1621),dE P "__qualname__" 1638 (ak "InstructionSet" 1637),dE P "__firstlineno__" 1640 (.int 707 1639),dE P "__init__" 1651 (.ref 1094),dE P "told" 1657 (.ref 1099),dE P "find" 1665 (.ref 1106),dE P "has" 1673 (.ref 1113),dE P "at" 1683 (.ref 1120),dE P "names" 1690 (.ref 1127),dE P "codes" 1697 (.ref 1134),dE P "counts" 1705 (.ref 1141),dE P "memory_sizes" 1713 (.ref 1148),dE P "__static_attributes__" 1717 (.ref 1149)],tO [],fO [.int 709 0,.int 4 0,.ref 1093,.int 724 0,.int 4 0,.ref 1098,.int 727 0,.int 4 0,.ref 1105,.int 730 0,.int 4 0,.ref 1112,.int 733 0,.int 4 0,.ref 1119,.int 736 0,.int 4 0,.ref 1126,.int 739 0,.int 4 0,.ref 1133,.int 742 0,.int 4 0,.ref 1140,.int 745 0,.int 4 0,.ref 1147],cO [ak "InstructionSet" 1631,ak "InstructionSet" 1632,ak "/claim/cut.py" 1633,.int 707 0,.int 0 0,.int 0 0,.int 0 0,.int 0 0,.ref 1084,.bool false,.int 181 0,.ref 1085,.none,.none,.none,.none,.int 1634 0,.int 707 0,ak "/claim/cut.py" 1635],rO [some (.ref 1086),some (.ref 3),some (.ref 1083),none,some (ak "octetmint.iset" 1621),none,some (.ref 0)]]++(fG (sm 119 0) "InstructionSet.__init__" (ak "octetmint.iset" 1621) .none 709 2 3 1088 1641 ["self","forms","number","form","code"] []++(fH (sm 119 1) "InstructionSet.told" (ak "octetmint.iset" 1621) .none 724 1 3 1095 1652++(fG (sm 119 2) "InstructionSet.find" (ak "octetmint.iset" 1621) .none 727 2 3 1100 1658 ["self","name"] []++(fG (sm 119 3) "InstructionSet.has" (ak "octetmint.iset" 1621) .none 730 2 3 1107 1666 ["self","name"] []++(fG (sm 119 4) "InstructionSet.at" (ak "octetmint.iset" 1621) .none 733 4 3 1114 1674 ["self","must","escape","opcode"] []++(fG (sm 119 5) "InstructionSet.names" (ak "octetmint.iset" 1621) .none 736 1 3 1121 1684 ["self"] []++(fG (sm 119 6) "InstructionSet.codes" (ak "octetmint.iset" 1621) .none 739 1 3 1128 1691 ["self"] []++(fG (sm 119 7) "InstructionSet.counts" (ak "octetmint.iset" 1621) .none 742 2 3 1135 1698 ["self","name"] []++(fG (sm 119 8) "InstructionSet.memory_sizes" (ak "octetmint.iset" 1621) .none 745 2 3 1142 1706 ["self","name"] []++([tO [ak "by_code" 1714,ak "by_name" 1715,ak "forms" 1716],dO (.type "dict") 4 [dE P "__module__" 1636 (ak "octetmint.iset" 1621),dE P "__firstlineno__" 1640 (.int 707 1639),dE P "__init__" 1651 (.ref 1094),dE P "told" 1657 (.ref 1099),dE P "find" 1665 (.ref 1106),dE P "has" 1673 (.ref 1113),dE P "at" 1683 (.ref 1120),dE P "names" 1690 (.ref 1127),dE P "codes" 1697 (.ref 1134),dE P "counts" 1705 (.ref 1141),dE P "memory_sizes" 1713 (.ref 1148),dE P "__static_attributes__" 1717 (.ref 1149),dE P "__dict__" 1719 (.ref 1152),dE P "__weakref__" 1721 (.ref 1153),dE P "__doc__" 1722 .none],kO "InstructionSet" [.type "object"] [.ref 1151,.type "object"] 1150 [] [none,none,some (ak "InstructionSet" 1629),some (ak "InstructionSet" 1637),some (.builtin "object.__new__"),some (.bool true)],gO [ak "__dict__" 1718,.ref 1151,.builtin "function.__dict__",.builtin "function.__dict__#set"],gO [ak "__weakref__" 1720,.ref 1151,.builtin "ExceptionGroup.__weakref__",.none],uO [.ref 1151,.ref 1151,.ref 1151],iM [.builtin "object.__init_subclass__",.ref 1151]]++(fG (st 121) "_law_cell" (ak "law_nn0080_01" 1725) .none 748 2 3 1156 1727 ["script","at"] []++(fG (st 122) "_law_sort" (ak "law_nn0080_01" 1725) .none 752 1 3 1163 1735 ["octet"] []++(fG (st 123) "_law_due" (ak "law_nn0080_01" 1725) .none 760 1 3 1170 1742 ["octets","seen","octet","way","word"] []++(fG (st 124) "_law_heard" (ak "law_nn0080_01" 1725) .none 773 1 3 1177 1753 ["ask"] []++(fG (st 125) "_law_read_right" (ak "law_nn0080_01" 1725) .none 778 2 3 1184 1760 ["octets","ahead","due","heard"] ["octets","ahead"]++(fG (st 126) "_law_any_right" (ak "law_nn0080_01" 1725) .none 783 1 3 1191 1772 ["script","some","octets","spot","pick"] []++(fG (st 127) "_law_made_right" (ak "law_nn0080_01" 1725) .none 790 1 3 1198 1783 ["script","pick","word","is_data","repeat","is_lock","bits","rex","made","row","told"] []++(fG (st 128) "_law_turned" (ak "law_nn0080_01" 1725) .none 808 2 3 1205 1800 ["row","pick","rest","found","spot"] []++(fG (st 129) "_law_name" (ak "law_nn0080_01" 1725) .none 814 3 3 1212 1811 ["number","size","has_rex"] []++(fG (st 130) "_law_line" (ak "law_nn0080_01" 1725) .none 816 1 3 1219 1820 ["script","pick","digit","size","word","is_lock","base","number","idle","rex","has_rex","disp","legacy","tail","place","due"] []++(fG (st 131) "_law_refused" (ak "law_nn0080_01" 1725) .none 832 2 3 1226 1842 ["iset","octets"] ["iset","octets"]++(fH (st 132) "_law_decoded_right" (ak "law_nn0080_01" 1725) .none 834 2 3 1233 1852++(fG (st 133) "law" (ak "law_nn0080_01" 1725) .none 857 1 3 1238 1858 ["script","iset"] []))))))))))))))))))))))))))))))))))))))))))))))))))))
noncomputable def l1(P:Params):List Obj:=g1 P
noncomputable def S1(w:World)(os:OsState):SharedT:=⟨Ls 12 (boot_o_0 w.params::boot_o_1 w.params::dO .none 2 (GC w.params)::dO (.type "dict") 38 ((pK w.params (ak "octetmint.forms" 483)).take 38)::boot_o_4 w.params::boot_o_5 w.params::boot_o_6 w.params::boot_o_7 w.params::boot_o_8 w.params::boot_o_9 w.params::boot_o_10 w.params::Lm::fO (wL.take 57)::Ly::LA::l1 w.params),234,(boot_heap w.params).life,#[],boot_drawn,491,os⟩
noncomputable def l2(P:Params):List Obj:=(g1 P++(g2 P)).set 502 (M0 [.ref 552,.ref 586])
noncomputable def S2(w:World)(os:OsState):SharedT:=⟨Ls 12 (boot_o_0 w.params::boot_o_1 w.params::dO .none 2 (GC w.params)::dO (.type "dict") 69 ((pK w.params (ak "octetmint.operands" 793)).take 69)::boot_o_4 w.params::boot_o_5 w.params::boot_o_6 w.params::boot_o_7 w.params::boot_o_8 w.params::boot_o_9 w.params::boot_o_10 w.params::Lm::fO (wL.take 147)::Ly::LA::l2 w.params),589,(boot_heap w.params).life,#[],boot_drawn,926,os⟩
noncomputable def l3(P:Params):List Obj:=g1 P++(g2 P++(g3 P))
noncomputable def S3(w:World)(os:OsState):SharedT:=⟨Ls 12 (boot_o_0 w.params::boot_o_1 w.params::dO .none 2 (GC w.params)::dO (.type "dict") 100 ((pK w.params (ak "octetmint.decoder" 1330)).take 100)::boot_o_4 w.params::boot_o_5 w.params::boot_o_6 w.params::boot_o_7 w.params::boot_o_8 w.params::boot_o_9 w.params::boot_o_10 w.params::Lm::fO (wL.take 198)::Ly::LA::l3 w.params),885,(boot_heap w.params).life,#[],boot_drawn,1342,os⟩
noncomputable def l4(P:Params):List Obj:=g1 P++(g2 P++(g3 P++(g4 P)))
noncomputable def S4(w:World)(os:OsState):SharedT:=⟨Ls 12 (boot_o_0 w.params::boot_o_1 w.params::dO .none 2 (GC w.params)::dO (.type "dict") 133 ((pK w.params (ak "law_nn0080_01" 1725)).take 133)::boot_o_4 w.params::boot_o_5 w.params::boot_o_6 w.params::boot_o_7 w.params::boot_o_8 w.params::boot_o_9 w.params::boot_o_10 w.params::Lm::fO (wL.take 297)::Ly::LA::l4 w.params),1245,(boot_heap w.params).life,#[],boot_drawn,1866,os⟩
noncomputable def p1:Pos:=⟨158,0,158,8⟩
theorem P2(w:World)(os:OsState):segRunT treeTable pw w 11 (some (.ref 6)) 1 1837 (Sb w os) (piecesOf (bE.take 32) uS cE mF [topFrame mF])=some (.next,S1 w os,cE,p1):=by
 rw[PySem.W.Fast.te10110043849684766642,PySem.W.Fast.te14364793385576792824]
 kernel_rfl
noncomputable def p2:Pos:=⟨333,0,344,24⟩
theorem R7(w:World)(os:OsState):segRunT treeTable pw w 11 (some (.ref 6)) 1 2173 (S1 w os) (piecesOf ((bE.drop 32).take 33) uS cE p1 [topFrame mF])=some (.next,S2 w os,cE,p2):=by
 rw[PySem.W.Fast.te10110043849684766642,PySem.W.Fast.te14364793385576792824]
 kernel_rfl
noncomputable def p3:Pos:=⟨528,0,528,8⟩
theorem PZ(w:World)(os:OsState):segRunT treeTable pw w 11 (some (.ref 6)) 1 2079 (S2 w os) (piecesOf ((bE.drop 65).take 34) uS cE p2 [topFrame mF])=some (.next,S3 w os,cE,p3):=by
 rw[PySem.W.Fast.te10110043849684766642,PySem.W.Fast.te14364793385576792824]
 kernel_rfl
noncomputable def p4:Pos:=⟨857,0,859,98⟩
theorem QS(w:World)(os:OsState):segRunT treeTable pw w 11 (some (.ref 6)) 1 2103 (S3 w os) (piecesOf (bE.drop 99) uS cE p3 [topFrame mF])=some (.next,S4 w os,cE,p4):=by
 rw[PySem.W.Fast.te10110043849684766642,PySem.W.Fast.te14364793385576792824]
 kernel_rfl
theorem QT(w:World)(os:OsState):topRun treeTable pw w 11 (some (.ref 6)) 60 (S4 w os).abs (restOf [] uS cE p4 [topFrame mF])=some (S4 w os).abs:=by kernel_rfl
theorem Ak:bE.take 32++((bE.drop 32).take 33++((bE.drop 65).take 34++(bE.drop 99++[])))=bE:=by
 have a:=List.take_append_drop 34 (bE.drop 65)
 have b:=List.take_append_drop 33 (bE.drop 32)
 rw[List.drop_drop]at a b
 rw[List.append_nil,a,b,List.take_append_drop]
theorem PR(w:World)(os:OsState):topRun treeTable pw w 11 (some (.ref 6)) (12+(1+(1837+(2173+(2079+(2103+60)))))) ⟨boot_heap w.params,Array.mk [],boot_drawn,boot_toks,os⟩ (topStub pw)=some (S4 w os).abs:=by
 refine go_top (pre w os) ?_
 refine piece_block (Oi w os) ?_
 rw[←Ak]
 exact piece_app (segRun_of (P2 w os)) (piece_app (segRun_of (R7 w os)) (piece_app (segRun_of (PZ w os)) (piece_app (segRun_of (QS w os)) (QT w os))))
theorem Pd(w:World)(os:OsState):(staticsOk (importedModules pw.main.body) (boot_heap w.params) (S4 w os).abs.heap&&namesBound pw (S4 w os).abs.heap&&gensDone (S4 w os).abs&&laidKept (boot_heap w.params) (S4 w os).abs.heap)=true:=by kernel_rfl
theorem PE(w:World)(os:OsState):openSeen q0 mx (importedModules pw.main.body) (fun _=>true) true (S4 w os).abs=openGood q0 mx:=by kernel_rfl
section
noncomputable def DU(n:Nat)(t:BT)(a:Nat):Option Obj:=bO (Nat.blt a n) (oO (t.get a) alive)
noncomputable def gu(n:Nat)(t:BT):List Nat→Frag
 |[]=>[]
 |a::r=>oX (DU n t a) (fun o=>(a,o)::gu n t r) (gu n t r)
theorem kg{a b:Nat}(h:Nat.blt a b=true):a < b:=Nat.le_of_ble_eq_true h
theorem om{K:Frag}{o:Option Obj}{a b:Addr}:List.lookup a (oX o (fun o=>(b,o)::K) K)=bX (a==b) (oX o some (K.lookup a)) (K.lookup a):=by
  cases o with
  |none=>cases a==b <;> rfl
  | some o=>
    show List.lookup a ((b,o)::K)=_
    rw[List.lookup_cons]
    cases a==b <;> rfl
theorem Bu{n:Nat}{t:BT}{life:Life}(as:List Nat):(gu n t as).In (absHeap t n life):=by
  induction as with
  |nil=>exact fun a o e=>nomatch e
  | cons b r ih=>
    intro a o e
    have e:=om.symm.trans e
    refine gK e (fun q e=>cP e (fun x ex e=>?_) fun _ e=>ih a o e) fun _ e=>ih a o e
    refine bQ ex fun hb ex=>au ex fun o1 h1 h2=>?_
    rw[eq_of_beq q,←ae e,abs_get (kg hb) h1,h2]
theorem j6{n:Nat}{t:BT}{x:Nat}{o:Obj}(hx:x < n)(hg:t.get x=some o)(ha:alive o=some o){as:List Nat}(h:x∈as):(gu n t as).lookup x=some o:=by
  have hf:DU n t x=some o:=by
    unfold DU
    rw[show Nat.blt x n=true from Nat.ble_eq_true_of_le hx,hg];exact ha
  induction as with
  |nil=>cases h
  | cons b r ih=>
    refine om.trans ?_
    cases q:x==b with
    |true=>rw[←eq_of_beq q,hf];rfl
    |false=>exact ih ((List.mem_cons.mp h).resolve_left fun e=>by rw[e,beq_self_eq_true]at q;cases q)
noncomputable def K1(g:Nat→Option Obj)(v:Value):Option (List (Option V)):=bX (CQ v) (some []) (oO (CP v) fun d=>bO (yu.contains d) (oO (g d) fun o=>oO (oV o) fun xs=>some (xs.toList.map Nf)))
noncomputable def DL(o:Obj)(q:Str):Bool:=match o with
 |⟨_,_,.fields vs,_⟩=>(match vs.toList with|_::.str n _::_=>n==q|_=>false)
 |_=>false
noncomputable def Ik(g:Nat→Option Obj)(a:Nat)(f:FuncData):Bool:=ay (f.code==.ref (a - 1)) (oB (g (a - 1)) fun o=>DL o f.qualname)
noncomputable def xw(g:Nat→Option Obj)(a:Addr):Option fv:=oO (g a) fun o=>oO (pj o) fun f=>some (lA (Ik g a f) (K1 g f.defaults) f)
theorem yh{o:Obj}{xs:Array Value}(h:oV o=some xs):alive o=some o:=by
 obtain⟨c,d,dt,sl⟩:=o
 cases dt <;> first|rfl|cases h
theorem zE{o:Obj}{f:FuncData}(h:pj o=some f):alive o=some o:=by
 obtain⟨c,d,dt,sl⟩:=o
 cases dt <;> first|rfl|cases h
theorem we{o:Obj}{q:Str}(h:DL o q=true):alive o=some o:=by
 obtain⟨c,d,dt,sl⟩:=o
 cases dt <;> first|rfl|cases h
theorem yZ{K:Frag}{c:Addr}{o:Obj}{q:Str}(h:K.lookup c=some o):codeIn K (.ref c) q=DL o q:=by
 unfold codeIn
 dsimp only
 rw[h]
 obtain⟨c,d,dt,sl⟩:=o
 cases dt <;> rfl
section
variable {n:Nat}{t:BT}{as:List Nat}
theorem L3{v:Value}{l:List (Option V)}(h:K1 t.get v=some l)(h3:∀d∈yu,d∈as∧d < n):mq (gu n t as) v=some l:=by
 unfold mq
 refine gK h (fun e h=>by rw[e];exact h) fun e h=>au h fun d ed h=>bQ h fun hc h=>au h fun o ho h=>au h fun xs hx h=>?_
 have q:=h3 d (List.contains_iff_mem.mp hc)
 rw[e,ed]
 show oO ((gu n t as).lookup d) _=_
 rw[j6 (as:=as) q.2 ho (yh hx) q.1]
 show oO (oV o) _=_
 rw[hx];exact h
theorem B9{a:Addr}{i:af}(h:xw t.get a=nu i)(h1:a∈as)(h2:a - 1∈as)(h3:∀d∈yu,d∈as∧d < n)(h4:a < n):pv (gu n t as) a=nu i:=by
 refine au h fun o ho h=>au h fun f hf h=>?_
 have hl:(gu n t as).lookup a=some o:=j6 h4 ho (zE hf) h1
 have e4:K1 t.get f.defaults=some (i.ds.map some):=congrArg (fun z:fv=>z.2.2.2.1) (ae h)
 have e8:Ik t.get a f=true:=congrArg (fun z:fv=>z.2.2.2.2.getD 7 false) (ae h)
 have g8:codeIn (gu n t as) f.code f.qualname=true:=ar e8 fun q g=>jI g fun o' ho' g=>by
  rw[eq_of_beq q,yZ (j6 (Nat.lt_of_le_of_lt (Nat.sub_le _ _) h4) ho' (we g) h2)];exact g
 unfold pv
 rw[hl]
 show oO (pj o) _=_
 rw[hf]
 show some (lA (codeIn (gu n t as) f.code f.qualname) (mq (gu n t as) f.defaults) f)=_
 rw[g8,L3 e4 h3,←e4,←e8]
 exact h
end
noncomputable abbrev Sf:OsState:=(start (opening pw)).1.os
noncomputable abbrev TF(w:World):BT:=(S4 w Sf).tree
noncomputable abbrev HF(w:World):Heap:=absHeap (TF w) 1245 (boot_heap w.params).life
noncomputable abbrev KF(w:World):Frag:=gu 1245 (TF w) H5
theorem Pu(w:World):vV.list.map (fun p=>xw (TF w).get p.1)=vV.list.map (fun p=>nu p.2):=by kernel_rfl
theorem QP(w:World):lT.list.map (fun p=>Ei (HF w) p.2)=lT.list.map (fun p=>D7 p.2):=by kernel_rfl
theorem QZ(w:World):JO (KF w)=true:=by kernel_rfl
theorem Qk(w:World):(uk (KF w),O5 (KF w))=(u0,true):=by kernel_rfl
theorem Pe(w:World):iF.map (qJ (HF w) (KF w))=iF.map qI:=by kernel_rfl
theorem Pq(w:World):(((HF w).nsMap mainGlobals "Exception").isNone,(HF w).nsMap builtinsNs "Exception",((HF w).get? sysModules).isSome,(HF w).isNs mainGlobals,(HF w).isNs builtinsNs,(HF w).isNs cStatics,(HF w).nsMap cStatics "sys.recursionlimit")=(true,some (Value.type "Exception"),true,true,true,true,none):=by kernel_rfl
theorem Ng:(vV.list.all fun p=>Nat.blt p.1 1245)=true:=by kernel_rfl
theorem Nc:(yu.all fun d=>Nat.blt d 1245)=true:=by kernel_rfl
theorem OC(w:World):dM (HF w) (KF w):=by
 refine a7 (Prod.mk.inj (Pq w)) fun e7 e=>?_
 refine a7 (Prod.mk.inj e) fun e8 e=>?_
 refine a7 (Prod.mk.inj e) fun e9 e=>?_
 refine a7 (Prod.mk.inj e) fun e10 e=>?_
 refine a7 (Prod.mk.inj e) fun e11 e=>?_
 refine a7 (Prod.mk.inj e) fun e12 e13=>?_
 refine a7 (Prod.mk.inj (Qk w)) fun e4 e6=>?_
 have hd:∀d∈yu,d∈H5∧d < 1245:=fun d hd=>⟨List.mem_append_right _ hd,kg (List.all_eq_true.mp Nc d hd)⟩
 exact⟨Bu _,List.map_inj_left.mp (Pe w),fun p hp=>B9 (List.map_inj_left.mp (Pu w) p hp) (List.mem_append_left _ (List.mem_append_right _ (List.mem_flatMap.mpr ⟨p,hp,.head _⟩))) (List.mem_append_left _ (List.mem_append_right _ (List.mem_flatMap.mpr ⟨p,hp,.tail _ (.head _)⟩))) hd (kg (List.all_eq_true.mp Ng p hp)),
  List.map_inj_left.mp (QP w),e4,QZ w,e6,Option.isNone_iff_eq_none.mp e7,e8,Option.isSome_iff_exists.mp e9,.of_isNs e10,.of_isNs e11,.of_isNs e12,e13⟩
end
abbrev rowL:OpenRow:=PySem.Challenge.rw_nn0080_01.row
theorem Mg(w:World){h:Heap}{K:Frag}(S:dM h K){h':Heap}(hk:∀b o,h.get? b=some o→h'.get? b=some o){mg:bG}(hg:h'.Ns mainGlobals mg){fa:Addr}(hm:mg "law"=some (.ref fa)):fa=1244:=by
 have q:mg=h.nsMap mainGlobals:=by rw[hg.eq_nsMap,(S.ns.keeps hk).eq_nsMap.symm]
 have g:G0 "law"=some (.glob 1244):=by kernel_rfl
 refine aq (HY S _ _ g) fun r h1 h2=>?_
 have r1:=h1 (pm w TI) (fun _ _=>False) []
 cases r1
 rcases h2 with h2|⟨h2,_⟩
 ·rw[←q,hm]at h2;cases h2;rfl
 ·rw[←q,hm]at h2;cases h2
set_option tactic.hygienic true in
theorem LW{d:DefRec}{kwd:List (Str×Expr)}(hn:d.name="law"):WalkO q0 mx (fun _ _=>True) (fun w h=>∀b o,(HF w).get? b=some o→h.get? b=some o) rowL.toRowW d kwd fun f vs=>PySem.call f vs:=by
  intro w s₀ s₁ mg mb G Y fa o pm cd doc dV kV ho hd hcd hD hmg hg args vals as hpre hlay hrd hwl hlo
  have hk:=Y
  have S:=OC w
  wrow_args hpre hlay hrd hwl hlo
  rename_i xs _ _ _ _ _ _ _ La rs _ hL _ hW _ hI _ hc _
  rw[hn]at hmg
  obtain rfl:=Mg w S hk G.T.g hmg
  refine PN G.T.bmain fun bm ob b1 b2 b3 b4 b5 b6=>?_
  have hL:s₁.heap.get? La=some (aA rs 0):=by
    obtain⟨o',g1,_,n,g2⟩:=hL
    have ho:ofPy (PyData.list (List.map PyData.int xs))=.list (ofPys (List.map PyData.int xs)):=by rw[ofPy]
    rw[ho]at hW
    cases hW with
    | list q _=>
      rw[q]at g1
      cases g1
      cases g2
      rw[q]
  refine enter_call (codeAny_mono (BM S hk ⟨mg,bm,ob,G.T.g,b1,b2,b3,b4,b5,b6⟩ hL hI (by lia) rfl rfl (by decide) (by decide)) fun r s' z=>?_)
  rcases r with _|(v|_|_|_)
  · exact z.elim
  all_goals first|exact z.elim|skip
  refine ym z fun rq0 ok hos hgs=>?_;subst rq0
  exact⟨.inl ⟨.bool true,.bool true,[],rfl,fun _=>rfl,.bool true,by wrow_post,fun _=>⟨List.nodup_nil,fun _ q=>(nomatch q)⟩⟩,ok,hos,fun y hy=>by rw[hgs,hg]at hy;simp at hy⟩
theorem Mc:LeftO rowL.prog q0 mx (fun _=>true) (fun s=>s.heap) HF 9000:=fun w=>by
 refine HG (boot_open LI (by decide) JI w) (OE w.params) (M:=12+(1+(1837+(2173+(2079+(2103+60)))))) (by decide) fun os=>⟨(S4 w os).abs,PR w os,Pd w os,PE w os,rfl⟩
theorem row_holds(said:rowL.wellSaid=true):rowL.Holds:=by
 refine holds_open (r:=rowL) (q:=q0) (loose:=mx) (Xt:=fun _=>true) (XP:=fun _ _=>True) (Yf:=fun s=>s.heap) (Ya:=HF) (YP:=fun w h=>∀b o,(HF w).get? b=some o→h.get? b=some o) (N:=9000) Mc
  (fun _ s e b o q=>by rw[e];exact q) (fun _ h h' k k' b o q=>k' b o (k b o q)) (fun _ _=>trivial) (fun _ _ _ _ _=>trivial) (by rfl) (by rfl) (by rfl) (fun s _=>recFacts_nil rfl) (by rfl) said (by decide +kernel) ⟨rfl,rfl,rfl,rfl,rfl,by decide +kernel⟩ ?hw (LW rfl)
 case hw=>w_witness2
theorem law_said:OpenLaw.wellSaid PySem.Challenge.rw_nn0080_01=true:=by
 rw[Fast.te9446332074065402090]
 unfold Fast.tw9446332074065402090 Fast.tw17960256430627541270 Fast.tw2436336058641802641 Fast.tw12908688711261696721
 repeat' (with_reducible refine look_both ?_ ?_)
 all_goals decide +kernel
end Mine
theorem PySem.Challenge.cw_nn0080_01_holds : PySem.Challenge.rw_nn0080_01.Holds := by
 exact holds_law Mine.law_said Mine.row_holds
