import PyProof.Rows.All
import Wide.All
import OpenK.AllK
import Wide.FinOn
import Lean
import PySem.Challenge.RW_nn0080_01
set_option Elab.async false
set_option maxRecDepth 1000000
set_option maxHeartbeats 0
set_option genSizeOfSpec false
set_option genInjectivity false
set_option genSizeOf false
set_option bootstrap.genMatcherCode false
set_option tactic.hygienic false
set_option linter.all false
open PySem PySem.W PySem.Calls PyProof.Rows
namespace Mine
noncomputable abbrev pw:=PySem.Challenge.pw_nn0080_01
noncomputable def n6:Pos:={line:=0,col:=0,endLine:=0,endCol:=0}
noncomputable def xx:Env:={scope:=pw.main.scope,locals:=mainNs,globals:=mainNs,cells:=[],code:=.ref 13,frame:=some 14}
noncomputable def bE:List Stmt:=behindTheImports pw
noncomputable def cE:Code:=.body bE xx
noncomputable def NO:Obj:=⟨Value.type "tuple",none,Data.seq #[] 0,#[]⟩
noncomputable def VR:Obj:=⟨Value.none,none,Data.fields #[],#[]⟩
noncomputable def NI:Obj:=⟨Value.type "code",none,
    Data.fields
      #[Value.str (Str.ofString "<module>") 182,Value.str (Str.ofString "<module>") 183,
        Value.str (Str.ofString "/claim/cut.py") 184,Value.int 1 0,Value.int 0 0,Value.int 0 0,Value.int 0 0,
        Value.int 0 0,Value.ref 11,Value.bool false,Value.int 181 0,Value.ref 12,Value.none,Value.none,
        Value.none,Value.none,Value.int 185 0,Value.int 1 0,Value.str (Str.ofString "/claim/cut.py") 186],#[]⟩
noncomputable def NB:Obj:=⟨Value.type "frame",none,.plain,
   #[some (Value.ref 13),some (Value.ref 3),some (Value.ref 3),none,some (Value.str (Str.ofString "__main__") 164),
      none,some (Value.ref 0)]⟩
noncomputable def Ha(P:Params):Heap:=⟨⟨[boot_o_0 P,boot_o_1 P,boot_o_2 P,boot_o_3 P,boot_o_4 P,boot_o_5 P,boot_o_6 P,boot_o_7 P,boot_o_8 P,boot_o_9 P,boot_o_10 P,NO,VR,NI,NB]⟩,(boot_heap P).life⟩
theorem pre(w:World)(os:OsState):topGo treeTable pw w 11 (some (.ref 6)) 12 ⟨boot_heap w.params,#[],boot_drawn,boot_toks,os⟩ (topStub pw)=some (⟨Ha w.params,#[],boot_drawn,187,os⟩,⟨denote treeTable cE,cE,n6,[topFrame n6]⟩):=by kernel_rfl
noncomputable def Ta(P:Params):BT:=((((((((((((((BT.nil.ins 0 (boot_o_0 P)).ins 1 (boot_o_1 P)).ins 2 (boot_o_2 P)).ins 3 (boot_o_3 P)).ins 4 (boot_o_4 P)).ins 5 (boot_o_5 P)).ins 6 (boot_o_6 P)).ins 7 (boot_o_7 P)).ins 8 (boot_o_8 P)).ins 9 (boot_o_9 P)).ins 10 (boot_o_10 P)).ins 11 NO).ins 12 VR).ins 13 NI).ins 14 NB
noncomputable def Sb(w:World)(os:OsState):SharedT:=⟨Ta w.params,15,(boot_heap w.params).life,#[],boot_drawn,187,os⟩
theorem OQ(w:World)(os:OsState):segRun treeTable pw w 11 (some (.ref 6)) 1 1 ⟨Ha w.params,#[],boot_drawn,187,os⟩ (blockOf bE xx cE n6 [topFrame n6])=some (.next,(Sb w os).abs,cE,n6):=by kernel_rfl
section
set_option backward.match.sparseCases false
structure zr where
 code:Addr
 P:Addr
 key:Str
 line:Nat
 col:Nat
 fn:Str
noncomputable def zr.qual(l:zr):Str:=l.fn++(".<locals>.":Str)++("<lambda>":Str)
noncomputable def jv:List zr:=[⟨1189,1185,"ahead",779,47,"_law_read_right"⟩,⟨1231,1227,"iset",833,22,"_law_refused"⟩]
inductive Bi where
 |len|append|extend|pop|split|lstrip|any|get
noncomputable def Bi.name:Bi→String
 |.len=>"len"
 |.append=>"list.append"
 |.extend=>"list.extend"
 |.pop=>"list.pop"
 |.split=>"str.split"
 |.lstrip=>"str.lstrip"
 |.any=>"any"
 |.get=>"dict.get"
inductive Ti where
 |int|str|bytes|list|tuple|range|zip|enumerate
noncomputable def Ti.name:Ti→String
 |.int=>"int"
 |.str=>"str"
 |.bytes=>"bytes"
 |.list=>"list"
 |.tuple=>"tuple"
 |.range=>"range"
 |.zip=>"zip"
 |.enumerate=>"enumerate"
inductive V where
 |none
 |bool (k b:Bool)
 |int (k:Bool) (x:Int)
 |str (k:Bool) (s:Str)
 |bytes (k:Bool) (xs:List Int)
 |irow (k:Bool) (xs:List Int)
 |tup (vs:List V)
 |inst (C:Addr) (fs:List (Str×V))
 |list (vs:List V)
 |dict (es:List (V×V))
 |ref (i:Nat)
 |glob (a:Addr)
 |blt (s:Bi)
 |typ (s:Ti)
 |named (k:Nat)
 |rng (k:Bool) (n:Int)
inductive O where
 |list (vs:List V)
 |dict (es:List (V×V))
 |inst (C:Addr) (d:Nat)
 |ns (fs:List (Str×V))
 |frz (v:V)
inductive Tr where
 |nil
 |node (v:Option O) (l r:Tr)
namespace Tr
noncomputable def get:Tr→Nat→Option O
  |.nil,_=>none
  | .node v l r,i=>match Nat.beq i 0 with
    |true=>v
    | false=>match Nat.beq (i % 2) 1 with
      |true=>l.get (i / 2)
      |false=>r.get (i / 2 - 1)
noncomputable def set:Tr→Nat→Option O→Tr
  |.nil,_,_=>.nil
  | .node v l r,i,o=>match Nat.beq i 0 with
    |true=>.node o l r
    | false=>match Nat.beq (i % 2) 1 with
      |true=>.node v (l.set (i / 2) o) r
      |false=>.node v l (r.set (i / 2 - 1) o)
noncomputable def ins:Tr→Nat→O→Tr
  |.nil,_,o=>.node (some o) .nil .nil
  | .node v l r,i,o=>match Nat.beq i 0 with
    |true=>.node (some o) l r
    | false=>match Nat.beq (i % 2) 1 with
      |true=>.node v (l.ins (i / 2) o) r
      |false=>.node v l (r.ins (i / 2 - 1) o)
end Tr
noncomputable def oP{α:Type}(o:Option α)(K:α→Prop):Prop:=match o with
 |some x=>K x
 |none=>False
noncomputable def oE{α:Type}(o:Option α)(K:α→Prop)(L:Prop):Prop:=match o with
 |some x=>K x
 |none=>L
noncomputable def bP(b:Bool)(P:Prop):Prop:=match b with
 |true=>P
 |false=>False
noncomputable def iE(b:Bool)(P Q:Prop):Prop:=match b with
 |true=>P
 |false=>Q
noncomputable def oX{α β:Type}(o:Option α)(f:α→β)(g:β):β:=match o with
 |some x=>f x
 |none=>g
noncomputable def oO{α β:Type}(o:Option α)(f:α→Option β):Option β:=oX o f none
noncomputable def oB{α:Type}(o:Option α)(f:α→Bool):Bool:=oX o f false
noncomputable def bX{β:Type}(b:Bool)(x y:β):β:=match b with
 |true=>x
 |false=>y
noncomputable def bO{β:Type}(b:Bool)(x:Option β):Option β:=bX b x none
noncomputable def vB(v:V):Option (Bool×Bool):=match v with
 |.bool k x=>some (k,x)
 |_=>none
noncomputable def vI(v:V):Option (Bool×Int):=match v with
 |.int k x=>some (k,x)
 |_=>none
noncomputable def vS(v:V):Option (Bool×Str):=match v with
 |.str k x=>some (k,x)
 |_=>none
noncomputable def vY(v:V):Option (Bool×List Int):=match v with
 |.bytes k x=>some (k,x)
 |_=>none
noncomputable def vW(v:V):Option (Bool×List Int):=match v with
 |.irow k x=>some (k,x)
 |_=>none
noncomputable def vT(v:V):Option (List V):=match v with
 |.tup x=>some x
 |_=>none
noncomputable def vL(v:V):Option (List V):=match v with
 |.list x=>some x
 |_=>none
noncomputable def vD(v:V):Option (List (V×V)):=match v with
 |.dict x=>some x
 |_=>none
noncomputable def vN(v:V):Option (Addr×List (Str×V)):=match v with
 |.inst C x=>some (C,x)
 |_=>none
noncomputable def vR(v:V):Option Nat:=match v with
 |.ref x=>some x
 |_=>none
noncomputable def vG(v:V):Option Addr:=match v with
 |.glob x=>some x
 |_=>none
noncomputable def vM(v:V):Option Nat:=match v with
 |.named x=>some x
 |_=>none
noncomputable def vQ(v:V):Option (Bool×Int):=match v with
 |.rng k x=>some (k,x)
 |_=>none
noncomputable def R4(v:V):Option Ti:=match v with
 |.typ x=>some x
 |_=>none
noncomputable def AW(v:V):Bool:=match v with
 |.none=>true
 |_=>false
noncomputable def oL(o:Option O):Option (List V):=oO o fun x=>match x with
 |.list x=>some x
 |_=>none
noncomputable def oD(o:Option O):Option (List (V×V)):=oO o fun x=>match x with
 |.dict x=>some x
 |_=>none
noncomputable def oI(o:Option O):Option (Addr×Nat):=oO o fun x=>match x with
 |.inst C d=>some (C,d)
 |_=>none
noncomputable def oN(o:Option O):Option (List (Str×V)):=oO o fun x=>match x with
 |.ns x=>some x
 |_=>none
noncomputable def oF(o:Option O):Option V:=oO o fun x=>match x with
 |.frz x=>some x
 |_=>none
noncomputable def xW:List V→Option V
  |[]=>none
  | a::r=>match r with
    |[]=>some a
    |_::_=>none
noncomputable def GI:List V→Option (V×V)
 |[]=>none
 |a::r=>oO (xW r) fun b=>some (a,b)
noncomputable def NN:List V→Option (V×V×V)
 |[]=>none
 |a::r=>oO (GI r) fun b=>some (a,b)
noncomputable def V7:List V→Option (V×V×V×V)
 |[]=>none
 |a::r=>oO (NN r) fun b=>some (a,b)
noncomputable def pM(x:Int):Option Nat:=match x with
 |.ofNat n=>some n
 |.negSucc _=>none
noncomputable def ju{α:Type}(l:List α):Bool:=match l with
 |[]=>true
 |_::_=>false
noncomputable def gW:List Nat→List Nat→Bool
  |[],l=>ju l
  | a::x,l=>match l with
    |[]=>false
    |b::y=>bX (Nat.beq a b) (gW x y) false
noncomputable def aS(a b:Str):Bool:=gW a.cps.toList b.cps.toList
noncomputable def lk{α:Type}(x:Str):List (Str×α)→Option α
 |[]=>none
 |p::r=>bX (aS x p.1) (some p.2) (lk x r)
noncomputable def put{α:Type}(x:Str)(v:α):List (Str×α)→List (Str×α)
 |[]=>[(x,v)]
 |(y,u)::r=>bX (aS x y) ((y,v)::r) ((y,u)::put x v r)
structure bb where
 tr:Tr
 nx:Nat
structure St where
 fm:List (Str×V)
 ob:bb
noncomputable def bz(k b:Bool)(p q:Prop):Prop:=match k with
  | true=>match b with
    |true=>p
    |false=>q
  |false=>(b=true→p)∧(b=false→q)
noncomputable def aH(a b:Bool):Bool:=match a with
 |true=>b
 |false=>false
noncomputable def small(n:Nat):Bool:=Nat.blt n 18446744073709551616
noncomputable def bN(n:Nat):Bool:=Nat.ble n 1000
noncomputable def fS(k b:Bool)(p:Prop):Prop:=match k with
  | true=>match b with
    |true=>p
    |false=>False
  |false=>b=true∧p
noncomputable def c5(b:Bool):Bool:=match b with
 |true=>false
 |false=>true
noncomputable def rM(op:Operator)(k:Bool)(x y:Int):Option V:=match op with
 |.Add=>some (.int k (x+y))
 |.Sub=>some (.int k (x - y))
 |.BitAnd=>some (.int k (Builtin.bitAnd x y))
 |.BitOr=>some (.int k (Builtin.bitOr x y))
 |_=>none
noncomputable def s8(op:Operator)(k:Bool)(x:Int)(n:Nat)(K:V→Prop):Prop:=match op with
 |.FloorDiv=>bP (c5 (Nat.beq n 0)) (bP (small n) (K (.int k (x.fdiv (Int.ofNat n)))))
 |.Mod=>bP (c5 (Nat.beq n 0)) (K (.int k (x.fmod (Int.ofNat n))))
 |.Mult=>bP (small n) (K (.int k (x*Int.ofNat n)))
 |.RShift=>K (.int k (x.fdiv (2 ^ n)))
 |.LShift=>bP (bN n) (fS k (small x.natAbs) (K (.int k (x*2 ^ n))))
 |op=>oP (rM op k x (Int.ofNat n)) K
noncomputable def Mr(x:Int):Bool:=decide (0 < x)
noncomputable def bJ{α:Type}:List α→List α→List α
 |[],l=>l
 |x::r,l=>x::bJ r l
noncomputable def G5(p:Bool×Int):Option Nat:=bO p.1 (pM p.2)
noncomputable def Kt(op:Operator)(p q:Bool×Int)(K:V→Prop):Prop:=match op with
 |.Mult=>oP (G5 p) fun n=>bP (small n) (K (.int q.1 (Int.ofNat n*q.2)))
 |.Mod=>fS false (Mr q.2) (K (.int (aH p.1 q.1) (p.2.fmod q.2)))
 |op=>oP (rM op (aH p.1 q.1) p.2 q.2) K
noncomputable def PL(op:Operator):Bool:=match op with
 |.Add=>true
 |_=>false
noncomputable def VK(a b:V):Option ((Bool×Int)×(Bool×Int)):=oO (vI a) fun p=>oO (vI b) fun q=>some (p,q)
noncomputable def VU(a b:V):Option ((Bool×Str)×(Bool×Str)):=oO (vS a) fun p=>oO (vS b) fun q=>some (p,q)
noncomputable def WH(a b:V):Option ((Bool×List Int)×(Bool×List Int)):=oO (vY a) fun p=>oO (vY b) fun q=>some (p,q)
noncomputable def Cb(op:Operator)(a b:V)(K:V→Prop):Prop:=oE (VK a b) (fun p=>oE (G5 p.2) (fun n=>s8 op p.1.1 p.1.2 n K) (Kt op p.1 p.2 K))
 (oP (VU a b) fun p=>bP (PL op) (fS (aH p.1.1 p.2.1) (bN (p.1.2.length+p.2.2.length)) (K (.str (aH p.1.1 p.2.1) (p.1.2++p.2.2)))))
noncomputable def bH{α:Type}(f:α→Bool):List α→Bool
 |[]=>true
 |x::r=>bX (f x) (bH f r) false
noncomputable def V3(c:Nat):Bool:=Nat.blt c 1114112
noncomputable def JJ(s:Str):Bool:=bH V3 s.cps.toList
noncomputable def k8{α β:Type}(f:α→Option β):List α→Option (List β)
 |[]=>some []
 |x::r=>oO (f x) fun y=>oO (k8 f r) fun l=>some (y::l)
noncomputable def eR:List Int→List PyData
 |[]=>[]
 |x::r=>.int x::eR r
noncomputable def Sq(ob:Tr)(n:Nat):V→Option PyData:=@Nat.rec (fun _=>V→Option PyData) (fun _=>none) (fun _ f v=>match v with
 |.none=>some .none
 |.bool _ b=>some (.bool b)
 |.int _ x=>some (.int x)
 |.str _ x=>some (.str x)
 |.irow _ xs=>some (.list (eR xs))
 |.tup vs=>oO (k8 f vs) fun l=>some (.tuple l)
 |.list vs=>oO (k8 f vs) fun l=>some (.list l)
 |.ref i=>oX (oL (ob.get i)) (fun vs=>oO (k8 f vs) fun l=>some (.list l)) (oO (oF (ob.get i)) f)
 |_=>none) n
noncomputable def n0(ob:Tr)(n:Nat):V→Bool:=@Nat.rec (fun _=>V→Bool) (fun _=>false) (fun _ f v=>match v with
 |.none=>true
 |.bool k _=>k
 |.int k _=>k
 |.str k _=>k
 |.tup vs=>bH f vs
 |.list vs=>bH f vs
 |.ref i=>oX (oL (ob.get i)) (bH f) (oB (oF (ob.get i)) f)
 |_=>false) n
noncomputable def RL(f:PyData→PyData→Bool):List PyData→List PyData→Bool
  |[],l=>ju l
  | x::a,l=>match l with
    |[]=>false
    |y::b=>bX (f x y) (RL f a b) false
noncomputable def gy(n:Nat):PyData→PyData→Bool:=@Nat.rec (fun _=>PyData→PyData→Bool) (fun d e=>PyData.eqv d e) (fun _ f d e=>match d with
  | .str x=>match e with
    |.str y=>aS x y
    |_=>false
  | .int x=>match e with
    |.int y=>x==y
    |e=>PyData.eqv (.int x) e
  | .tuple a=>match e with
    |.tuple b=>RL f a b
    |_=>false
  | .list a=>match e with
    |.list b=>RL f a b
    |_=>false
  |d=>PyData.eqv d e) n
noncomputable def EO(op:CmpOp)(x y:Int):Option Bool:=match op with
 |.Eq=>some (x==y)
 |.NotEq=>some (x != y)
 |.Lt=>some (decide (x < y))
 |.LtE=>some (decide (x≤y))
 |.Gt=>some (decide (y < x))
 |.GtE=>some (decide (y≤x))
 |_=>none
noncomputable def isNone:V→Option Bool
 |.none=>some true
 |.ref _=>some false
 |.tup _=>some false
 |.inst .. => some false
 |.list _=>some false
 |.dict _=>some false
 |.int .. => some false
 |.str .. => some false
 |.bytes .. => some false
 |.irow .. => some false
 |.bool .. => some false
 |.glob _=>some false
 |_=>none
noncomputable def eK{α:Type}(f:α→Bool):List α→Bool
  |[]=>false
  | x::r=>match f x with
    |true=>true
    |false=>eK f r
noncomputable def dU(g b:Bool):Bool:=match g with
  | true=>match b with
    |true=>false
    |false=>true
  |false=>b
noncomputable def t3(v:V):Option (Int×Int×Int):=oO (vT v) fun vs=>oO (NN vs) fun p=>oO (vI p.1) fun x=>oO (vI p.2.1) fun y=>oO (vI p.2.2) fun z=>some (x.2,y.2,z.2)
noncomputable def bY(a b:V):Bool:=oX (vS a) (fun x=>oB (vS b) fun y=>aS x.2 y.2) (oX (vI a) (fun x=>oB (vI b) fun y=>x.2==y.2) (oB (t3 a) fun x=>oB (t3 b) fun y=>bX (x.1==y.1) (bX (x.2.1==y.2.1) (x.2.2==y.2.2) false) false))
noncomputable def iD(v:V):Bool:=oX (vS v) (fun _=>true) (oX (vI v) (fun _=>true) (oB (t3 v) fun _=>true))
noncomputable def jd(a b:V):Bool:=oX (vS a) (fun _=>oB (vS b) fun _=>true) (oX (vI a) (fun _=>oB (vI b) fun _=>true) (oB (t3 a) fun _=>oB (t3 b) fun _=>true))
noncomputable def qo(ob:Tr)(v:V):Option (List (V×V)):=oX (vD v) some (oO (vR v) fun i=>oX (oD (ob.get i)) some (oO (oF (ob.get i)) vD))
noncomputable def ff(key:V):List (V×V)→Bool
 |[]=>true
 |p::r=>bX (jd key p.1) (ff key r) false
noncomputable def qd(key:V):List (V×V)→Bool
 |[]=>false
 |p::r=>bX (bY key p.1) true (qd key r)
noncomputable def k9(ob:Tr):List (V×V)→Bool
 |[]=>true
 |p::r=>bX (n0 ob 3 p.1) (k9 ob r) false
noncomputable def JM(d:PyData):Option (List PyData):=match d with
 |.list l=>some l
 |.tuple l=>some l
 |_=>none
noncomputable def JI(op:CmpOp)(d e:PyData):Option Bool:=match op with
 |.Eq=>some (gy 8 d e)
 |.NotEq=>some (dU true (gy 8 d e))
 |.In=>oO (JM e) fun l=>some (eK (fun y=>gy 8 y d) l)
 |.NotIn=>oO (JM e) fun l=>some (dU true (eK (fun y=>gy 8 y d) l))
 |_=>none
noncomputable def KA(ob:Tr)(op:CmpOp)(a b:V):Option (Bool×Bool):=oO (Sq ob 8 a) fun d=>oO (Sq ob 8 b) fun e=>oO (JI op d e) fun r=>some (aH (n0 ob 8 a) (n0 ob 8 b),r)
noncomputable def Oy(op:CmpOp)(k r:Bool):Option (Bool×Bool):=match op with
 |.In=>some (k,r)
 |.NotIn=>some (k,dU true r)
 |_=>none
noncomputable def zz(ob:Tr)(op:CmpOp)(a b:V):Option (Bool×Bool):=oX (qo ob b) (fun es=>bO (ff a es) (bO (iD a) (Oy op (aH (n0 ob 3 a) (k9 ob es)) (qd a es)))) (KA ob op a b)
noncomputable def dy:List Int→List Int→Bool
  |[],l=>ju l
  | x::a,l=>match l with
    |[]=>false
    |y::b=>bX (x==y) (dy a b) false
noncomputable def O3(op:CmpOp)(k:Bool)(x y:Str):Option (Bool×Bool):=match op with
 |.Eq=>some (k,aS x y)
 |.NotEq=>some (k,dU true (aS x y))
 |.In=>some (k,dU true (Builtin.Str.occurrences y x 0 y.length 1).isEmpty)
 |_=>none
noncomputable def PZ(op:CmpOp)(x y:List Int):Option (Bool×Bool):=match op with
 |.Eq=>some (false,dy x y)
 |.NotEq=>some (false,dU true (dy x y))
 |_=>none
noncomputable def Qm(op:CmpOp)(a:V):Option (Bool×Bool):=match op with
 |.Is=>oO (isNone a) fun r=>some (true,r)
 |.IsNot=>oO (isNone a) fun r=>some (true,dU true r)
 |_=>none
noncomputable def QT(ob:Tr)(op:CmpOp)(a b:V):Option (Bool×Bool):=oX (VK a b) (fun p=>oO (EO op p.1.2 p.2.2) fun r=>some (aH p.1.1 p.2.1,r)) (oX (VU a b) (fun p=>O3 op (aH p.1.1 p.2.1) p.1.2 p.2.2) (oX (WH a b) (fun p=>PZ op p.1.2 p.2.2)
 (bX (AW b) (Qm op a) (zz ob op a b))))
inductive Fl where
 |next|brk|cont
 |ret (v:V)
structure ag where
 ps:List Str
 ds:List V
 body:List Stmt
 sc:Scope
inductive c6 where
 |fn (f:Addr)
 |own
noncomputable abbrev bM:=List V→(V→Prop)→(Addr→Prop)→Prop
inductive JT where
 |int|bool|str|bit|itemI|itemS
structure df where
 G:Str→Option V
 FI:Addr→Option ag
 C:Addr→Option (Nat×bM)
 CI:Addr→Option Addr
 CM:Addr→Str→Option c6
 CS:Addr→Str→Option Addr
 X:Str→Option Addr
 NM:Nat→Option Addr
 J:Nat→Nat→Option JT
 R:Addr→Prop
structure cb(α:Type) where
 run:St→(α→St→Prop)→Prop
noncomputable def cb.bad{α:Type}:cb α:=⟨fun _ _=>False⟩
noncomputable def oA{α β:Type}(o:Option α)(f:α→cb β):cb β:=oX o f .bad
noncomputable def bA{β:Type}(b:Bool)(a:cb β):cb β:=bX b a .bad
structure Ev where
 ex:Expr→Scope→cb V
 tr:Expr→Scope→cb Bool
 es:List Expr→Scope→cb (List V)
 ss:List Stmt→Scope→cb Fl
 call:V→List V→bb→(V→bb→Prop)→Prop
 ex0:Expr→Scope→cb V
 heard:Addr→List V→bb→(V→bb→Prop)→Prop
noncomputable def cg(sc:Scope)(x:Str):Bool:=oB (lk x sc.names) fun k=>match k with
 |.local=>c5 (aS x "__debug__")
 |.cell=>c5 (aS x "__debug__")
 |_=>false
noncomputable def dn(sc:Scope)(x:Str):Bool:=oB (lk x sc.names) fun k=>match k with
 |.globalImplicit=>c5 (aS x "__debug__")
 |_=>false
noncomputable def wG(e:Expr):Bool:=match e with
 |.Attribute .. => true
 |_=>false
noncomputable def sk(e:Expr):Bool:=match e with
 |.Name .. => true
 |.Attribute .. => true
 |.Subscript .. => true
 |.Dict .. => true
 |.Call f as _ _=>bX (ju as) (wG f) true
 |_=>false
noncomputable def qT(o:Expr)(as:List Expr)(apos pos:Pos):Bool:=aH (sk o) (aH (Nat.blt as.length 30) (apos.endLine==pos.line))
noncomputable def da(o:bb)(i:Nat)(x:O):bb:=⟨o.tr.set i (some x),o.nx⟩
noncomputable def mH(o:bb)(i:Nat):bb:=⟨o.tr.set i none,o.nx⟩
noncomputable def bS(ob:bb)(x:O)(K:V→bb→Prop):Prop:=oP ((ob.tr.ins ob.nx x).get ob.nx) fun _=>K (.ref ob.nx) ⟨ob.tr.ins ob.nx x,ob.nx+1⟩
noncomputable def kq(ob:Tr)(v:V):Option (Bool×List V):=oX (vT v) (fun vs=>some (true,vs)) (oX (vL v) (fun vs=>some (false,vs)) (oO (vR v) fun i=>oX (oL (ob.get i)) (fun vs=>some (false,vs)) (oO (oF (ob.get i)) fun u=>oO (vL u) fun vs=>some (false,vs))))
noncomputable def uq(ob:Tr)(v:V):Option (List V):=oO (kq ob v) fun p=>bO (c5 p.1) (some p.2)
noncomputable def jF:List V→Option (List (Bool×Int))
 |[]=>some []
 |v::r=>oO (vI v) fun p=>oO (jF r) fun l=>some (p::l)
noncomputable def ph:List (Bool×Int)→List Int
 |[]=>[]
 |p::r=>p.2::ph r
noncomputable def HE(ob:Tr)(v:V):Option (Bool×List Int):=oX (vW v) some (oO (uq ob v) fun vs=>oO (jF vs) fun l=>some (true,ph l))
noncomputable def yQ(ob:Tr)(v:V):Option (Addr×List (Str×V)):=oX (vN v) some (oO (vR v) fun i=>oX (oI (ob.get i)) (fun p=>oO (oN (ob.get p.2)) fun fs=>some (p.1,fs)) (oO (oF (ob.get i)) vN))
noncomputable def xq(v:V):Option (Bool×Bool):=match v with
 |.none=>some (true,false)
 |.bool k b=>some (k,b)
 |.int k x=>some (k,x != 0)
 |_=>none
noncomputable def dQ(v:V)(σ:St)(K:Bool→St→Prop):Prop:=oP (xq v) fun p=>bz p.1 p.2 (K true σ) (K false σ)
noncomputable def s9(v:V)(g:Bool):V:=oX (vB v) (fun _=>.bool true g) v
noncomputable def jQ(op:CmpOp)(a b:V)(σ:St)(Q:V→St→Prop):Prop:=oP (QT σ.ob.tr op a b) fun p=>Q (.bool p.1 p.2) σ
noncomputable def yW(name:Str):Option Bi:=bX (aS name "split") (some .split) (bO (aS name "lstrip") (some .lstrip))
noncomputable def tI(name:Str):Option Bi:=bX (aS name "append") (some .append) (bX (aS name "extend") (some .extend) (bO (aS name "pop") (some .pop)))
noncomputable def yL(ob:Tr)(ov:V)(name:Str):Option Bi:=oX (vS ov) (fun _=>yW name) (oX (qo ob ov) (fun _=>bO (aS name "get") (some .get)) (oO (uq ob ov) fun _=>tI name))
noncomputable def sO{α:Type}:List α→Nat→Option α
  |[],_=>none
  | x::r,n=>match n with
    |0=>some x
    |n+1=>sO r n
noncomputable def cP{α:Type}:List α→Nat→List α
  |[],_=>[]
  | x::r,n=>match n with
    |0=>r
    |n+1=>x::cP r n
noncomputable def cZ(x:Int):Bool:=aH (decide (0≤x)) (decide (x < 256))
noncomputable def sC:List (Bool×Int)→Prop→Prop
 |[],p=>p
 |x::r,p=>fS x.1 (cZ x.2) (sC r p)
noncomputable def cC:List Int→List V
 |[]=>[]
 |x::r=>.int false x::cC r
noncomputable def ky:List Str→List V
 |[]=>[]
 |x::r=>.str true x::ky r
noncomputable def Na:List V→Option (Bool×Bool)
 |[]=>some (true,false)
 |v::r=>oO (vB v) fun p=>oO (Na r) fun q=>some (aH p.1 q.1,bX p.2 true q.2)
noncomputable def zd(ob:Tr)(key:V)(miss:Prop)(Q:V→Prop):List (V×V)→Prop
 |[]=>miss
 |p::r=>bz (aH (n0 ob 3 key) (n0 ob 3 p.1)) (bY key p.1) (Q p.2) (zd ob key miss Q r)
noncomputable def Ng(vs:List V)(x:Int)(i:Nat)(Q:V→List V→Prop):Prop:=@Nat.rec (fun _=>Nat→Prop) (fun _=>True) (fun _ f j=>oE (sO vs j) (fun v=>(x=Int.ofNat j→Q v (cP vs j))∧f (j+1)) True) i 0
noncomputable def Oc(as:List V)(ob:bb)(Q:V→bb→Prop):Prop:=oP (xW as) fun v=>oE (vY v) (fun p=>fS p.1 (bN p.2.length) (Q (.int p.1 p.2.length) ob)) (oE (vW v) (fun p=>fS p.1 (bN p.2.length) (Q (.int p.1 p.2.length) ob))
 (oE (kq ob.tr v) (fun p=>bP (bN p.2.length) (Q (.int true p.2.length) ob)) (oP (qo ob.tr v) fun es=>bP (bN es.length) (Q (.int true es.length) ob))))
noncomputable def zj(as:List V)(ob:bb)(Q:V→bb→Prop):Prop:=oP (GI as) fun p=>oP (vR p.1) fun i=>oP (oL (ob.tr.get i)) fun vs=>bP (bN vs.length) (Q .none (da ob i (.list (bJ vs [p.2]))))
noncomputable def y6(as:List V)(ob:bb)(Q:V→bb→Prop):Prop:=oP (GI as) fun p=>oP (vR p.1) fun i=>oP (oL (ob.tr.get i)) fun vs=>oP (uq ob.tr p.2) fun ws=>bP (aH (bN vs.length) (bN ws.length)) (bP (oX (vR p.2) (fun j=>c5 (Nat.beq i j)) true) (Q .none (da ob i (.list (bJ vs ws)))))
noncomputable def J2(vs:List V)(i:Nat)(k:Bool)(x:Int)(ob:bb)(Q:V→bb→Prop):Prop:=match k with
 |true=>oP (pM x) fun j=>oP (sO vs j) fun v=>Q v (da ob i (.list (cP vs j)))
 |false=>0≤x∧x < vs.length∧Ng vs x vs.length fun v l=>Q v (da ob i (.list l))
noncomputable def OR(as:List V)(ob:bb)(Q:V→bb→Prop):Prop:=oP (GI as) fun p=>oP (vR p.1) fun i=>oP (vI p.2) fun q=>oP (oL (ob.tr.get i)) fun vs=>bP (bN vs.length) (J2 vs i q.1 q.2 ob Q)
noncomputable def kS(v:V):Option Str:=oO (vS v) fun p=>bO p.1 (some p.2)
noncomputable def split1(x:Str)(ob:bb)(Q:V→bb→Prop):Prop:=bP (aH (Nat.ble x.length 640) (bH JJ (Txt.words x))) (bS ob (.list (ky (Txt.words x))) Q)
noncomputable def Nf(x y:Str)(ob:bb)(Q:V→bb→Prop):Prop:=bP (aH (aH (Nat.ble x.length 640) (c5 (Nat.beq y.length 0))) (bH JJ (Txt.split x y))) (bS ob (.list (ky (Txt.split x y))) Q)
noncomputable def Gf(as:List V)(ob:bb)(Q:V→bb→Prop):Prop:=oE (xW as) (fun v=>oP (kS v) fun x=>split1 x ob Q) (oP (GI as) fun p=>oP (kS p.1) fun x=>oP (kS p.2) fun y=>Nf x y ob Q)
noncomputable def yh(as:List V)(ob:bb)(Q:V→bb→Prop):Prop:=oP (GI as) fun p=>oP (kS p.1) fun x=>oP (kS p.2) fun y=>bP (aH (Nat.ble x.length 640) (JJ (Txt.lstripChars x y))) (Q (.str true (Txt.lstripChars x y)) ob)
noncomputable def Qp(as:List V)(ob:bb)(Q:V→bb→Prop):Prop:=oP (xW as) fun v=>oP (uq ob.tr v) fun vs=>bP (bN vs.length) (oP (Na vs) fun p=>Q (.bool p.1 p.2) ob)
noncomputable def Pg(as:List V)(ob:bb)(Q:V→bb→Prop):Prop:=oP (NN as) fun p=>oP (qo ob.tr p.1) fun es=>bP (aH (ff p.2.1 es) (iD p.2.1)) (zd ob.tr p.2.1 (Q p.2.2 ob) (fun v=>Q v ob) es)
noncomputable def JX(i:Bi)(as:List V)(ob:bb)(Q:V→bb→Prop):Prop:=match i with
 |.len=>Oc as ob Q
 |.append=>zj as ob Q
 |.extend=>y6 as ob Q
 |.pop=>OR as ob Q
 |.split=>Gf as ob Q
 |.lstrip=>yh as ob Q
 |.any=>Qp as ob Q
 |.get=>Pg as ob Q
noncomputable def yA(x:Int):Option Str:=oO (pM x) fun n=>bO (Nat.blt n 1000000) (some (PySem.Str.ofString (toString n)))
noncomputable def Qn(b:Bool):Int:=match b with
 |true=>1
 |false=>0
noncomputable def NT(as:List V)(ob:bb)(Q:V→bb→Prop):Prop:=oP (xW as) fun v=>oE (vI v) (fun p=>Q (.int p.1 p.2) ob) (oE (vB v) (fun p=>Q (.int p.1 (Qn p.2)) ob) (oP (vS v) fun p=>oP (PySem.intText? p.2) fun n=>bP (Nat.ble p.2.length 640) (Q (.int true n) ob)))
noncomputable def PO(as:List V)(ob:bb)(Q:V→bb→Prop):Prop:=oP (xW as) fun v=>oP (vI v) fun p=>bP p.1 (oP (yA p.2) fun t=>Q (.str true t) ob)
noncomputable def E4(as:List V)(ob:bb)(Q:V→bb→Prop):Prop:=oP (xW as) fun v=>oP (vI v) fun p=>Q (.rng p.1 p.2) ob
noncomputable def Fi(as:List V)(ob:bb)(Q:V→bb→Prop):Prop:=oP (xW as) fun v=>oP (kq ob.tr v) fun p=>bP (bN p.2.length) (Q (.tup p.2) ob)
noncomputable def KD(as:List V)(ob:bb)(Q:V→bb→Prop):Prop:=oP (xW as) fun v=>oE (vY v) (fun p=>fS p.1 (bN p.2.length) (Q (.irow p.1 p.2) ob)) (oE (vW v) (fun p=>bP p.1 (bP (bN p.2.length) (bS ob (.list (cC p.2)) Q)))
 (oP (kq ob.tr v) fun p=>bP (bN p.2.length) (bS ob (.list p.2) Q)))
noncomputable def EJ(as:List V)(ob:bb)(Q:V→bb→Prop):Prop:=oP (xW as) fun v=>oE (vW v) (fun p=>fS false (bH cZ p.2) (fS p.1 (bN p.2.length) (Q (.bytes p.1 p.2) ob))) (oP (uq ob.tr v) fun vs=>oP (jF vs) fun l=>bP (bN vs.length) (sC l (Q (.bytes true (ph l)) ob)))
noncomputable def Kf(i:Ti)(as:List V)(ob:bb)(Q:V→bb→Prop):Prop:=match i with
 |.int=>NT as ob Q
 |.str=>PO as ob Q
 |.range=>E4 as ob Q
 |.tuple=>Fi as ob Q
 |.list=>KD as ob Q
 |.bytes=>EJ as ob Q
 |_=>False
noncomputable def UQ(o:Option c6):Option Addr:=oO o fun a=>match a with
 |.fn f=>some f
 |.own=>none
noncomputable def LG(o:Option c6):Bool:=oB o fun a=>match a with
 |.fn _=>false
 |.own=>true
noncomputable def mE{α:Type}(o:Option α):Bool:=oX o (fun _=>false) true
noncomputable def JO(c:df)(ob:Tr)(ov:V)(name:Str):Option (V×List V):=oX (vG ov) (fun C=>oO (c.CS C name) fun f=>some (.glob f,[])) (oX (vM ov) (fun k=>oO (c.NM k) fun C=>oO (UQ (c.CM C name)) fun f=>some (.glob f,[.named k]))
 (oX (yQ ob ov) (fun p=>oO (UQ (c.CM p.1 name)) fun f=>bO (mE (lk name p.2)) (some (.glob f,[ov]))) (oO (yL ob ov name) fun i=>some (.blt i,[ov]))))
noncomputable def uv(c:df)(g:V):Bool:=match g with
 |.glob a=>oX (c.FI a) (fun _=>true) (oX (c.C a) (fun _=>true) (oX (c.CI a) (fun _=>true) false))
 |.blt _=>true
 |.typ _=>true
 |_=>false
noncomputable def F9:V→Bool
 |.blt _=>false
 |.typ _=>false
 |.named _=>false
 |_=>true
noncomputable def RO(x:Int):Bool:=oB (pM x) fun n=>Nat.beq n 0
noncomputable def VP(x:Int):Bool:=oB (pM x) fun n=>Nat.beq n 1
noncomputable def Kk(k:Bool)(x:Int)(p q:Prop):Prop:=match k with
 |true=>iE (RO x) p (bP (VP x) q)
 |false=>(x=0∨x=1)∧(x=0→p)∧(x=1→q)
noncomputable def gA(x:Int)(xs:List Int):List Int:=bX (x==1) xs []
noncomputable def mO(x:Int):Bool:=bX (x==0) true (x==1)
noncomputable def Ml(ob:bb)(a b:V)(Q:V→bb→Prop):Prop:=oP (HE ob.tr a) fun p=>oP (HE ob.tr b) fun q=>fS (aH p.1 q.1) (aH (bN p.2.length) (bN q.2.length)) (Q (.irow (aH p.1 q.1) (bJ p.2 q.2)) ob)
noncomputable def OB(ob:bb)(ta tb:Bool)(vs ws:List V)(Q:V→bb→Prop):Prop:=bP (aH (bN vs.length) (bN ws.length)) (iE ta (bP tb (Q (.tup (bJ vs ws)) ob)) (bP (c5 tb) (bS ob (.list (bJ vs ws)) Q)))
noncomputable def MN(v:V):Bool:=oX (vW v) (fun _=>true) false
noncomputable def L8(a b:V)(σ:St)(Q:V→St→Prop):Prop:=oE (kq σ.ob.tr a) (fun p=>oE (kq σ.ob.tr b) (fun q=>OB σ.ob p.1 q.1 p.2 q.2 fun v ob=>Q v ⟨σ.fm,ob⟩) (Ml σ.ob a b fun v ob=>Q v ⟨σ.fm,ob⟩))
 (iE (MN a) (Ml σ.ob a b fun v ob=>Q v ⟨σ.fm,ob⟩) (Cb .Add a b fun v=>Q v σ))
noncomputable def PU(vs:List V)(b:V)(σ:St)(Q:V→St→Prop):Prop:=bP (Nat.ble vs.length 200) (oP (vI b) fun p=>iE p.1 (Kk true p.2 (bS σ.ob (.list []) fun v ob=>Q v ⟨σ.fm,ob⟩) (bS σ.ob (.list vs) fun v ob=>Q v ⟨σ.fm,ob⟩))
 (oP (jF vs) fun l=>fS false (mO p.2) (Q (.irow false (gA p.2 (ph l))) σ)))
noncomputable def M0(a b:V)(σ:St)(Q:V→St→Prop):Prop:=oE (kq σ.ob.tr a) (fun p=>bP (c5 p.1) (PU p.2 b σ Q)) (Cb .Mult a b fun v=>Q v σ)
noncomputable def EC(op:Operator)(a b:V)(σ:St)(Q:V→St→Prop):Prop:=match op with
 |.Add=>L8 a b σ Q
 |.Mult=>M0 a b σ Q
 |op=>Cb op a b fun v=>Q v σ
set_option backward.match.sparseCases true in
noncomputable def i7:Expr→Bool
 |.Starred .. => true
 |_=>false
noncomputable def d4(e:Expr):Bool:=c5 (i7 e)
noncomputable def jh(E:Ev)(as:List Expr)(sc:Scope):cb (List V):=match as with
 |[]=>⟨fun σ Q=>Q [] σ⟩
 |e::r=>E.es (e::r) sc
noncomputable def rB(c:df)(E:Ev)(g:V)(first:List V)(as:cb (List V))(σ:St)(Q:V→St→Prop):Prop:=bP (uv c g) (as.run σ fun vs aw=>E.call g (bJ first vs) aw.ob fun r ob=>Q r ⟨aw.fm,ob⟩)
noncomputable def hU(vs:List V)(x:Int)(i:Int)(Q:V→Prop):Prop:=match vs with
 |[]=>True
 |v::r=>(x=i→Q v)∧hU r x (i+1) Q
noncomputable def Nj:List Int→Nat→Option Int
  |[],_=>none
  | x::r,n=>match n with
    |0=>some x
    |n+1=>Nj r n
noncomputable def aW:List Int→Nat→Int
  |[],_=>0
  | x::r,n=>match n with
    |0=>x
    |n+1=>aW r n
noncomputable def By(i n:Nat):Bool:=Nat.blt i n
noncomputable def itemI(k:Bool)(xs:List Int)(kx:Bool)(x:Int)(Q:V→Prop):Prop:=iE kx (oP (pM x) fun i=>iE k (oP (Nj xs i) fun y=>bP (bN xs.length) (Q (.int false y))) (fS false (By i xs.length) (fS false (bN xs.length) (Q (.int false (aW xs i))))))
 (fS false (decide (0≤x)) (fS false (By x.toNat xs.length) (fS false (bN xs.length) (Q (.int false (aW xs x.toNat))))))
noncomputable def Wf(v:V):Option (Bool×List Int):=oX (vY v) some (vW v)
noncomputable def Et(ob:Tr)(o i:V)(Q:V→Prop):Prop:=oE (Wf o) (fun p=>oP (vI i) fun q=>itemI p.1 p.2 q.1 q.2 Q) (oE (kq ob o) (fun p=>oP (vI i) fun q=>iE q.1 (oP (pM q.2) fun k=>bP (bN k) (oP (sO p.2 k) Q)) (bP (bN p.2.length) (0≤q.2∧q.2 < p.2.length∧hU p.2 q.2 0 Q)))
 (oP (qo ob o) fun es=>bP (ff i es) (bP (iD i) (zd ob i False Q es))))
noncomputable def ma{α:Type}:List α→Nat→List α
  |[],_=>[]
  | x::r,n=>match n with
    |0=>x::r
    |n+1=>ma r n
noncomputable def l8{α:Type}:List α→Nat→List α
  |[],_=>[]
  | x::r,n=>match n with
    |0=>[]
    |n+1=>x::l8 r n
noncomputable abbrev Bd:=Option (Bool×Nat)
noncomputable def yz(b:Bd):Option Nat:=oO b fun p=>some p.2
noncomputable def ND(b:Bd):Bool:=oX b (fun p=>p.1) true
noncomputable def cut{α:Type}(l:List α)(lo hi:Option Nat):List α:=oX lo (fun a=>oX hi (fun b=>l8 (ma l a) (b - a)) (ma l a)) (oX hi (l8 l) l)
noncomputable def gJ(o:Option Nat):Option Int:=oO o fun k=>some (Int.ofNat k)
noncomputable def DI(ob:bb)(o:V)(lo hi:Bd)(Q:V→bb→Prop):Prop:=oE (vY o) (fun p=>fS p.1 (bN p.2.length) (Q (.bytes (aH p.1 (aH (ND lo) (ND hi))) (cut p.2 (yz lo) (yz hi))) ob)) (oE (vW o) (fun p=>fS p.1 (bN p.2.length) (Q (.irow (aH p.1 (aH (ND lo) (ND hi))) (cut p.2 (yz lo) (yz hi))) ob))
 (oE (kS o) (fun x=>bP (bN x.length) (Q (.str true ⟨(cut x.cps.toList (yz lo) (yz hi)).toArray⟩) ob)) (oP (uq ob.tr o) fun vs=>bP (bN vs.length) (iE (aH (ND lo) (ND hi)) (bS ob (.list (cut vs (yz lo) (yz hi))) Q) (oP (jF vs) fun l=>Q (.irow false (cut (ph l) (yz lo) (yz hi))) ob)))))
noncomputable def J1(v:V)(K:Bd→Prop):Prop:=oP (vI v) fun p=>iE p.1 (oP (pM p.2) fun k=>bP (bN k) (K (some (true,k)))) (fS false (decide (0≤p.2)) (K (some (false,p.2.toNat))))
noncomputable def Eu(E:Ev)(x:Option Expr)(sc:Scope):cb Bd:=match x with
 |none=>⟨fun σ K=>K none σ⟩
 |some e=>⟨fun σ K=>(E.ex e sc).run σ fun v ai=>J1 v fun b=>K b ai⟩
noncomputable def gz:Expr→Bool
 |.Slice .. => false
 |_=>true
noncomputable def Eo(c:df)(E:Ev)(f:cb V)(as:cb (List V)):cb V:=⟨fun σ Q=>f.run σ fun g ai=>rB c E g [] as ai Q⟩
noncomputable def Cd(c:df)(E:Ev)(o:cb V)(name:Str)(as:cb (List V)):cb V:=⟨fun σ Q=>o.run σ fun ov ai=>oP (JO c ai.ob.tr ov name) fun p=>rB c E p.1 p.2 as ai Q⟩
noncomputable def ft(e:Expr):Option (Str×Pos):=match e with
 |.Name x p=>some (x,p)
 |_=>none
noncomputable def J3(e:Expr):Option (Expr×List Expr×List Keyword×Pos):=match e with
 |.Call f as kw p=>some (f,as,kw,p)
 |_=>none
noncomputable def Qa(e:Expr):Option (Arguments×Expr×Scope×Pos):=match e with
 |.Lambda a b sc p=>some (a,b,sc,p)
 |_=>none
noncomputable def DP(a:Arguments):Bool:=aH (aH (ju a.posonlyargs) (ju a.args)) (aH (aH (ju a.kwonlyargs) (ju a.defaults)) (aH (ju a.kw_defaults) (aH (mE a.vararg) (mE a.kwarg))))
noncomputable def x1(as:List Expr):Option Expr:=match as with
 |[]=>none
 |e::r=>bO (ju r) (some e)
noncomputable def qP(e:Expr):Option (Str×Pos×List Expr):=oO (J3 e) fun p=>oO (ft p.1) fun q=>bO (ju p.2.2.1) (some (q.1,q.2,p.2.1))
noncomputable def Ge(as:List Expr):Option (Str×List Expr×Scope×Pos):=oO (x1 as) fun e=>oO (Qa e) fun p=>bO (DP p.1) (oO (qP p.2.1) fun q=>some (q.1,q.2.2,p.2.2.1,p.2.2.2))
noncomputable def lj(k:Option NameKind):Bool:=oB k fun k=>match k with
 |.cell=>true
 |_=>false
noncomputable def j6(k:Option NameKind):Bool:=oB k fun k=>match k with
 |.free=>true
 |_=>false
noncomputable def nZ(k:Option NameKind):Bool:=oB k fun k=>match k with
 |.local=>true
 |_=>false
noncomputable def Cf(sc:Scope)(p:Pos):List zr→Option zr
 |[]=>none
 |l::r=>bX (aH (aH (Nat.beq p.line l.line) (Nat.beq p.col l.col)) (lj (lk l.key sc.names))) (some l) (Cf sc p r)
noncomputable def Ka(sc lsc:Scope)(fm:List (Str×V))(y:Str):Option V:=bO (aH (j6 (lk y lsc.names)) (aH (c5 (aS y "__classdict__")) (lj (lk y sc.names)))) (lk y fm)
noncomputable def rP(sc lsc:Scope)(fm:List (Str×V)):List (Str×NameKind)→Option (List (Str×V))
  |[]=>some []
  | p::r=>match p.2 with
    |.free=>oO (Ka sc lsc fm p.1) fun v=>oO (rP sc lsc fm r) fun l=>some ((p.1,v)::l)
    |.globalImplicit=>rP sc lsc fm r
    |_=>none
noncomputable def ye(sc:Scope):Bool:=match sc.kind with
 |.function=>true
 |_=>false
noncomputable def GO(E:Ev)(sc:Scope):List Expr→St→(List V→St→Prop)→Prop
 |[],σ,Q=>Q [] σ
 |e::r,σ,Q=>(E.ex0 e sc).run σ fun v ai=>GO E sc r ai fun vs aw=>Q (v::vs) aw
noncomputable def RY(c:df)(x:Str):Option Addr:=oO (c.G x) vG
noncomputable def Eh(c:df)(f g:Str)(sc lsc:Scope):Option Addr:=bO (aH (dn sc f) (aH (ye lsc) (aH (dn lsc g) (aH (c5 lsc.isGenerator) (c5 lsc.isCoroutine))))) (oO (RY c f) fun h=>bO (Nat.beq h 1183) (oO (RY c g) fun a=>oO (c.C a) fun _=>some a))
noncomputable def zy(c:df)(E:Ev)(f g:Str)(gas:List Expr)(lsc:Scope)(lpos:Pos)(sc:Scope):cb V:=oA (Eh c f g sc lsc) fun a=>oA (Cf sc lpos jv) fun _=>bA (bH d4 gas) ⟨fun σ Q=>oP (rP sc lsc σ.fm lsc.names) fun fm=>GO E lsc gas ⟨fm,σ.ob⟩ fun vs ai=>bP (Nat.beq ai.ob.nx σ.ob.nx) (E.heard a vs ai.ob fun v ob=>Q v ⟨σ.fm,ob⟩)⟩
noncomputable def Dr(e:Expr):Option (Expr×Str×Pos):=match e with
 |.Attribute o n p=>some (o,n,p)
 |_=>none
noncomputable def Kz(c:df)(E:Ev)(f:Expr)(as:List Expr)(cpos:Pos)(sc:Scope):cb V:=bA (bH d4 as) (oX (ft f) (fun p=>oX (Ge as) (fun q=>zy c E p.1 q.1 q.2.1 q.2.2.1 q.2.2.2 sc) (Eo c E (E.ex (.Name p.1 p.2) sc) (jh E as sc)))
 (oA (Dr f) fun p=>bA (qT p.1 as p.2.2 cpos) (Cd c E (E.ex p.1 sc) p.2.1 (jh E as sc))))
noncomputable def N6(v:V):Option Int:=oO (vI v) fun p=>bO (c5 p.1) (some p.2)
noncomputable def QP(Q:V→St→Prop)(v:V)(σ:St):Prop:=oE (N6 v) (fun x=>(x=0∨x=1)∧(x=0→Q (.int true 0) σ)∧(x=1→Q (.int true 1) σ)) (Q v σ)
noncomputable def Lj(t:JT)(run:(V→St→Prop)→Prop)(σ:St)(Q:V→St→Prop):Prop:=match t with
 |.int=>∃J:Int→Prop,run (fun v σ'=>σ'=σ∧∃k x,v=.int k x∧J x)∧∀x,J x→Q (.int false x) σ
 |.bool=>∃J:Bool→Prop,run (fun v σ'=>σ'=σ∧∃k x,v=.bool k x∧J x)∧∀x,J x→Q (.bool false x) σ
 |.str=>∃J:Str→Prop,run (fun v σ'=>σ'=σ∧∃k x,v=.str k x∧J x)∧∀x,J x→Q (.str false x) σ
 |.bit=>run (QP Q)
 |.itemI=>run Q
 |.itemS=>run Q
noncomputable def lu(J:Int→Prop)(v:V):Prop:=oP (vI v) fun p=>J p.2
noncomputable def oY(J:Str→Prop)(v:V):Prop:=oP (vS v) fun p=>J p.2
noncomputable def J0(t:Option JT)(run:(V→Prop)→Prop)(Q:V→Prop):Prop:=match t with
 |some .itemI=>∃J:Int→Prop,run (lu J)∧∀x,J x→Q (.int false x)
 |some .itemS=>∃J:Str→Prop,run (oY J)∧∀x,J x→Q (.str false x)
 |_=>run Q
noncomputable def mF(c:df)(p:Pos)(a:cb V):cb V:=oX (c.J p.line p.col) (fun t=>⟨fun σ Q=>Lj t (a.run σ) σ Q⟩) a
noncomputable def u4(E:Ev)(elt:Expr)(sc:Scope)(fm:List (Str×V))(x:Str):List V→bb→(List V→bb→Prop)→Prop
 |[],ob,Q=>Q [] ob
 |v::r,ob,Q=>(E.ex0 elt sc).run ⟨put x v fm,ob⟩ fun y σ=>u4 E elt sc fm x r σ.ob fun ys ob'=>Q (y::ys) ob'
noncomputable def GG:Nat→Int→List V
 |0,_=>[]
 |n+1,i=>.int true i::GG n (i+1)
noncomputable def Tx(v:V):Option (List V):=match v with
 |.rng k x=>oO (G5 (k,x)) fun n=>bO (bN n) (some (GG n 0))
 |.tup vs=>some vs
 |.list vs=>some vs
 |.irow _ xs=>some (cC xs)
 |.bytes _ xs=>some (cC xs)
 |_=>none
noncomputable def rh(ob:bb)(v:V):Option (List V×bb):=oX (vL v) (fun vs=>some (vs,ob)) (oO (vR v) fun i=>oX (oL (ob.tr.get i)) (fun vs=>some (vs,da ob i (.frz (.list vs)))) (oO (oF (ob.tr.get i)) fun u=>oO (vL u) fun vs=>some (vs,ob)))
noncomputable def rX(ob:bb)(v:V):Option (List V×bb):=oX (Tx v) (fun vs=>some (vs,ob)) (rh ob v)
noncomputable def j4(e:Expr):Bool:=match e with
 |.Name .. => true
 |.Call .. => true
 |.Attribute .. => true
 |.Subscript .. => true
 |.Tuple .. => true
 |_=>false
noncomputable def o6(o:Int):List Int→List Int
 |[]=>[]
 |x::r=>bX (x==o) (o6 o r) (x::o6 o r)
noncomputable def kK:List (Option Expr)→Option (List Expr)
 |[]=>some []
 |e::r=>oO e fun e=>oO (kK r) fun l=>some (e::l)
noncomputable def gf(key v:V):List (V×V)→List (V×V)
 |[]=>[(key,v)]
 |(k,u)::r=>bX (bY key k) ((k,v)::r) ((k,u)::gf key v r)
noncomputable def mU(E:Ev)(sc:Scope):List Expr→List Expr→St→(List (V×V)→St→Prop)→Prop
  |[],vs,σ,Q=>bP (ju vs) (Q [] σ)
  | k::ks,vs,σ,Q=>match vs with
    |[]=>False
    |v::vs=>(E.ex k sc).run σ fun kv ai=>(E.ex v sc).run ai fun vv aw=>mU E sc ks vs aw fun l bK=>Q ((kv,vv)::l) bK
noncomputable def sI(acc:List (V×V)):List (V×V)→Option (List (V×V))
 |[]=>some acc
 |p::r=>bO (aH (iD p.1) (ff p.1 acc)) (sI (gf p.1 p.2 acc) r)
noncomputable def yf(k:Const):cb V:=match k with
 |.none=>⟨fun σ Q=>Q .none σ⟩
 |.bool b=>⟨fun σ Q=>Q (.bool true b) σ⟩
 |.int i=>⟨fun σ Q=>Q (.int true i) σ⟩
 |.str s=>bA (JJ s) ⟨fun σ Q=>Q (.str true s) σ⟩
 |_=>.bad
noncomputable def tw(c:df)(x:Str)(sc:Scope):cb V:=bA (dn sc x) (oA (c.G x) fun v=>⟨fun σ Q=>Q v σ⟩)
noncomputable def Dh(c:df)(x:Str)(sc:Scope):cb V:=⟨fun σ Q=>oE (lk x σ.fm) (fun v=>Q v σ) ((tw c x sc).run σ Q)⟩
noncomputable def Qj(E:Ev)(op:UnaryOp)(x:Expr)(sc:Scope):cb V:=match op with
 |.Not=>⟨fun σ Q=>(E.ex x sc).run σ fun a ai=>dQ a ai fun b aw=>Q (.bool true (c5 b)) aw⟩
 |.USub=>⟨fun σ Q=>(E.ex x sc).run σ fun a ai=>oP (vI a) fun p=>Q (.int p.1 (-p.2)) ai⟩
 |_=>.bad
noncomputable def NU(c:df)(E:Ev)(t b o:Expr)(p:Pos)(sc:Scope):cb V:=mF c p ⟨fun σ Q=>(E.tr t sc).run σ fun g ai=>iE g ((E.ex b sc).run ai Q) ((E.ex o sc).run ai Q)⟩
noncomputable def CQ(E:Ev)(l:Expr)(op:CmpOp)(r:Expr)(sc:Scope):cb V:=bA (c5 (behindInMarks op r)) ⟨fun σ Q=>(E.ex l sc).run σ fun a ai=>(E.ex r sc).run ai fun b aw=>jQ op a b aw Q⟩
noncomputable def Fe(E:Ev)(l:Expr)(iY gk:CmpOp)(cJ dH:Expr)(sc:Scope):cb V:=bA (c5 (lastMarks [iY,gk] [cJ,dH])) ⟨fun σ Q=>(E.ex l sc).run σ fun a ai=>(E.ex cJ sc).run ai fun b aw=>jQ iY a b aw fun g bK=>dQ g bK fun t eM=>
 iE t ((E.ex dH sc).run eM fun d zA=>jQ gk b d zA Q) (Q (s9 g false) eM)⟩
noncomputable def H3(ops:List CmpOp)(rs:List Expr):Option (CmpOp×Expr×Option (CmpOp×Expr)):=match ops with
  |[]=>none
  | op::ops=>match rs with
    |[]=>none
    | r :: rs=>match ops with
      |[]=>bO (ju rs) (some (op,r,none))
      | gk::ops=>match rs with
        |[]=>none
        |dH::rs=>bO (aH (ju ops) (ju rs)) (some (op,r,some (gk,dH)))
noncomputable def N5(E:Ev)(l:Expr)(ops:List CmpOp)(rs:List Expr)(sc:Scope):cb V:=oA (H3 ops rs) fun p=>oX p.2.2 (fun q=>Fe E l p.1 q.1 p.2.1 q.2 sc) (CQ E l p.1 p.2.1 sc)
noncomputable def HR(E:Ev)(op:BoolOp)(x:Expr)(l:List Expr)(p:Pos)(sc:Scope):cb V:=match op with
 |.And=>⟨fun σ Q=>(E.ex x sc).run σ fun a ai=>dQ a ai fun g aw=>iE g ((E.ex (.BoolOp .And l p) sc).run aw Q) (Q (s9 a false) aw)⟩
 |.Or=>⟨fun σ Q=>(E.ex x sc).run σ fun a ai=>dQ a ai fun g aw=>iE g (Q (s9 a true) aw) ((E.ex (.BoolOp .Or l p) sc).run aw Q)⟩
noncomputable def D5(c:df)(E:Ev)(op:BoolOp)(l:List Expr)(p:Pos)(sc:Scope):cb V:=match l with
  |[]=>.bad
  | x::r=>match r with
    |[]=>E.ex x sc
    |y::r=>mF c p (HR E op x (y::r) p sc)
noncomputable def Kj(E:Ev)(es:List Expr)(sc:Scope):cb V:=⟨fun σ Q=>(E.es es sc).run σ fun vs ai=>bP (bN vs.length) (Q (.tup vs) ai)⟩
noncomputable def za(σ:St)(x:O)(Q:V→St→Prop):Prop:=bS σ.ob x fun v ob'=>Q v ⟨σ.fm,ob'⟩
noncomputable def B8(E:Ev)(es:List Expr)(sc:Scope):cb V:=⟨fun σ Q=>(E.es es sc).run σ fun vs ai=>bP (bN vs.length) (za ai (.list vs) Q)⟩
noncomputable def yX(l:List (V×V))(σ:St)(Q:V→St→Prop):Prop:=bP (Nat.ble l.length 15) (oP (sI [] l) fun es=>za σ (.dict es) Q)
noncomputable def Ij(E:Ev)(ks vs:List Expr)(sc:Scope):cb V:=match ks with
 |[]=>bA (ju vs) ⟨fun σ Q=>za σ (.dict []) Q⟩
 |k::ks=>bA (aH (Nat.beq (k::ks).length vs.length) (Nat.ble (k::ks).length 15)) ⟨fun σ Q=>mU E sc (k::ks) vs σ fun l ai=>yX l ai Q⟩
noncomputable def Gr(E:Ev)(ks:List (Option Expr))(vs:List Expr)(sc:Scope):cb V:=oA (kK ks) fun ks=>Ij E ks vs sc
noncomputable def N8(c:df)(ov:V)(name:Str)(σ:St)(Q:V→St→Prop):Prop:=oP (yQ σ.ob.tr ov) fun p=>bP (LG (c.CM p.1 name)) (oP (lk name p.2) fun u=>bP (F9 u) (Q u σ))
noncomputable def FZ(c:df)(E:Ev)(o:Expr)(name:Str)(sc:Scope):cb V:=bA (sk o) ⟨fun σ Q=>(E.ex o sc).run σ fun ov ai=>N8 c ov name ai Q⟩
noncomputable def Lb(c:df)(E:Ev)(f:Expr)(as:List Expr)(kw:List Keyword)(p:Pos)(sc:Scope):cb V:=bA (ju kw) (mF c p (Kz c E f as p sc))
noncomputable def G1(E:Ev)(value:Expr)(lo hi step:Option Expr)(sc:Scope):cb V:=bA (mE step) ⟨fun σ Q=>(E.ex value sc).run σ fun o ai=>(Eu E lo sc).run ai fun l aw=>(Eu E hi sc).run aw fun u bK=>DI bK.ob o l u fun v ob=>Q v ⟨bK.fm,ob⟩⟩
noncomputable def LP(c:df)(E:Ev)(value slice:Expr)(p:Pos)(sc:Scope):cb V:=⟨fun σ Q=>(E.ex value sc).run σ fun o ai=>(E.ex slice sc).run ai fun i aw=>J0 (c.J p.line p.col) (Et aw.ob.tr o i) fun v=>Q v aw⟩
noncomputable def qX(e:Expr):Option (Option Expr×Option Expr×Option Expr×Pos):=match e with
 |.Slice lo hi st p=>some (lo,hi,st,p)
 |_=>none
noncomputable def JP(c:df)(E:Ev)(value slice:Expr)(p:Pos)(sc:Scope):cb V:=oX (qX slice) (fun q=>G1 E value q.1 q.2.1 q.2.2.1 sc) (LP c E value slice p sc)
noncomputable def kM(all:List (Str×NameKind)):List (Str×NameKind)→Bool
  |[]=>true
  | p::r=>match p.2 with
    |.local=>aH (nZ (lk p.1 all)) (kM all r)
    |.free=>false
    |.cell=>false
    |_=>kM all r
noncomputable def isFn(sc:Scope):Bool:=match sc.kind with
 |.function=>true
 |_=>false
noncomputable def E7(E:Ev)(elt iter:Expr)(x:Str)(csc:Scope)(sc:Scope):cb V:=bA (aH (isFn csc) (kM csc.names csc.names)) ⟨fun σ Q=>(E.ex iter sc).run σ fun v ai=>oP (rX ai.ob v) fun p=>bP (bN p.1.length) (u4 E elt csc [] x p.1 p.2 fun ys ob'=>bS ob' (.list ys) fun v ob''=>Q v ⟨ai.fm,ob''⟩)⟩
noncomputable def fK(y:Str)(all:List (Str×NameKind)):List (Str×NameKind)→Bool
  |[]=>true
  | p::r=>match p.2 with
    |.local=>aH (nZ (lk p.1 all)) (fK y all r)
    |.free=>aH (aS p.1 y) (fK y all r)
    |.cell=>false
    |_=>fK y all r
noncomputable def tD(E:Ev)(elt iter:Expr)(x ve y:Str)(csc:Scope)(sc:Scope):cb V:=oA (ft elt) fun e=>bA (aH (aH (isFn csc) (fK y csc.names csc.names)) (aH (aS x ve) (aH (aS x e.1) (c5 (aS x y))))) (bA (aH (j6 (lk y csc.names)) (lj (lk y sc.names)))
 ⟨fun σ Q=>(E.ex iter sc).run σ fun v ai=>oP (HE ai.ob.tr v) fun p=>oP (lk y ai.fm) fun u=>oP (vI u) fun o=>fS p.1 (bN p.2.length) (Q (.irow false (o6 o.2 p.2)) ai)⟩)
noncomputable def NS(op:CmpOp):Bool:=match op with
 |.NotEq=>true
 |_=>false
noncomputable def O1(e:Expr):Option (Expr×List CmpOp×List Expr×Pos):=match e with
 |.Compare l ops rs p=>some (l,ops,rs,p)
 |_=>none
noncomputable def VY(e:Expr):Option (Str×Str):=oO (O1 e) fun p=>oO (ft p.1) fun a=>oO (H3 p.2.1 p.2.2.1) fun q=>bO (aH (mE q.2.2) (NS q.1)) (oO (ft q.2.1) fun b=>some (a.1,b.1))
noncomputable def O0(E:Ev)(elt:Expr)(x:Str)(iter:Expr)(ifs:List Expr)(csc:Scope)(sc:Scope):cb V:=bA (aH (j4 iter) (cg csc x)) (bX (ju ifs) (E7 E elt iter x csc sc) (oA (x1 ifs) fun e=>oA (VY e) fun p=>tD E elt iter x p.1 p.2 csc sc))
noncomputable def JZ(gens:List Comprehension):Option (Str×Expr×List Expr):=match gens with
 |[]=>none
 |g::r=>bO (aH (ju r) (RO g.is_async)) (oO (ft g.target) fun p=>some (p.1,g.iter,g.ifs))
noncomputable def OE(E:Ev)(elt:Expr)(gens:List Comprehension)(csc:Scope)(sc:Scope):cb V:=oA (JZ gens) fun p=>O0 E elt p.1 p.2.1 p.2.2 csc sc
noncomputable def KL(E:Ev)(l:Expr)(op:Operator)(r:Expr)(sc:Scope):cb V:=⟨fun σ Q=>(E.ex l sc).run σ fun a ai=>(E.ex r sc).run ai fun b aw=>EC op a b aw Q⟩
noncomputable def Fm(c:df)(E:Ev)(e:Expr)(sc:Scope):cb V:=match e with
 |.Constant k _ _=>yf k
 |.Name x _=>Dh c x sc
 |.BinOp l op r _=>KL E l op r sc
 |.UnaryOp op x _=>Qj E op x sc
 |.IfExp t b o p=>NU c E t b o p sc
 |.Compare l ops rs _=>N5 E l ops rs sc
 |.BoolOp op l p=>D5 c E op l p sc
 |.Tuple es _ _=>Kj E es sc
 |.List es _=>B8 E es sc
 |.Dict ks vs _=>Gr E ks vs sc
 |.Attribute o name _=>FZ c E o name sc
 |.Call f as kw cpos=>Lb c E f as kw cpos sc
 |.Subscript value slice p=>JP c E value slice p sc
 |.ListComp elt gens csc _=>OE E elt gens csc sc
 |_=>.bad
noncomputable def Ku(op:BoolOp):Bool:=match op with
 |.And=>true
 |.Or=>false
noncomputable def Gj(E:Ev)(op:BoolOp)(l:List Expr)(p:Pos)(sc:Scope):cb Bool:=match l with
 |[]=>⟨fun σ K=>K (Ku op) σ⟩
 |x::r=>⟨fun σ K=>(E.tr x sc).run σ fun g ai=>iE (bX (Ku op) g (c5 g)) ((E.tr (.BoolOp op r p) sc).run ai K) (K g ai)⟩
noncomputable def CO(E:Ev)(e:Expr)(sc:Scope):cb Bool:=⟨fun σ K=>(E.ex e sc).run σ fun v ai=>dQ v ai K⟩
noncomputable def Dn(E:Ev)(l:Expr)(op:CmpOp)(r:Expr)(sc:Scope):cb Bool:=bA (c5 (behindInMarks op r)) ⟨fun σ K=>(E.ex l sc).run σ fun a ai=>(E.ex r sc).run ai fun b aw=>jQ op a b aw fun v bK=>dQ v bK K⟩
noncomputable def DQ(E:Ev)(l:Expr)(iY gk:CmpOp)(cJ dH:Expr)(sc:Scope):cb Bool:=bA (c5 (lastMarks [iY,gk] [cJ,dH])) ⟨fun σ K=>(E.ex l sc).run σ fun a ai=>(E.ex cJ sc).run ai fun b aw=>jQ iY a b aw fun g bK=>dQ g bK fun t eM=>
 iE t ((E.ex dH sc).run eM fun d zA=>jQ gk b d zA fun v QZ=>dQ v QZ K) (K false eM)⟩
noncomputable def QN(E:Ev)(l:Expr)(ops:List CmpOp)(rs:List Expr)(sc:Scope):cb Bool:=oA (H3 ops rs) fun p=>oX p.2.2 (fun q=>DQ E l p.1 q.1 p.2.1 q.2 sc) (Dn E l p.1 p.2.1 sc)
noncomputable def Po(E:Ev)(op:UnaryOp)(x:Expr)(sc:Scope):cb Bool:=match op with
 |.Not=>⟨fun σ K=>(E.tr x sc).run σ fun g ai=>K (c5 g) ai⟩
 |_=>.bad
noncomputable def vJ(E:Ev)(e:Expr)(sc:Scope):cb Bool:=match e with
 |.BoolOp op l p=>Gj E op l p sc
 |.UnaryOp op x _=>Po E op x sc
 |.Compare l ops rs _=>QN E l ops rs sc
 |.Name x p=>CO E (.Name x p) sc
 |.Call f as kw p=>CO E (.Call f as kw p) sc
 |.Attribute o n p=>CO E (.Attribute o n p) sc
 |_=>.bad
noncomputable def CK(E:Ev)(l:List Expr)(sc:Scope):cb (List V):=match l with
 |[]=>⟨fun σ Q=>Q [] σ⟩
 |e::r=>bA (c5 (i7 e)) ⟨fun σ Q=>(E.ex e sc).run σ fun v ai=>(E.es r sc).run ai fun vs aw=>Q (v::vs) aw⟩
noncomputable def LF:V→Bool
 |.none=>false
 |.bool .. => false
 |.int .. => false
 |.str .. => false
 |.bytes .. => false
 |_=>true
noncomputable def cV:Expr→Bool
 |.Constant .. => true
 |.Name .. => true
 |.BinOp .. => true
 |.BoolOp .. => true
 |.UnaryOp .. => true
 |.Compare .. => true
 |.IfExp .. => true
 |.Call .. => true
 |.Attribute .. => true
 |.Subscript .. => true
 |.Tuple .. => true
 |.List .. => true
 |.Dict .. => true
 |_=>false
noncomputable def wc:Expr→Bool
 |.Call .. => true
 |_=>false
noncomputable def vX(c:df)(ov:V)(name:Str)(v:V)(σ:St)(K:St→Prop):Prop:=oP (vR ov) fun i=>oP (oI (σ.ob.tr.get i)) fun p=>bP (LG (c.CM p.1 name)) (oP (oN (σ.ob.tr.get p.2)) fun fs=>bP (bN (fs.length+1)) (K ⟨σ.fm,da σ.ob p.2 (.ns (put name v fs))⟩))
noncomputable def ET(o key v:V)(σ:St)(K:St→Prop):Prop:=oP (vR o) fun i=>oP (oD (σ.ob.tr.get i)) fun es=>bP (aH (aH (iD key) (ff key es)) (aH (aH (n0 σ.ob.tr 3 key) (k9 σ.ob.tr es)) (bN es.length))) (K ⟨σ.fm,da σ.ob i (.dict (gf key v es))⟩)
noncomputable def ki(l:Nat):List Expr→Bool
 |[]=>true
 |e::r=>bX (Nat.beq e.pos.line l) (ki l r) false
noncomputable def km:List Expr→Option (List Str)
 |[]=>some []
 |e::r=>oO (ft e) fun p=>oO (km r) fun l=>some (p.1::l)
noncomputable def jD(sc:Scope)(x:Str):Bool:=aH (nZ (lk x sc.names)) (c5 (aS x "__debug__"))
noncomputable def fL(sc:Scope)(e:Expr):Bool:=oX (ft e) (fun p=>jD sc p.1) (wG e)
noncomputable def kI(c:df)(E:Ev)(sc:Scope):List Expr→List V→St→(St→Prop)→Prop
  |[],vs,σ,K=>bP (ju vs) (K σ)
  | t::ts,vs,σ,K=>match vs with
    |[]=>False
    |v::vs=>oE (ft t) (fun p=>bP (jD sc p.1) (kI c E sc ts vs ⟨put p.1 v σ.fm,σ.ob⟩ K)) (oP (Dr t) fun p=>(E.ex p.1 sc).run σ fun ov ai=>vX c ov p.2.1 v ai fun aw=>kI c E sc ts vs aw K)
noncomputable def mL(sc:Scope):List Str→List V→St→(St→Prop)→Prop
  |[],vs,σ,K=>bP (ju vs) (K σ)
  | x::ts,vs,σ,K=>match vs with
    |[]=>False
    |v::vs=>bP (jD sc x) (mL sc ts vs ⟨put x v σ.fm,σ.ob⟩ K)
noncomputable def iO(e:Expr):Bool:=mE (ft e)
noncomputable def sF(e:Expr):Option (List Expr):=match e with
 |.Tuple vs _ _=>some vs
 |_=>none
noncomputable def DZ(ts vs:List Expr)(sc:Scope)(names:List Str):Option (Option (List Str)):=bO (aH (aH (bH (fL sc) ts) (ki ((ts.head?.map (·.pos.line)).getD 0) ts)) (aH (bH d4 vs) (aH (Nat.beq vs.length ts.length) (Nat.beq names.eraseDups.length names.length))))
 (bX (bX (Nat.beq ts.length 2) true (Nat.beq ts.length 3)) (some (some names)) (some none))
noncomputable def qx(ts:List Expr)(e:Expr)(sc:Scope):Option (Option (List Str)):=oX (sF e) (fun vs=>bX (eK iO ts) (some none) (bX (vs.all (foldedForSure 8)) (some none) (bX (vs.all (constantsAlone 8)) none (oO (km ts) (DZ ts vs sc))))) (some none)
noncomputable def AN(f:Fl)(p q:Prop)(K:V→Prop):Prop:=match f with
 |.next=>p
 |.cont=>p
 |.brk=>q
 |.ret v=>K v
noncomputable def q9(E:Ev)(x:Str)(body:List Stmt)(sc:Scope):List V→St→(Fl→St→Prop)→Prop
 |[],σ,Q=>Q .next σ
 |v::r,σ,Q=>(E.ss body sc).run ⟨put x v σ.fm,σ.ob⟩ fun f ai=>AN f (q9 E x body sc r ai Q) (Q .next ai) (fun v=>Q (.ret v) ai)
noncomputable def n8(E:Ev)(x y:Str)(body:List Stmt)(sc:Scope):List (V×V)→St→(Fl→St→Prop)→Prop
 |[],σ,Q=>Q .next σ
 |p::r,σ,Q=>(E.ss body sc).run ⟨put y p.2 (put x p.1 σ.fm),σ.ob⟩ fun f ai=>AN f (n8 E x y body sc r ai Q) (Q .next ai) (fun v=>Q (.ret v) ai)
noncomputable def yq:List V→Int→List (V×V)
 |[],_=>[]
 |v::r,i=>(.int true i,v)::yq r (i+1)
noncomputable def GY:List V→List V→List (V×V)
  |[],_=>[]
  | a::x,l=>match l with
    |[]=>[]
    |b::y=>(a,b)::GY x y
noncomputable def Dp(n:Nat)(x:Int)(K:Nat→Prop):Prop:=@Nat.rec (fun _=>Prop) True (fun i p=>(x=Int.ofNat i→K i)∧p) n
noncomputable def It(E:Ev)(v:Option Expr)(sc:Scope):cb Fl:=oX v (fun e=>⟨fun σ Q=>(E.ex e sc).run σ fun v ai=>Q (.ret v) ai⟩) ⟨fun σ Q=>Q (.ret .none) σ⟩
noncomputable def Wg(E:Ev)(t:Expr)(b o:List Stmt)(sc:Scope):cb Fl:=⟨fun σ Q=>(E.tr t sc).run σ fun g ai=>iE g ((E.ss b sc).run ai Q) ((E.ss o sc).run ai Q)⟩
noncomputable def Fv(E:Ev)(x:Str)(e:Expr)(sc:Scope):cb Fl:=bA (aH (cg sc x) (cV e)) ⟨fun σ Q=>(E.ex e sc).run σ fun v ai=>Q .next ⟨put x v ai.fm,ai.ob⟩⟩
noncomputable def Cy(c:df)(E:Ev)(o:Expr)(name:Str)(e:Expr)(sc:Scope):cb Fl:=bA (cV e) ⟨fun σ Q=>(E.ex e sc).run σ fun v ai=>(E.ex o sc).run ai fun ov aw=>vX c ov name v aw fun bK=>Q .next bK⟩
noncomputable def tq(E:Ev)(o i:Expr)(e:Expr)(sc:Scope):cb Fl:=bA (aH (cV e) (gz i)) ⟨fun σ Q=>(E.ex e sc).run σ fun v ai=>(E.ex o sc).run ai fun ov aw=>(E.ex i sc).run aw fun iv bK=>ET ov iv v bK fun eM=>Q .next eM⟩
noncomputable def Dl(c:df)(E:Ev)(ts:List Expr)(e:Expr)(sc:Scope)(vs:List V)(σ:St)(Q:Fl→St→Prop):Prop:=bP (Nat.beq vs.length ts.length) (oP (qx ts e sc) fun o=>oE o (fun names=>mL sc names.reverse vs.reverse σ fun aw=>Q .next aw) (kI c E sc ts vs σ fun aw=>Q .next aw))
noncomputable def HS(c:df)(E:Ev)(ts:List Expr)(e:Expr)(sc:Scope):cb Fl:=bA (aH (bH (fL sc) ts) (cV e)) ⟨fun σ Q=>(E.ex e sc).run σ fun v ai=>oP (vT v) fun vs=>Dl c E ts e sc vs ai Q⟩
noncomputable def Kl(c:df)(E:Ev)(t:Expr)(e:Expr)(sc:Scope):cb Fl:=match t with
 |.Name x _=>Fv E x e sc
 |.Attribute o name _=>Cy c E o name e sc
 |.Subscript o i _=>tq E o i e sc
 |.Tuple ts _ _=>HS c E ts e sc
 |_=>.bad
noncomputable def Uo(c:df)(E:Ev)(ts:List Expr)(e:Expr)(sc:Scope):cb Fl:=oA (x1 ts) fun t=>Kl c E t e sc
noncomputable def EF(E:Ev)(x:Str)(body:List Stmt)(v:V)(sc:Scope)(σ:St)(Q:Fl→St→Prop):Prop:=oP (rX σ.ob v) fun p=>q9 E x body sc p.1 ⟨σ.fm,p.2⟩ Q
noncomputable def J4(v:V):Option Int:=oO (vQ v) fun p=>bO (c5 p.1) (some p.2)
noncomputable def P2(E:Ev)(x:Str)(iter:Expr)(body:List Stmt)(sc:Scope):cb Fl:=bA (aH (cg sc x) (j4 iter)) ⟨fun σ Q=>(E.ex iter sc).run σ fun v ai=>oE (J4 v) (fun n=>0≤n∧n < 8∧Dp 8 n fun k=>q9 E x body sc (GG k 0) ai Q) (EF E x body v sc ai Q)⟩
noncomputable def yB(E:Ev)(x y:Str)(as:List Expr)(body:List Stmt)(sc:Scope)(σ:St)(Q:Fl→St→Prop):Prop:=(jh E as sc).run σ fun l ai=>oP (xW l) fun v=>oP (rh ai.ob v) fun p=>bP (bN p.1.length) (n8 E x y body sc (yq p.1 0) ⟨ai.fm,p.2⟩ Q)
noncomputable def Ca(E:Ev)(x y:Str)(as:List Expr)(body:List Stmt)(sc:Scope)(σ:St)(Q:Fl→St→Prop):Prop:=(jh E as sc).run σ fun l ai=>oP (GI l) fun q=>oP (vT q.1) fun vs=>oP (rh ai.ob q.2) fun p=>bP (aH (Nat.beq vs.length p.1.length) (bN vs.length)) (n8 E x y body sc (GY vs p.1) ⟨ai.fm,p.2⟩ Q)
noncomputable def ED(t:Ti):Bool:=match t with
 |.enumerate=>true
 |_=>false
noncomputable def JN(t:Ti):Bool:=match t with
 |.zip=>true
 |_=>false
noncomputable def J6(E:Ev)(x y:Str)(iter:Expr)(body:List Stmt)(sc:Scope):cb Fl:=bA (aH (jD sc x) (aH (jD sc y) (c5 (aS x y)))) (oA (qP iter) fun q=>bA (bH d4 q.2.2) ⟨fun σ Q=>(E.ex (.Name q.1 q.2.1) sc).run σ fun g KQ=>oP (R4 g) fun t=>iE (ED t) (yB E x y q.2.2 body sc KQ Q) (bP (JN t) (Ca E x y q.2.2 body sc KQ Q))⟩)
noncomputable def x2(as:List Expr):Option (Expr×Expr):=match as with
 |[]=>none
 |e::r=>oO (x1 r) fun d=>some (e,d)
noncomputable def Ky(e:Expr):Option (Str×Str):=oO (sF e) fun l=>oO (x2 l) fun p=>oO (ft p.1) fun a=>oO (ft p.2) fun b=>some (a.1,b.1)
noncomputable def Ss(E:Ev)(target iter:Expr)(body orelse:List Stmt)(sc:Scope):cb Fl:=bA (ju orelse) (oX (ft target) (fun p=>P2 E p.1 iter body sc) (oA (Ky target) fun p=>J6 E p.1 p.2 iter body sc))
noncomputable def oM(E:Ev)(t:Expr)(body:List Stmt)(sc:Scope)(n:Nat):cb Fl:=@Nat.rec (fun _=>cb Fl) .bad (fun _ f=>⟨fun σ Q=>(E.tr t sc).run σ fun g ai=>iE g ((E.ss body sc).run ai fun r aw=>AN r (f.run aw Q) (Q .next aw) (fun v=>Q (.ret v) aw)) (Q .next ai)⟩) n
noncomputable def Nh(E:Ev)(t:Expr)(body orelse:List Stmt)(sc:Scope):cb Fl:=bA (ju orelse) (oM E t body sc 100)
noncomputable def KI(E:Ev)(e:Expr)(sc:Scope):cb Fl:=bA (wc e) ⟨fun σ Q=>(E.ex e sc).run σ fun v ai=>bP (c5 (LF v)) (Q .next ai)⟩
noncomputable def CY(c:df)(x s:Str)(sc:Scope):cb Fl:=bA (aH (dn sc x) (JJ s)) (oA (c.X x) fun C=>oA (RY c x) fun D=>bA (Nat.beq C D) ⟨fun _ _=>c.R C⟩)
noncomputable def Mm(e:Expr):Option Str:=match e with
  | .Constant k _ _=>match k with
    |.str s=>some s
    |_=>none
  |_=>none
noncomputable def Ci(e:Expr):Option (Str×Str):=oO (qP e) fun p=>oO (x1 p.2.2) fun a=>oO (Mm a) fun s=>some (p.1,s)
noncomputable def E8(c:df)(e cause:Option Expr)(sc:Scope):cb Fl:=oA e fun e=>oA (Ci e) fun p=>bA (mE cause) (CY c p.1 p.2 sc)
noncomputable def Ek(c:df)(E:Ev)(st:Stmt)(sc:Scope):cb Fl:=match st with
 |.Return v _=>It E v sc
 |.If t b o _=>Wg E t b o sc
 |.Assign ts e _=>Uo c E ts e sc
 |.For target iter body orelse _=>Ss E target iter body orelse sc
 |.While t body orelse _=>Nh E t body orelse sc
 |.Pass _=>⟨fun σ Q=>Q .next σ⟩
 |.Continue _=>⟨fun σ Q=>Q .cont σ⟩
 |.Break _=>⟨fun σ Q=>Q .brk σ⟩
 |.Expr e _=>KI E e sc
 |.Raise e cause _=>E8 c e cause sc
 |_=>.bad
noncomputable def MF(f:Fl):Bool:=match f with
 |.next=>true
 |_=>false
noncomputable def BR(c:df)(E:Ev)(l:List Stmt)(sc:Scope):cb Fl:=match l with
 |[]=>⟨fun σ Q=>Q .next σ⟩
 |st::r=>⟨fun σ Q=>(Ek c E st sc).run σ fun f ai=>iE (MF f) ((E.ss r sc).run ai Q) (Q f ai)⟩
noncomputable def RK(l:List V):Option V:=match l with
 |[]=>none
 |d::_=>some d
noncomputable def jE:List Str→List V→List V→Option (List (Str×V))
  |[],vs,_=>bO (ju vs) (some [])
  | x::xs,vs,ds=>match vs with
    |[]=>oO (RK (ds.drop (ds.length - (xs.length+1)))) fun d=>bO (Nat.ble (xs.length+1) ds.length) (oO (jE xs [] ds) fun r=>some ((x,d)::r))
    |v::vs=>oO (jE xs vs ds) fun r=>some ((x,v)::r)
noncomputable def tV:Fl→V
 |.ret v=>v
 |_=>.none
noncomputable def fB(f:bb→V→Option (V×bb)):bb→List V→Option (List V×bb)
 |ob,[]=>some ([],ob)
 |ob,v::r=>oO (f ob v) fun p=>oO (fB f p.2 r) fun q=>some (p.1::q.1,q.2)
noncomputable def q8(f:bb→V→Option (V×bb)):bb→List (Str×V)→Option (List (Str×V)×bb)
 |ob,[]=>some ([],ob)
 |ob,x::r=>oO (f ob x.2) fun p=>oO (q8 f p.2 r) fun q=>some ((x.1,p.1)::q.1,q.2)
noncomputable def kn(f:bb→V→Option (V×bb)):bb→List (V×V)→Option (List (V×V)×bb)
 |ob,[]=>some ([],ob)
 |ob,x::r=>oO (f ob x.2) fun p=>oO (kn f p.2 r) fun q=>some ((x.1,p.1)::q.1,q.2)
noncomputable def eU{α:Type}(o:Option α):Bool:=oX o (fun _=>true) false
noncomputable def QY(f:bb→V→Option (V×bb))(ob:bb)(i:Nat)(o:O):Option (V×bb):=match o with
 |.frz v=>some (v,ob)
 |.list vs=>oO (fB f ob vs) fun p=>bO (eU (oL (p.2.tr.get i))) (some (.list p.1,da p.2 i (.frz (.list p.1))))
 |.dict es=>oO (kn f ob es) fun p=>bO (eU (oD (p.2.tr.get i))) (some (.dict p.1,da p.2 i (.frz (.dict p.1))))
 |.inst _ d=>oO (oN (ob.tr.get d)) fun fs=>oO (q8 f ob fs) fun p=>oO (oI (p.2.tr.get i)) fun q=>bO (aH (eU (oN (p.2.tr.get d))) (aH (Nat.beq q.2 d) (c5 (Nat.beq i d)))) (some (.inst q.1 p.1,mH (da p.2 i (.frz (.inst q.1 p.1))) d))
 |.ns _=>none
noncomputable def freeze(n:Nat):bb→V→Option (V×bb):=@Nat.rec (fun _=>bb→V→Option (V×bb)) (fun _ _=>none) (fun _ f ob v=>oX (vR v) (fun i=>oO (ob.tr.get i) (QY f ob i)) (oX (vT v) (fun vs=>oO (fB f ob vs) fun p=>some (.tup p.1,p.2)) (some (v,ob)))) n
noncomputable def pS(n:Nat):V→Bool:=@Nat.rec (fun _=>V→Bool) (fun _=>false) (fun _ f v=>match v with
 |.ref _=>false
 |.tup vs=>bH f vs
 |.list vs=>bH f vs
 |.inst _ fs=>bH (fun p=>f p.2) fs
 |.dict aU=>bH (fun p=>aH (f p.1) (f p.2)) aU
 |_=>true) n
noncomputable def au(E:Ev)(i:ag)(as:List V)(ob:bb)(Q:V→bb→Prop):Prop:=oP (jE i.ps as i.ds) fun fm=>(E.ss i.body i.sc).run ⟨fm,ob⟩ fun f σ=>Q (tV f) σ.ob
noncomputable def yE(E:Ev)(a f:Addr)(as:List V)(ob:bb)(Q:V→bb→Prop):Prop:=bS ob (.ns []) fun vd gm=>oP (vR vd) fun d=>bS gm (.inst a d) fun vi Q0=>E.call (.glob f) (vi::as) Q0 fun r Gs=>bP (AW r) (Q vi Gs)
noncomputable def Fs(as:List V)(ob:bb):Option (List V×bb):=oO (fB (freeze 12) ob as) fun p=>bO (bH (pS 14) p.1) (some p)
noncomputable def Df(c:df)(n m:Nat)(S:bM)(as:List V)(ob:bb)(Q:V→bb→Prop):Prop:=bP (Nat.ble m n) (oP (Fs as ob) fun p=>S p.1 (fun v=>Q v p.2) c.R)
noncomputable def JS(c:df)(n:Nat)(E:Ev)(a:Addr)(as:List V)(ob:bb)(Q:V→bb→Prop):Prop:=oE (c.C a) (fun p=>Df c n p.1 p.2 as ob Q) (oE (c.FI a) (fun i=>au E i as ob Q) (oP (c.CI a) fun f=>yE E a f as ob Q))
noncomputable def uE(c:df)(n:Nat)(E:Ev)(f:V)(as:List V)(ob:bb)(Q:V→bb→Prop):Prop:=match f with
 |.glob a=>JS c n E a as ob Q
 |.blt i=>JX i as ob Q
 |.typ i=>Kf i as ob Q
 |_=>False
noncomputable def qc(c:df)(n:Nat)(a:Addr)(as:List V)(ob:bb)(Q:V→bb→Prop):Prop:=oP (c.C a) fun p=>bP (Nat.ble p.1 n) (oP (Fs as ob) fun q=>p.2 q.1 (fun v=>Q v q.2) fun C=>bP (Nat.beq C 83) (Q .none q.2))
noncomputable def vx(c:df)(n:Nat)(E:Ev):Ev:=⟨Fm c E,vJ E,CK E,BR c E,uE c n E,E.ex0,qc c n⟩
noncomputable def wm:Ev:=⟨fun _ _=>.bad,fun _ _=>.bad,fun _ _=>.bad,fun _ _=>.bad,fun _ _ _ _=>False,fun _ _=>.bad,fun _ _ _ _=>False⟩
noncomputable def GJ(c:df):Nat→Ev:=fun n=>@Nat.rec (fun _=>Ev) wm (fun n E=>vx {c with R:=fun _=>False} n ⟨E.ex,E.tr,E.es,E.ss,E.call,E.ex,E.heard⟩) n
noncomputable def ev(c:df):Nat→Ev:=fun n=>@Nat.rec (fun _=>Ev) wm (fun n E=>vx c n ⟨E.ex,E.tr,E.es,E.ss,E.call,(GJ c n).ex,E.heard⟩) n
end
theorem bC{p0 p1:Prop}{G:Prop}(h:p0∧p1)(k:p0→p1→G):G:=k h.1 h.2
theorem cf{α0:Sort _}{p0:α0→Prop}{G:Prop}(h:∃x0,p0 x0)(k:∀x0,p0 x0→G):G:=h.elim fun x0 h=>k x0 h
theorem kD{p0 p1 p2:Prop}{G:Prop}(h:p0∧p1∧p2)(k:p0→p1→p2→G):G:=k h.1 h.2.1 h.2.2
theorem av{α0:Sort _}{p0 p1:α0→Prop}{G:Prop}(h:∃x0,p0 x0∧p1 x0)(k:∀x0,p0 x0→p1 x0→G):G:=h.elim fun x0 h=>k x0 h.1 h.2
theorem jr{α0:Sort _}{α1:Sort _}{p0:α0→α1→Prop}{G:Prop}(h:∃x0,∃x1,p0 x0 x1)(k:∀x0 x1,p0 x0 x1→G):G:=h.elim fun x0 h=>h.elim fun x1 h=>k x0 x1 h
theorem AH{p0 p1 p2 p3:Prop}{G:Prop}(h:p0∧p1∧p2∧p3)(k:p0→p1→p2→p3→G):G:=k h.1 h.2.1 h.2.2.1 h.2.2.2
theorem dC{α0:Sort _}{p0 p1 p2:α0→Prop}{G:Prop}(h:∃x0,p0 x0∧p1 x0∧p2 x0)(k:∀x0,p0 x0→p1 x0→p2 x0→G):G:=h.elim fun x0 h=>k x0 h.1 h.2.1 h.2.2
theorem bq{α0:Sort _}{α1:Sort _}{p0 p1:α0→α1→Prop}{G:Prop}(h:∃x0,∃x1,p0 x0 x1∧p1 x0 x1)(k:∀x0 x1,p0 x0 x1→p1 x0 x1→G):G:=h.elim fun x0 h=>h.elim fun x1 h=>k x0 x1 h.1 h.2
theorem Tv{α0:Sort _}{α1:Sort _}{α2:Sort _}{p0:α0→α1→α2→Prop}{G:Prop}(h:∃x0,∃x1,∃x2,p0 x0 x1 x2)(k:∀x0 x1 x2,p0 x0 x1 x2→G):G:=h.elim fun x0 h=>h.elim fun x1 h=>h.elim fun x2 h=>k x0 x1 x2 h
theorem w5{p0 p1 p2 p3 p4:Prop}{G:Prop}(h:p0∧p1∧p2∧p3∧p4)(k:p0→p1→p2→p3→p4→G):G:=k h.1 h.2.1 h.2.2.1 h.2.2.2.1 h.2.2.2.2
theorem N3{α0:Sort _}{p0 p1 p2 p3:α0→Prop}{G:Prop}(h:∃x0,p0 x0∧p1 x0∧p2 x0∧p3 x0)(k:∀x0,p0 x0→p1 x0→p2 x0→p3 x0→G):G:=h.elim fun x0 h=>k x0 h.1 h.2.1 h.2.2.1 h.2.2.2
theorem dT{α0:Sort _}{α1:Sort _}{p0 p1 p2:α0→α1→Prop}{G:Prop}(h:∃x0,∃x1,p0 x0 x1∧p1 x0 x1∧p2 x0 x1)(k:∀x0 x1,p0 x0 x1→p1 x0 x1→p2 x0 x1→G):G:=h.elim fun x0 h=>h.elim fun x1 h=>k x0 x1 h.1 h.2.1 h.2.2
theorem N4{α0:Sort _}{α1:Sort _}{α2:Sort _}{α3:Sort _}{p0:α0→α1→α2→α3→Prop}{G:Prop}(h:∃x0,∃x1,∃x2,∃x3,p0 x0 x1 x2 x3)(k:∀x0 x1 x2 x3,p0 x0 x1 x2 x3→G):G:=h.elim fun x0 h=>h.elim fun x1 h=>h.elim fun x2 h=>h.elim fun x3 h=>k x0 x1 x2 x3 h
theorem MZ{α0:Sort _}{α1:Sort _}{p0 p1 p2 p3:α0→α1→Prop}{G:Prop}(h:∃x0,∃x1,p0 x0 x1∧p1 x0 x1∧p2 x0 x1∧p3 x0 x1)(k:∀x0 x1,p0 x0 x1→p1 x0 x1→p2 x0 x1→p3 x0 x1→G):G:=h.elim fun x0 h=>h.elim fun x1 h=>k x0 x1 h.1 h.2.1 h.2.2.1 h.2.2.2
theorem Jh{α0:Sort _}{α1:Sort _}{α2:Sort _}{p0 p1 p2:α0→α1→α2→Prop}{G:Prop}(h:∃x0,∃x1,∃x2,p0 x0 x1 x2∧p1 x0 x1 x2∧p2 x0 x1 x2)(k:∀x0 x1 x2,p0 x0 x1 x2→p1 x0 x1 x2→p2 x0 x1 x2→G):G:=h.elim fun x0 h=>h.elim fun x1 h=>h.elim fun x2 h=>k x0 x1 x2 h.1 h.2.1 h.2.2
theorem Tc{p0 p1 p2 p3 p4 p5 p6:Prop}{G:Prop}(h:p0∧p1∧p2∧p3∧p4∧p5∧p6)(k:p0→p1→p2→p3→p4→p5→p6→G):G:=k h.1 h.2.1 h.2.2.1 h.2.2.2.1 h.2.2.2.2.1 h.2.2.2.2.2.1 h.2.2.2.2.2.2
theorem O9{α0:Sort _}{α1:Sort _}{p0 p1 p2 p3 p4:α0→α1→Prop}{G:Prop}(h:∃x0,∃x1,p0 x0 x1∧p1 x0 x1∧p2 x0 x1∧p3 x0 x1∧p4 x0 x1)(k:∀x0 x1,p0 x0 x1→p1 x0 x1→p2 x0 x1→p3 x0 x1→p4 x0 x1→G):G:=h.elim fun x0 h=>h.elim fun x1 h=>k x0 x1 h.1 h.2.1 h.2.2.1 h.2.2.2.1 h.2.2.2.2
theorem pN{α0:Sort _}{α1:Sort _}{α2:Sort _}{p0 p1 p2 p3:α0→α1→α2→Prop}{G:Prop}(h:∃x0,∃x1,∃x2,p0 x0 x1 x2∧p1 x0 x1 x2∧p2 x0 x1 x2∧p3 x0 x1 x2)(k:∀x0 x1 x2,p0 x0 x1 x2→p1 x0 x1 x2→p2 x0 x1 x2→p3 x0 x1 x2→G):G:=h.elim fun x0 h=>h.elim fun x1 h=>h.elim fun x2 h=>k x0 x1 x2 h.1 h.2.1 h.2.2.1 h.2.2.2
theorem Gk{α0:Sort _}{α1:Sort _}{α2:Sort _}{α3:Sort _}{α4:Sort _}{α5:Sort _}{p0:α0→α1→α2→α3→α4→α5→Prop}{G:Prop}(h:∃x0,∃x1,∃x2,∃x3,∃x4,∃x5,p0 x0 x1 x2 x3 x4 x5)(k:∀x0 x1 x2 x3 x4 x5,p0 x0 x1 x2 x3 x4 x5→G):G:=h.elim fun x0 h=>h.elim fun x1 h=>h.elim fun x2 h=>h.elim fun x3 h=>h.elim fun x4 h=>h.elim fun x5 h=>k x0 x1 x2 x3 x4 x5 h
theorem TH{p0 p1 p2 p3 p4 p5 p6 p7:Prop}{G:Prop}(h:p0∧p1∧p2∧p3∧p4∧p5∧p6∧p7)(k:p0→p1→p2→p3→p4→p5→p6→p7→G):G:=k h.1 h.2.1 h.2.2.1 h.2.2.2.1 h.2.2.2.2.1 h.2.2.2.2.2.1 h.2.2.2.2.2.2.1 h.2.2.2.2.2.2.2
theorem Vo{α0:Sort _}{α1:Sort _}{p0 p1 p2 p3 p4 p5:α0→α1→Prop}{G:Prop}(h:∃x0,∃x1,p0 x0 x1∧p1 x0 x1∧p2 x0 x1∧p3 x0 x1∧p4 x0 x1∧p5 x0 x1)(k:∀x0 x1,p0 x0 x1→p1 x0 x1→p2 x0 x1→p3 x0 x1→p4 x0 x1→p5 x0 x1→G):G:=h.elim fun x0 h=>h.elim fun x1 h=>k x0 x1 h.1 h.2.1 h.2.2.1 h.2.2.2.1 h.2.2.2.2.1 h.2.2.2.2.2
theorem SN{α0:Sort _}{α1:Sort _}{α2:Sort _}{p0 p1 p2 p3 p4:α0→α1→α2→Prop}{G:Prop}(h:∃x0,∃x1,∃x2,p0 x0 x1 x2∧p1 x0 x1 x2∧p2 x0 x1 x2∧p3 x0 x1 x2∧p4 x0 x1 x2)(k:∀x0 x1 x2,p0 x0 x1 x2→p1 x0 x1 x2→p2 x0 x1 x2→p3 x0 x1 x2→p4 x0 x1 x2→G):G:=h.elim fun x0 h=>h.elim fun x1 h=>h.elim fun x2 h=>k x0 x1 x2 h.1 h.2.1 h.2.2.1 h.2.2.2.1 h.2.2.2.2
theorem nU{α0:Sort _}{α1:Sort _}{α2:Sort _}{α3:Sort _}{p0 p1 p2 p3:α0→α1→α2→α3→Prop}{G:Prop}(h:∃x0,∃x1,∃x2,∃x3,p0 x0 x1 x2 x3∧p1 x0 x1 x2 x3∧p2 x0 x1 x2 x3∧p3 x0 x1 x2 x3)(k:∀x0 x1 x2 x3,p0 x0 x1 x2 x3→p1 x0 x1 x2 x3→p2 x0 x1 x2 x3→p3 x0 x1 x2 x3→G):G:=h.elim fun x0 h=>h.elim fun x1 h=>h.elim fun x2 h=>h.elim fun x3 h=>k x0 x1 x2 x3 h.1 h.2.1 h.2.2.1 h.2.2.2
theorem Tw{α0:Sort _}{α1:Sort _}{p0 p1 p2 p3 p4 p5 p6 p7:α0→α1→Prop}{G:Prop}(h:∃x0,∃x1,p0 x0 x1∧p1 x0 x1∧p2 x0 x1∧p3 x0 x1∧p4 x0 x1∧p5 x0 x1∧p6 x0 x1∧p7 x0 x1)(k:∀x0 x1,p0 x0 x1→p1 x0 x1→p2 x0 x1→p3 x0 x1→p4 x0 x1→p5 x0 x1→p6 x0 x1→p7 x0 x1→G):G:=h.elim fun x0 h=>h.elim fun x1 h=>k x0 x1 h.1 h.2.1 h.2.2.1 h.2.2.2.1 h.2.2.2.2.1 h.2.2.2.2.2.1 h.2.2.2.2.2.2.1 h.2.2.2.2.2.2.2
theorem QC{α0:Sort _}{α1:Sort _}{α2:Sort _}{p0 p1 p2 p3 p4 p5 p6:α0→α1→α2→Prop}{G:Prop}(h:∃x0,∃x1,∃x2,p0 x0 x1 x2∧p1 x0 x1 x2∧p2 x0 x1 x2∧p3 x0 x1 x2∧p4 x0 x1 x2∧p5 x0 x1 x2∧p6 x0 x1 x2)(k:∀x0 x1 x2,p0 x0 x1 x2→p1 x0 x1 x2→p2 x0 x1 x2→p3 x0 x1 x2→p4 x0 x1 x2→p5 x0 x1 x2→p6 x0 x1 x2→G):G:=h.elim fun x0 h=>h.elim fun x1 h=>h.elim fun x2 h=>k x0 x1 x2 h.1 h.2.1 h.2.2.1 h.2.2.2.1 h.2.2.2.2.1 h.2.2.2.2.2.1 h.2.2.2.2.2.2
theorem SQ{α0:Sort _}{α1:Sort _}{α2:Sort _}{α3:Sort _}{α4:Sort _}{α5:Sort _}{α6:Sort _}{α7:Sort _}{α8:Sort _}{p0:α0→α1→α2→α3→α4→α5→α6→α7→α8→Prop}{G:Prop}(h:∃x0,∃x1,∃x2,∃x3,∃x4,∃x5,∃x6,∃x7,∃x8,p0 x0 x1 x2 x3 x4 x5 x6 x7 x8)(k:∀x0 x1 x2 x3 x4 x5 x6 x7 x8,p0 x0 x1 x2 x3 x4 x5 x6 x7 x8→G):G:=h.elim fun x0 h=>h.elim fun x1 h=>h.elim fun x2 h=>h.elim fun x3 h=>h.elim fun x4 h=>h.elim fun x5 h=>h.elim fun x6 h=>h.elim fun x7 h=>h.elim fun x8 h=>k x0 x1 x2 x3 x4 x5 x6 x7 x8 h
theorem U2{α0:Sort _}{α1:Sort _}{α2:Sort _}{α3:Sort _}{p0 p1 p2 p3 p4 p5 p6:α0→α1→α2→α3→Prop}{G:Prop}(h:∃x0,∃x1,∃x2,∃x3,p0 x0 x1 x2 x3∧p1 x0 x1 x2 x3∧p2 x0 x1 x2 x3∧p3 x0 x1 x2 x3∧p4 x0 x1 x2 x3∧p5 x0 x1 x2 x3∧p6 x0 x1 x2 x3)(k:∀x0 x1 x2 x3,p0 x0 x1 x2 x3→p1 x0 x1 x2 x3→p2 x0 x1 x2 x3→p3 x0 x1 x2 x3→p4 x0 x1 x2 x3→p5 x0 x1 x2 x3→p6 x0 x1 x2 x3→G):G:=h.elim fun x0 h=>h.elim fun x1 h=>h.elim fun x2 h=>h.elim fun x3 h=>k x0 x1 x2 x3 h.1 h.2.1 h.2.2.1 h.2.2.2.1 h.2.2.2.2.1 h.2.2.2.2.2.1 h.2.2.2.2.2.2
theorem R9{α0:Sort _}{α1:Sort _}{α2:Sort _}{α3:Sort _}{α4:Sort _}{p0 p1 p2 p3 p4 p5:α0→α1→α2→α3→α4→Prop}{G:Prop}(h:∃x0,∃x1,∃x2,∃x3,∃x4,p0 x0 x1 x2 x3 x4∧p1 x0 x1 x2 x3 x4∧p2 x0 x1 x2 x3 x4∧p3 x0 x1 x2 x3 x4∧p4 x0 x1 x2 x3 x4∧p5 x0 x1 x2 x3 x4)(k:∀x0 x1 x2 x3 x4,p0 x0 x1 x2 x3 x4→p1 x0 x1 x2 x3 x4→p2 x0 x1 x2 x3 x4→p3 x0 x1 x2 x3 x4→p4 x0 x1 x2 x3 x4→p5 x0 x1 x2 x3 x4→G):G:=h.elim fun x0 h=>h.elim fun x1 h=>h.elim fun x2 h=>h.elim fun x3 h=>h.elim fun x4 h=>k x0 x1 x2 x3 x4 h.1 h.2.1 h.2.2.1 h.2.2.2.1 h.2.2.2.2.1 h.2.2.2.2.2
theorem Qx{α0:Sort _}{α1:Sort _}{α2:Sort _}{α3:Sort _}{α4:Sort _}{α5:Sort _}{p0 p1 p2 p3 p4:α0→α1→α2→α3→α4→α5→Prop}{G:Prop}(h:∃x0,∃x1,∃x2,∃x3,∃x4,∃x5,p0 x0 x1 x2 x3 x4 x5∧p1 x0 x1 x2 x3 x4 x5∧p2 x0 x1 x2 x3 x4 x5∧p3 x0 x1 x2 x3 x4 x5∧p4 x0 x1 x2 x3 x4 x5)(k:∀x0 x1 x2 x3 x4 x5,p0 x0 x1 x2 x3 x4 x5→p1 x0 x1 x2 x3 x4 x5→p2 x0 x1 x2 x3 x4 x5→p3 x0 x1 x2 x3 x4 x5→p4 x0 x1 x2 x3 x4 x5→G):G:=h.elim fun x0 h=>h.elim fun x1 h=>h.elim fun x2 h=>h.elim fun x3 h=>h.elim fun x4 h=>h.elim fun x5 h=>k x0 x1 x2 x3 x4 x5 h.1 h.2.1 h.2.2.1 h.2.2.2.1 h.2.2.2.2
theorem SU{α0:Sort _}{α1:Sort _}{α2:Sort _}{α3:Sort _}{α4:Sort _}{α5:Sort _}{α6:Sort _}{α7:Sort _}{α8:Sort _}{p0 p1:α0→α1→α2→α3→α4→α5→α6→α7→α8→Prop}{G:Prop}(h:∃x0,∃x1,∃x2,∃x3,∃x4,∃x5,∃x6,∃x7,∃x8,p0 x0 x1 x2 x3 x4 x5 x6 x7 x8∧p1 x0 x1 x2 x3 x4 x5 x6 x7 x8)(k:∀x0 x1 x2 x3 x4 x5 x6 x7 x8,p0 x0 x1 x2 x3 x4 x5 x6 x7 x8→p1 x0 x1 x2 x3 x4 x5 x6 x7 x8→G):G:=h.elim fun x0 h=>h.elim fun x1 h=>h.elim fun x2 h=>h.elim fun x3 h=>h.elim fun x4 h=>h.elim fun x5 h=>h.elim fun x6 h=>h.elim fun x7 h=>h.elim fun x8 h=>k x0 x1 x2 x3 x4 x5 x6 x7 x8 h.1 h.2
theorem Vj{α0:Sort _}{α1:Sort _}{α2:Sort _}{α3:Sort _}{α4:Sort _}{p0 p1 p2 p3 p4 p5 p6:α0→α1→α2→α3→α4→Prop}{G:Prop}(h:∃x0,∃x1,∃x2,∃x3,∃x4,p0 x0 x1 x2 x3 x4∧p1 x0 x1 x2 x3 x4∧p2 x0 x1 x2 x3 x4∧p3 x0 x1 x2 x3 x4∧p4 x0 x1 x2 x3 x4∧p5 x0 x1 x2 x3 x4∧p6 x0 x1 x2 x3 x4)(k:∀x0 x1 x2 x3 x4,p0 x0 x1 x2 x3 x4→p1 x0 x1 x2 x3 x4→p2 x0 x1 x2 x3 x4→p3 x0 x1 x2 x3 x4→p4 x0 x1 x2 x3 x4→p5 x0 x1 x2 x3 x4→p6 x0 x1 x2 x3 x4→G):G:=h.elim fun x0 h=>h.elim fun x1 h=>h.elim fun x2 h=>h.elim fun x3 h=>h.elim fun x4 h=>k x0 x1 x2 x3 x4 h.1 h.2.1 h.2.2.1 h.2.2.2.1 h.2.2.2.2.1 h.2.2.2.2.2.1 h.2.2.2.2.2.2
section
noncomputable def O.live:O→Bool
 |.frz _=>false
 |_=>true
structure Pm where
 p:Params
 T:Nat→V
namespace Tr
theorem Fg{α:Type}(i:Nat)(a b c:α):(match Nat.beq i 0 with|true=>a|false=>match Nat.beq (i % 2) 1 with|true=>b|false=>c)=if i=0 then a else if i % 2=1 then b else c:=by
 rw[BT.beq_eq,BT.beq_eq]
 by_cases h:i=0
 ·simp[h]
 ·by_cases q:i % 2=1 <;> simp[h,q]
theorem uc(v:Option O)(l r:Tr)(i:Nat):(node v l r).get i=if i=0 then v else if i % 2=1 then l.get (i / 2)else r.get (i / 2 - 1):=Fg ..
theorem uW(v:Option O)(l r:Tr)(i:Nat)(o:Option O):(node v l r).set i o=if i=0 then node o l r else if i % 2=1 then node v (l.set (i / 2) o) r else node v l (r.set (i / 2 - 1) o):=Fg ..
theorem uh(v:Option O)(l r:Tr)(i:Nat)(o:O):(node v l r).ins i o=if i=0 then node (some o) l r else if i % 2=1 then node v (l.ins (i / 2) o) r else node v l (r.ins (i / 2 - 1) o):=Fg ..
theorem Ni(i:Nat){G:Prop}(h0:i=0→G)(h1:∀b,i=2*b+1→G)(h2:∀b,i=2*b+2→G):G:=by
 rcases Nat.eq_zero_or_pos i with h|h
 ·exact h0 h
 rcases Nat.mod_two_eq_zero_or_one i with p|p
 ·exact h2 (i / 2 - 1) (by omega)
 ·exact h1 (i / 2) (by omega)
theorem TV{α:Type}(b:Nat)(x:α)(f g:Nat→α):(if 2*b+1=0 then x else if(2*b+1) % 2=1 then f ((2*b+1) / 2)else g ((2*b+1) / 2 - 1))=f b:=by
 rw[if_neg (Nat.succ_ne_zero _),if_pos (by omega),show(2*b+1) / 2=b by omega]
theorem S9{α:Type}(b:Nat)(x:α)(f g:Nat→α):(if 2*b+2=0 then x else if(2*b+2) % 2=1 then f ((2*b+2) / 2)else g ((2*b+2) / 2 - 1))=g b:=by
 rw[if_neg (Nat.succ_ne_zero _),if_neg (by omega),show(2*b+2) / 2 - 1=b by omega]
section
variable (v:Option O)(l r:Tr)(b:Nat)
theorem jI:(node v l r).get (2*b+1)=l.get b:=(uc ..).trans (TV b v l.get r.get)
theorem jH:(node v l r).get (2*b+2)=r.get b:=(uc ..).trans (S9 b v l.get r.get)
theorem PY(o:Option O):(node v l r).set (2*b+1) o=node v (l.set b o) r:=(uW ..).trans (TV b _ (fun b=>node v (l.set b o) r) fun b=>node v l (r.set b o))
theorem QH(o:Option O):(node v l r).set (2*b+2) o=node v l (r.set b o):=(uW ..).trans (S9 b _ (fun b=>node v (l.set b o) r) fun b=>node v l (r.set b o))
theorem Kh(o:O):(node v l r).ins (2*b+1) o=node v (l.ins b o) r:=(uh ..).trans (TV b _ (fun b=>node v (l.ins b o) r) fun b=>node v l (r.ins b o))
theorem JK(o:O):(node v l r).ins (2*b+2) o=node v l (r.ins b o):=(uh ..).trans (S9 b _ (fun b=>node v (l.ins b o) r) fun b=>node v l (r.ins b o))
end
theorem Vq(v o:Option O)(l r:Tr)(i:Nat):(node o l r).get i=if i=0 then o else(node v l r).get i:=by
 refine Ni i (fun h=>?_) (fun b h=>?_) fun b h=>?_ <;> subst h
 ·rfl
 ·rw[jI,jI];exact(if_neg (Nat.succ_ne_zero _)).symm
 ·rw[jH,jH];exact(if_neg (Nat.succ_ne_zero _)).symm
theorem VZ{l l':Tr}{o:Option O}{a:Nat}(v:Option O)(r:Tr)(h:∀i,l'.get i=if i=a then o else l.get i)(i:Nat):(node v l' r).get i=if i=2*a+1 then o else(node v l r).get i:=by
 refine Ni i (fun e=>?_) (fun b e=>?_) fun b e=>?_ <;> subst e
 ·exact(if_neg (Nat.succ_ne_zero _).symm).symm
 ·rw[jI,jI,h b]
  by_cases e:b=a
  ·rw[if_pos e,if_pos (by rw[e])]
  ·rw[if_neg e,if_neg (by omega)]
 ·rw[jH,jH,if_neg (by omega)]
theorem V6{r r':Tr}{o:Option O}{a:Nat}(v:Option O)(l:Tr)(h:∀i,r'.get i=if i=a then o else r.get i)(i:Nat):(node v l r').get i=if i=2*a+2 then o else(node v l r).get i:=by
 refine Ni i (fun e=>?_) (fun b e=>?_) fun b e=>?_ <;> subst e
 ·exact(if_neg (Nat.succ_ne_zero _).symm).symm
 ·rw[jI,jI,if_neg (by omega)]
 ·rw[jH,jH,h b]
  by_cases e:b=a
  ·rw[if_pos e,if_pos (by rw[e])]
  ·rw[if_neg e,if_neg (by omega)]
theorem get_set(o:Option O)(t:Tr):∀(a i:Nat),(t.get a).isSome=true→(t.set a o).get i=if i=a then o else t.get i:=by
  induction t with
  |nil=>intro _ _ h;cases h
  | node v l r ih1 ih2=>
    intro a i h
    refine Ni a (fun e=>?_) (fun b e=>?_) fun b e=>?_ <;> subst e
    · exact Vq v o l r i
    · rw[jI]at h;rw[PY];exact VZ v r (fun i=>ih1 b i h) i
    · rw[jH]at h;rw[QH];exact V6 v l (fun i=>ih2 b i h) i
theorem nn(i:Nat):(node none nil nil).get i=none:=by
 refine Ni i (fun e=>?_) (fun b e=>?_) fun b e=>?_ <;> subst e
 ·rfl
 ·rw[jI];rfl
 ·rw[jH];rfl
theorem get_ins(o:O)(t:Tr):∀(a:Nat),((t.ins a o).get a).isSome=true→∀i,(t.ins a o).get i=if i=a then some o else t.get i:=by
  induction t with
  | nil=>
    intro a h i
    refine Ni a (fun e=>?_) (fun b e=>?_) fun b e=>?_ <;> subst e
    · exact(Vq none (some o) nil nil i).trans (by rw[nn];rfl)
    · have h:((node (some o) nil nil).get (2*b+1)).isSome=true:=h
      rw[jI]at h;cases h
    · have h:((node (some o) nil nil).get (2*b+2)).isSome=true:=h
      rw[jH]at h;cases h
  | node v l r ih1 ih2=>
    intro a h i
    refine Ni a (fun e=>?_) (fun b e=>?_) fun b e=>?_ <;> subst e
    · exact Vq v (some o) l r i
    · rw[Kh,jI]at h;rw[Kh];exact VZ v r (ih1 b h) i
    · rw[JK,jH]at h;rw[JK];exact V6 v l (ih2 b h) i
end Tr
noncomputable abbrev HP:=Addr→Obj→Prop
noncomputable def aF(a:Array UInt8):List Int:=a.toList.map fun b=>(b.toNat:Int)
noncomputable abbrev fJ(rs:List Value):Obj:=⟨.type "tuple",none,.seq rs.toArray 0,#[]⟩
noncomputable abbrev jZ(n:Int)(t u v:Tok):Obj:={cls:=.type "range",dict:=none,data:=.fields #[.int 0 t,.int n u,.int 1 v],slots:=#[]}
noncomputable abbrev aN(rs:List Value)(n:Nat):Obj:=W.listOf rs.toArray n
inductive eI(P:Pm):V→Int→Prop
 |str {k x}:eI P (.str k x) (PyData.keyHash P.p x)
 |int {k x}:eI P (.int k x) (hashInt x)
 |tup {a b c x y z}:eI P (.tup [.int a x,.int b y,.int c z]) (reduceHash (Builtin.Tuple.tupleHashOf [hashInt x,hashInt y,hashInt z]))
noncomputable def bG(aU:List (V×V)):Prop:=aU.Pairwise fun a b=>bY a.1 b.1=false
mutual
inductive aj(P:Pm)(H:HP)(ρ:List Addr):V→Value→Prop
 |none:aj P H ρ .none .none
 |bool {k b}:aj P H ρ (.bool k b) (.bool b)
 |int {k x t}:aj P H ρ (.int k x) (.int x t)
 |str {k x t}:PyData.strOk x=true→aj P H ρ (.str k x) (.str x t)
 |bytes {k a t}:aj P H ρ (.bytes k (aF a)) (.bytes a t)
 |irow {k xs rs a n}:H a (aN rs n)→IntsAre rs xs→aj P H ρ (.irow k xs) (.ref a)
 |tup {vs rs a}:H a (fJ rs)→ak P H ρ vs rs→aj P H ρ (.tup vs) (.ref a)
 |inst {C fs a d es n}:H a (instObj C d)→H d (dictOf es n)→bV P H ρ fs es→aj P H ρ (.inst C fs) (.ref a)
 |list {vs rs a n}:H a (aN rs n)→ak P H ρ vs rs→aj P H ρ (.list vs) (.ref a)
 |dict {aU a es n}:H a (dictOf es n)→(a==sysModules)=false→bG aU→cu P H ρ aU es→aj P H ρ (.dict aU) (.ref a)
 |ref {i a}:ρ[i]?=some a→aj P H ρ (.ref i) (.ref a)
 |glob {a}:aj P H ρ (.glob a) (.ref a)
 |blt {s}:aj P H ρ (.blt s) (.builtin s.name)
 |typ {s}:aj P H ρ (.typ s) (.type s.name)
 |named {k r}:aj P H ρ (P.T k) r→aj P H ρ (.named k) r
 |rng {k n a t u v}:H a (jZ n t u v)→aj P H ρ (.rng k n) (.ref a)
inductive ak(P:Pm)(H:HP)(ρ:List Addr):List V→List Value→Prop
 |nil:ak P H ρ [] []
 |cons {v r vs rs}:aj P H ρ v r→ak P H ρ vs rs→ak P H ρ (v::vs) (r::rs)
inductive bV(P:Pm)(H:HP)(ρ:List Addr):List (Str×V)→List DictEntry→Prop
 |nil:bV P H ρ [] []
 |cons {x v t r fs es}:aj P H ρ v r→bV P H ρ fs es→bV P H ρ ((x,v)::fs) (⟨PyData.keyHash P.p x,.str x t,r⟩::es)
inductive cu(P:Pm)(H:HP)(ρ:List Addr):List (V×V)→List DictEntry→Prop
 |nil:cu P H ρ [] []
 |cons {kv v hs kr r aU es}:aj P H ρ kv kr→eI P kv hs→aj P H ρ v r→cu P H ρ aU es→cu P H ρ ((kv,v)::aU) (⟨hs,kr,r⟩::es)
end
noncomputable def cF(ρ ρ':List Addr):Prop:=∀(i:Nat) (a:Addr),ρ[i]?=some a→ρ'[i]?=some a
theorem cF.refl{ρ:List Addr}:cF ρ ρ:=fun _ _ e=>e
theorem cF.trans{ρ ρ' ρ'':List Addr}(x:cF ρ ρ')(y:cF ρ' ρ''):cF ρ ρ'':=fun i a e=>y i a (x i a e)
theorem cF.more{ρ:List Addr}{a:Addr}:cF ρ (ρ++[a]):=fun i b e=>by
 rw[List.getElem?_append_left (by
  rcases Nat.lt_or_ge i ρ.length with h|h
  ·exact h
  ·rw[List.getElem?_eq_none h]at e;cases e)]
 exact e
noncomputable def GK(H H':HP):Prop:=∀a o,H a o→(∀v,o.data≠.cell v)→H' a o
theorem VW{rs:List Value}{n:Nat}(v:Option Value):(aN rs n).data≠.cell v:=by intro e;cases e
theorem Wv{rs:List Value}(v:Option Value):(fJ rs).data≠.cell v:=by intro e;cases e
theorem Wi{C d:Addr}(v:Option Value):(instObj C d).data≠.cell v:=by intro e;cases e
theorem V0{es:List DictEntry}{n:Nat}(v:Option Value):(dictOf es n).data≠.cell v:=by intro e;cases e
theorem Wo{n:Int}{t u x:Tok}(v:Option Value):(jZ n t u x).data≠.cell v:=by intro e;cases e
theorem aj.cut{P:Pm}{H H':HP}{ρ ρ':List Addr}(hH:GK H H')(hρ:cF ρ ρ'){v:V}{r:Value}(h:aj P H ρ v r):aj P H' ρ' v r:=
 have z {a o} (x:H a o) (q:∀v,o.data≠.cell v):H' a o:=hH _ _ x q
 aj.rec (motive_1:=fun v r _=>aj P H' ρ' v r) (motive_2:=fun v r _=>ak P H' ρ' v r) (motive_3:=fun v r _=>bV P H' ρ' v r) (motive_4:=fun v r _=>cu P H' ρ' v r)
  .none .bool .int .str .bytes (fun a b=>.irow (z a VW) b) (fun a _ i=>.tup (z a Wv) i) (fun a b _ i=>.inst (z a Wi) (z b V0) i) (fun a _ i=>.list (z a VW) i) (fun a b c _ i=>.dict (z a V0) b c i)
  (fun a=>.ref (hρ _ _ a)) .glob .blt .typ (fun _ i=>.named i) (fun a=>.rng (z a Wo)) .nil (fun _ _ i j=>.cons i j) .nil (fun _ _ i j=>.cons i j) .nil (fun _ b _ _ i j k=>.cons i b j k) h
theorem ak.imp{P P':Pm}{H H':HP}{ρ ρ':List Addr}(f:∀v r,aj P H ρ v r→aj P' H' ρ' v r){v:List V}:∀{r:List Value},ak P H ρ v r→ak P' H' ρ' v r:=by
 induction v with
 |nil=>intro r h;cases h;exact .nil
 |cons _ _ ih=>intro r h;cases h with|cons a b=>exact .cons (f _ _ a) (ih b)
theorem bV.imp{P:Pm}{H H':HP}{ρ ρ':List Addr}(f:∀v r,aj P H ρ v r→aj P H' ρ' v r){v:List (Str×V)}:∀{r:List DictEntry},bV P H ρ v r→bV P H' ρ' v r:=by
 induction v with
 |nil=>intro r h;cases h;exact .nil
 |cons _ _ ih=>intro r h;cases h with|cons a b=>exact .cons (f _ _ a) (ih b)
theorem cu.imp{P:Pm}{H H':HP}{ρ ρ':List Addr}(f:∀v r,aj P H ρ v r→aj P H' ρ' v r){v:List (V×V)}:∀{r:List DictEntry},cu P H ρ v r→cu P H' ρ' v r:=by
 induction v with
 |nil=>intro r h;cases h;exact .nil
 |cons _ _ ih=>intro r h;cases h with|cons a b c d=>exact .cons (f _ _ a) b (f _ _ c) (ih d)
theorem ak.cut{P:Pm}{H H':HP}{ρ ρ':List Addr}(hH:GK H H')(hρ:cF ρ ρ'){v:List V}{r:List Value}(h:ak P H ρ v r):ak P H' ρ' v r:=h.imp fun _ _=>.cut hH hρ
theorem bV.cut{P:Pm}{H H':HP}{ρ ρ':List Addr}(hH:GK H H')(hρ:cF ρ ρ'){v:List (Str×V)}{r:List DictEntry}(h:bV P H ρ v r):bV P H' ρ' v r:=h.imp fun _ _=>.cut hH hρ
theorem cu.cut{P:Pm}{H H':HP}{ρ ρ':List Addr}(hH:GK H H')(hρ:cF ρ ρ'){v:List (V×V)}{r:List DictEntry}(h:cu P H ρ v r):cu P H' ρ' v r:=h.imp fun _ _=>.cut hH hρ
theorem aj.mono{P:Pm}{H H':HP}{ρ ρ':List Addr}(hH:∀a o,H a o→H' a o)(hρ:cF ρ ρ'){v:V}{r:Value}(h:aj P H ρ v r):aj P H' ρ' v r:=h.cut (fun a o e _=>hH a o e) hρ
theorem ak.mono{P:Pm}{H H':HP}{ρ ρ':List Addr}(hH:∀a o,H a o→H' a o)(hρ:cF ρ ρ'){v:List V}{r:List Value}(h:ak P H ρ v r):ak P H' ρ' v r:=h.cut (fun a o e _=>hH a o e) hρ
theorem bV.mono{P:Pm}{H H':HP}{ρ ρ':List Addr}(hH:∀a o,H a o→H' a o)(hρ:cF ρ ρ'){v:List (Str×V)}{r:List DictEntry}(h:bV P H ρ v r):bV P H' ρ' v r:=h.cut (fun a o e _=>hH a o e) hρ
theorem cu.mono{P:Pm}{H H':HP}{ρ ρ':List Addr}(hH:∀a o,H a o→H' a o)(hρ:cF ρ ρ'){v:List (V×V)}{r:List DictEntry}(h:cu P H ρ v r):cu P H' ρ' v r:=h.cut (fun a o e _=>hH a o e) hρ
noncomputable abbrev cq:=Str→Option Value
inductive dJ(P:Pm)(H:HP)(ρ:List Addr)(h:Heap)(a:Addr):O→Prop
 |list {vs rs n}:h.get? a=some (aN rs n)→ak P H ρ vs rs→dJ P H ρ h a (.list vs)
 |dict {aU es n}:h.get? a=some (dictOf es n)→(a==sysModules)=false→bG aU→cu P H ρ aU es→dJ P H ρ h a (.dict aU)
 |inst {C d dx}:h.get? a=some (instObj C dx)→ρ[d]?=some dx→dJ P H ρ h a (.inst C d)
 |ns {fs es n}:h.get? a=some (dictOf es n)→bV P H ρ fs es→dJ P H ρ h a (.ns fs)
 |frz {v}:aj P H ρ v (.ref a)→dJ P H ρ h a (.frz v)
theorem dJ.cut{P:Pm}{H H':HP}{ρ ρ':List Addr}{h h':Heap}{a:Addr}(hH:GK H H')(hρ:cF ρ ρ')(hk:∀o,h.get? a=some o→h'.get? a=some o):∀{o:O},dJ P H ρ h a o→dJ P H' ρ' h' a o
 |_,.list x y=>.list (hk _ x) (y.cut hH hρ)
 |_,.dict x u v y=>.dict (hk _ x) u v (y.cut hH hρ)
 |_,.inst x y=>.inst (hk _ x) (hρ _ _ y)
 |_,.ns x y=>.ns (hk _ x) (y.cut hH hρ)
 |_,.frz y=>.frz (y.cut hH hρ)
theorem dJ.mono{P:Pm}{H H':HP}{ρ ρ':List Addr}{h h':Heap}{a:Addr}(hH:∀a o,H a o→H' a o)(hρ:cF ρ ρ')(hk:∀o,h.get? a=some o→h'.get? a=some o){o:O}(x:dJ P H ρ h a o):dJ P H' ρ' h' a o:=x.cut (fun a o e _=>hH a o e) hρ hk
structure Fp where
 φ:HP→Obj→Prop
 cut:∀{H H':HP} {o:Obj},GK H H'→φ H o→φ H' o
theorem Fp.mono(p:Fp){H H':HP}{o:Obj}(k:∀a o,H a o→H' a o)(h:p.φ H o):p.φ H' o:=p.cut (fun a o e _=>k a o e) h
noncomputable abbrev h9(φ:Obj→Prop):Fp:=⟨fun _=>φ,fun _ h=>h⟩
noncomputable abbrev a6:=List (Addr×Fp)
noncomputable def xH(m:cq):Obj→Prop:=fun o=>∃es ep,o.data=.dict es ep∧StrKeys es∧∀name:Str,nsFind es name=m name
noncomputable abbrev a7(m:cq):Fp:=h9 (xH m)
theorem dq{h:Heap}{a:Addr}{m:cq}:(∃o,h.get? a=some o∧xH m o)↔h.Ns a m:=
 ⟨fun⟨o,e,es,ep,r⟩=>⟨o,es,ep,e,r⟩,fun⟨o,es,ep,e,r⟩=>⟨o,e,es,ep,r⟩⟩
structure Ko(base:Heap)(H:HP)(ae:a6)(a:Addr):Prop where
 nb:base.get? a=none
 nH:∀o,¬H a o
 nf:a∉ae.map (·.1)
structure a8(P:Pm)(base:Heap)(H:HP)(ρ:List Addr)(ae:a6)(ob:Tr)(h:Heap):Prop where
 keep:∀b o,base.get? b=some o→h.get? b=some o
 frz:∀a o,H a o→h.get? a=some o
 frNs:∀p∈ae,∃o,h.get? p.1=some o∧p.2.φ H o
 frNew:∀p∈ae,base.get? p.1=none∧∀o,¬H p.1 o
 frDup:(ae.map (·.1)).Nodup
 own:∀i o,ob.get i=some o→∃a,ρ[i]?=some a∧dJ P H ρ h a o∧(o.live=true→Ko base H ae a)
 dup:ρ.Nodup
 there:∀a∈ρ,∃o,h.get? a=some o
 rf:∀a∈ρ,a∉ae.map (·.1)
theorem j0{base h:Heap}{a:Addr}(k:∀b o,base.get? b=some o→h.get? b=some o)(ha:h.objs.size≤a):base.get? a=none:=by
 cases q:base.get? a with
 |none=>rfl
 |some o=>exact absurd (Heap.lt_size (k _ _ q)) (Nat.not_lt.mpr ha)
noncomputable def HP.and(H:HP)(a:Addr)(o:Obj):HP:=fun b x=>H b x∨(b=a∧x=o)
theorem HP.le{H:HP}{a:Addr}{o:Obj}:∀b x,H b x→(H.and a o) b x:=fun _ _ e=>.inl e
theorem HP.new{H:HP}{a:Addr}{o:Obj}:(H.and a o) a o:=.inr ⟨rfl,rfl⟩
theorem fR{base B:Heap}(k:∀b o,base.get? b=some o→B.get? b=some o){b:Addr}(e:B.get? b=none):base.get? b=none:=by
 cases q:base.get? b with
 |none=>rfl
 |some o=>rw[k b o q]at e;cases e
section
variable {P:Pm}{base h h':Heap}{H:HP}{ρ:List Addr}{ae:a6}{ob:Tr}
theorem a8.perm{frs':a6}(I:a8 P base H ρ ae ob h)(p:ae.Perm frs'):a8 P base H ρ frs' ob h:=
 ⟨I.keep,I.frz,fun q hq=>I.frNs q (p.mem_iff.mpr hq),fun q hq=>I.frNew q (p.mem_iff.mpr hq),(p.map (·.1)).nodup_iff.mp I.frDup,fun i o e=>let ⟨a,h1,h2,h3⟩:=I.own i o e;⟨a,h1,h2,fun l=>⟨(h3 l).nb,(h3 l).nH,fun z=>(h3 l).nf ((p.map (·.1)).mem_iff.mpr z)⟩⟩,I.dup,I.there,fun a ha z=>I.rf a ha ((p.map (·.1)).mem_iff.mpr z)⟩
theorem a8.lt(I:a8 P base H ρ ae ob h){a:Addr}(ha:a∈ρ):a < h.objs.size:=let ⟨_,e⟩:=I.there a ha;Heap.lt_size e
theorem a8.topNew(I:a8 P base H ρ ae ob h):base.get? h.objs.size=none:=j0 I.keep (Nat.le_refl _)
theorem a8.topH(I:a8 P base H ρ ae ob h)(o:Obj):¬H h.objs.size o:=fun z=>absurd (Heap.lt_size (I.frz _ _ z)) (Nat.lt_irrefl _)
theorem a8.topF(I:a8 P base H ρ ae ob h):h.objs.size∉ae.map (·.1):=fun z=>by
 refine av (List.mem_map.mp z) fun p hp e=>?_
 refine av (I.frNs p hp) fun o ho _=>?_
 have:=Heap.lt_size ho
 rw[e]at this
 exact absurd this (Nat.lt_irrefl _)
theorem a8.topR(I:a8 P base H ρ ae ob h):h.objs.size∉ρ:=fun z=>absurd (I.lt z) (Nat.lt_irrefl _)
theorem a8.keeps(I:a8 P base H ρ ae ob h)(k:∀b o,h.get? b=some o→h'.get? b=some o):a8 P base H ρ ae ob h' where
 keep b o e:=k _ _ (I.keep b o e)
 frz a o e:=k _ _ (I.frz a o e)
 frNs p hp:=let ⟨o,e,f⟩:=I.frNs p hp;⟨o,k _ _ e,f⟩
 frNew:=I.frNew
 frDup:=I.frDup
 own i o e:=let ⟨a,h1,h2,h3⟩:=I.own i o e;⟨a,h1,h2.mono (fun _ _ x=>x) .refl (fun _ x=>k _ _ x),h3⟩
 dup:=I.dup
 there a ha:=let ⟨o,e⟩:=I.there a ha;⟨o,k _ _ e⟩
 rf:=I.rf
theorem a8.push(I:a8 P base H ρ ae ob h)(o:Obj)(hf:o.isFreed=false:=by rfl):a8 P base (H.and h.objs.size o) ρ ae ob (h.push o):=by
 have k:∀b x,h.get? b=some x→(h.push o).get? b=some x:=fun b x e=>Heap.get?_push_of_some _ e
 have J:=I.keeps k
 refine{J with frz:=?_,frNs:=fun p hp=>let ⟨o,e,f⟩:=J.frNs p hp;⟨o,e,p.2.mono HP.le f⟩,frNew:=?_,own:=?_}
 ·rintro a x (e|⟨rfl,rfl⟩)
  ·exact J.frz a x e
  ·exact Heap.get?_push_size _ hf
 ·intro p hp
  refine⟨(I.frNew p hp).1,?_⟩
  rintro x (e|⟨e,rfl⟩)
  ·exact(I.frNew p hp).2 x e
  ·exact I.topF (List.mem_map.mpr ⟨p,hp,e⟩)
 ·intro i x e
  refine dC (J.own i x e) fun a h1 h2 h3=>?_
  refine⟨a,h1,h2.mono (fun _ _ x=>.inl x) .refl (fun _ x=>x),fun q=>⟨(h3 q).nb,?_,(h3 q).nf⟩⟩
  rintro y (e'|⟨e',rfl⟩)
  ·exact(h3 q).nH y e'
  ·exact I.topR (e'▸List.mem_of_getElem? h1)
theorem a8.freeze (I:a8 P base H ρ ae ob h) {i:Nat} {a:Addr} {x:O} {o:Obj} {v:V} {ob':Tr} (hi:ob.get i=some x) (hl:x.live=true) (ha:ρ[i]?=some a) (ho:h.get? a=some o)
    (hob:∀j,ob'.get j=if j=i then some (.frz v)else ob.get j) (hv:aj P (H.and a o) ρ v (.ref a)):a8 P base (H.and a o) ρ ae ob' h:=by
  refine dC (I.own i x hi) fun a' h1 h2 h3=>?_
  obtain rfl:a'=a:=Option.some.inj (h1.symm.trans ha)
  have h3:=h3 hl
  refine⟨I.keep,?_,fun p hp=>let ⟨o,e,f⟩:=I.frNs p hp;⟨o,e,p.2.mono HP.le f⟩,fun p hp=>⟨(I.frNew p hp).1,?_⟩,I.frDup,fun j y e=>?_,I.dup,I.there,I.rf⟩
  · rintro b y (e|⟨rfl,rfl⟩)
    · exact I.frz b y e
    · exact ho
  · rintro y (e|⟨e,rfl⟩)
    · exact(I.frNew p hp).2 y e
    · exact h3.nf (List.mem_map.mpr ⟨p,hp,e⟩)
  · rw [hob]at e
    by_cases q:j=i
    · subst q
      rw[if_pos rfl]at e
      cases e
      exact⟨a',h1,.frz hv,fun q=>by cases q⟩
    · rw[if_neg q]at e
      refine dC (I.own j y e) fun b g1 g2 g3=>?_
      refine⟨b,g1,g2.mono (fun _ _ x=>.inl x) .refl (fun _ x=>x),fun l=>⟨(g3 l).nb,?_,(g3 l).nf⟩⟩
      rintro z (e'|⟨e',rfl⟩)
      · exact(g3 l).nH z e'
      · subst e'
        refine cf (List.getElem?_eq_some_iff.mp g1) fun hj ej=>?_
        refine cf (List.getElem?_eq_some_iff.mp h1) fun hi' ei=>?_
        exact q ((List.getElem_inj I.dup).mp (ej.trans ei.symm))
theorem Ec (I:a8 P base H ρ ae ob h) {i:Nat} {a:Addr} {x:O} {o:Obj} {ob':Tr} (hi:ob.get i=some x) (hl:x.live=true) (ha:ρ[i]?=some a) (ho:h.get? a=some o)
    (hob:∀j,ob'.get j=if j=i then none else ob.get j):a8 P base (H.and a o) ρ ae ob' h:=by
  refine dC (I.own i x hi) fun a' h1 h2 h3=>?_
  obtain rfl:a'=a:=Option.some.inj (h1.symm.trans ha)
  have h3:=h3 hl
  refine⟨I.keep,?_,fun p hp=>let ⟨o,e,f⟩:=I.frNs p hp;⟨o,e,p.2.mono HP.le f⟩,fun p hp=>⟨(I.frNew p hp).1,?_⟩,I.frDup,fun j y e=>?_,I.dup,I.there,I.rf⟩
  · rintro b y (e|⟨rfl,rfl⟩)
    · exact I.frz b y e
    · exact ho
  · rintro y (e|⟨e,rfl⟩)
    · exact(I.frNew p hp).2 y e
    · exact h3.nf (List.mem_map.mpr ⟨p,hp,e⟩)
  · rw [hob]at e
    by_cases q:j=i
    · rw[if_pos q]at e;cases e
    · rw[if_neg q]at e
      refine dC (I.own j y e) fun b g1 g2 g3=>?_
      refine⟨b,g1,g2.mono (fun _ _ x=>.inl x) .refl (fun _ x=>x),fun l=>⟨(g3 l).nb,?_,(g3 l).nf⟩⟩
      rintro z (e'|⟨e',rfl⟩)
      · exact(g3 l).nH z e'
      · subst e'
        refine cf (List.getElem?_eq_some_iff.mp g1) fun hj ej=>?_
        refine cf (List.getElem?_eq_some_iff.mp h1) fun hi' ei=>?_
        exact q ((List.getElem_inj I.dup).mp (ej.trans ei.symm))
theorem E6{ob':Tr}(I:a8 P base H ρ ae ob h)(hob:∀j,ob'.get j=ob.get j):a8 P base H ρ ae ob' h:=
 ⟨I.keep,I.frz,I.frNs,I.frNew,I.frDup,fun j y e=>I.own j y ((hob j).symm.trans e),I.dup,I.there,I.rf⟩
theorem a8.allocAt(I:a8 P base H ρ ae ob h){ob':Tr}{o:Obj}{x:O}{D:Addr}(hD:h.get? D=none)(k:∀b x,h.get? b=some x→h'.get? b=some x)(he:h'.get? D=some o)(hob:∀i,ob'.get i=if i=ρ.length then some x else ob.get i)
  (hx:dJ P H (ρ++[D]) h' D x):a8 P base H (ρ++[D]) ae ob' h':=by
 have J:=I.keeps k
 have nR:D∉ρ:=fun q=>by obtain⟨o,e⟩:=I.there D q;rw[hD]at e;cases e
 have nF:D∉ae.map (·.1):=fun q=>by
  refine av (List.mem_map.mp q) fun p hp e=>?_
  refine av (I.frNs p hp) fun o e' _=>?_
  rw[e,hD]at e';cases e'
 refine{J with own:=?_,dup:=?_,there:=?_,rf:=?_}
 ·intro i y e
  rw[hob]at e
  by_cases q:i=ρ.length
  ·subst q
   rw[if_pos rfl]at e
   cases e
   exact⟨D,by simp,hx,fun _=>⟨fR I.keep hD,fun o e=>(by rw[I.frz _ _ e]at hD;cases hD),nF⟩⟩
  ·rw[if_neg q]at e
   refine dC (J.own i y e) fun a h1 h2 h3=>?_
   exact⟨a,cF.more _ _ h1,h2.mono (fun _ _ x=>x) .more (fun _ x=>x),h3⟩
 ·exact List.nodup_append.mpr ⟨I.dup,List.nodup_cons.mpr ⟨by simp,List.nodup_nil⟩,fun a ha b hb e=>by
   rw[List.mem_singleton.mp hb]at e
   exact nR (e▸ha)⟩
 ·intro a ha
  rcases List.mem_append.mp ha with q|q
  ·exact J.there a q
  ·rw[List.mem_singleton.mp q];exact⟨_,he⟩
 ·intro a ha
  rcases List.mem_append.mp ha with q|q
  ·exact J.rf a q
  ·rw[List.mem_singleton.mp q];exact nF
theorem gK{h:Heap}:h.get? h.objs.size=none:=by
 cases q:h.get? h.objs.size with
 |none=>rfl
 |some o=>exact absurd (Heap.lt_size q) (Nat.lt_irrefl _)
theorem a8.alloc2(I:a8 P base H ρ ae ob h){ob':Tr}{o:Obj}{x:O}(k:∀b x,h.get? b=some x→h'.get? b=some x)(he:h'.get? h.objs.size=some o)(hob:∀i,ob'.get i=if i=ρ.length then some x else ob.get i)
  (hx:dJ P H (ρ++[h.objs.size]) h' h.objs.size x):a8 P base H (ρ++[h.objs.size]) ae ob' h':=I.allocAt gK k he hob hx
theorem a8.alloc(I:a8 P base H ρ ae ob h){ob':Tr}{o:Obj}{x:O}(hob:∀i,ob'.get i=if i=ρ.length then some x else ob.get i)
  (hx:dJ P H (ρ++[h.objs.size]) (h.push o) h.objs.size x) (hf:o.isFreed=false:=by rfl):a8 P base H (ρ++[h.objs.size]) ae ob' (h.push o):=
 I.alloc2 (fun _ _ e=>Heap.get?_push_of_some _ e) (Heap.get?_push_size _ hf) hob hx
theorem a8.apart(I:a8 P base H ρ ae ob h){i:Nat}{a:Addr}{x:O}(hi:ob.get i=some x)(hl:x.live=true)(ha:ρ[i]?=some a):Ko base H ae a:=by
 refine dC (I.own i x hi) fun a' h1 _ h3=>?_
 obtain rfl:a'=a:=Option.some.inj (h1.symm.trans ha)
 exact h3 hl
theorem a8.at(I:a8 P base H ρ ae ob h){i:Nat}{a:Addr}{x:O}(hi:ob.get i=some x)(ha:ρ[i]?=some a):dJ P H ρ h a x:=by
 refine dC (I.own i x hi) fun a' h1 h2 _=>?_
 obtain rfl:a'=a:=Option.some.inj (h1.symm.trans ha)
 exact h2
theorem a8.turn {L:Addr} {m:Fp} (I:a8 P base H ρ ((L,m)::ae) ob h) {i:Nat} {a:Addr} {x y:O} {ob':Tr} (hi:ob.get i=some x) (hl:x.live=true) (ha:ρ[i]?=some a)
    (hs:∀b o,b≠a→b≠L→h.get? b=some o→h'.get? b=some o) (hn:∃o,h'.get? L=some o∧m.φ H o)
    (hob:∀j,ob'.get j=if j=i then some y else ob.get j) (hy:dJ P H ρ h' a y) (ht:∃o,h'.get? a=some o):a8 P base H ρ ((L,m)::ae) ob' h':=by
  have A:=I.apart hi hl ha
  have nL:=I.frNew _ (.head _)
  have d:=I.frDup
  rw[List.map_cons,List.nodup_cons]at d
  refine⟨fun b o e=>hs b o (fun q=>by rw[q,A.nb]at e;cases e) (fun q=>by rw[q,nL.1]at e;cases e) (I.keep b o e),fun b o e=>hs b o (fun q=>A.nH o (q▸e)) (fun q=>nL.2 o (q▸e)) (I.frz b o e),fun p hp=>?_,I.frNew,I.frDup,fun j o e=>?_,I.dup,fun b hb=>?_,I.rf⟩
  · rcases List.mem_cons.mp hp with rfl|hp'
    · exact hn
    · refine av (I.frNs p hp) fun o ho r=>?_
      exact⟨o,hs _ _ (fun q=>A.nf (List.mem_map.mpr ⟨p,hp,q⟩)) (fun q=>d.1 (List.mem_map.mpr ⟨p,hp',q⟩)) ho,r⟩
  · rw [hob]at e
    by_cases q:j=i
    · subst q
      rw[if_pos rfl]at e
      cases e
      exact⟨a,ha,hy,fun _=>A⟩
    · rw[if_neg q]at e
      refine dC (I.own j o e) fun b g1 g2 g3=>?_
      refine⟨b,g1,?_,g3⟩
      by_cases l:o.live=true
      · refine g2.mono (fun _ _ x=>x) .refl (fun o e=>hs b o (fun z=>q ?_) (fun z=>(g3 l).nf (by rw[z];exact .head _)) e)
        subst z
        refine cf (List.getElem?_eq_some_iff.mp g1) fun hj ej=>?_
        refine cf (List.getElem?_eq_some_iff.mp ha) fun hi' ei=>?_
        exact(List.getElem_inj I.dup).mp (ej.trans ei.symm)
      · cases g2 with
        |frz z=>exact .frz z
        |_=>exact absurd rfl l
  · by_cases q:b=a
    · rw[q];exact ht
    · by_cases q':b=L
      · refine av hn fun o ho _=>?_
        exact⟨o,q'▸ho⟩
      · refine cf (I.there b hb) fun o e=>?_
        exact⟨o,hs b o q q' e⟩
theorem a8.store{L:Addr}{m:Fp}(I:a8 P base H ρ ((L,m)::ae) ob h){m':Fp}(hs:Heap.SameBut L h h')(hn:∃o,h'.get? L=some o∧m'.φ H o):a8 P base H ρ ((L,m')::ae) ob h':=by
 refine bC (I.frNew _ (.head _)) fun n1 n2=>?_
 have d:=I.frDup
 rw[List.map_cons,List.nodup_cons]at d
 refine⟨fun b o e=>(hs.2 b (fun q=>by rw[q,n1]at e;cases e)).trans (I.keep b o e),fun b o e=>(hs.2 b (fun q=>n2 o (q▸e))).trans (I.frz b o e),fun p hp=>?_,fun p hp=>?_,I.frDup,fun i o e=>?_,I.dup,fun b hb=>?_,fun a ha z=>I.rf a ha z⟩
 ·rcases List.mem_cons.mp hp with rfl|hp
  ·exact hn
  ·refine av (I.frNs p (.tail _ hp)) fun o e f=>?_
   exact⟨o,(hs.2 _ (fun q=>d.1 (List.mem_map.mpr ⟨p,hp,q⟩))).trans e,f⟩
 ·rcases List.mem_cons.mp hp with rfl|hp
  ·exact⟨n1,n2⟩
  ·exact I.frNew p (.tail _ hp)
 ·refine dC (I.own i o e) fun a h1 h2 h3=>?_
  refine⟨a,h1,?_,fun l=>⟨(h3 l).nb,(h3 l).nH,(h3 l).nf⟩⟩
  by_cases l:o.live=true
  ·exact h2.mono (fun _ _ x=>x) .refl (fun o e=>(hs.2 a (fun z=>(h3 l).nf (by rw[z];exact .head _))).trans e)
  ·cases h2 with
   |frz z=>exact .frz z
   |_=>exact absurd rfl l
 ·by_cases q:b=L
  ·refine av hn fun o ho _=>?_
   exact⟨o,q▸ho⟩
  ·refine cf (I.there b hb) fun o e=>?_
   exact⟨o,(hs.2 b q).trans e⟩
theorem a8.enter(I:a8 P base H ρ ae ob h){m:Fp}(hn:∃o,h'.get? h.objs.size=some o∧m.φ H o)(k:∀b o,h.get? b=some o→h'.get? b=some o):a8 P base H ρ ((h.objs.size,m)::ae) ob h':=by
 have J:=I.keeps k
 refine⟨J.keep,J.frz,fun p hp=>?_,fun p hp=>?_,?_,fun i o e=>?_,J.dup,J.there,fun a ha z=>?_⟩
 ·rcases List.mem_cons.mp hp with rfl|hp
  ·exact hn
  ·exact J.frNs p hp
 ·rcases List.mem_cons.mp hp with rfl|hp
  ·exact⟨I.topNew,I.topH⟩
  ·exact J.frNew p hp
 ·rw[List.map_cons,List.nodup_cons]
  exact⟨I.topF,J.frDup⟩
 ·refine dC (J.own i o e) fun a h1 h2 h3=>?_
  refine⟨a,h1,h2,fun l=>⟨(h3 l).nb,(h3 l).nH,fun z=>?_⟩⟩
  rw[List.map_cons]at z
  rcases List.mem_cons.mp z with e|z
  ·exact I.topR (by have e:a=h.objs.size:=e;rw[←e];exact List.mem_of_getElem? h1)
  ·exact(h3 l).nf z
 ·rw[List.map_cons]at z
  rcases List.mem_cons.mp z with e|z
  ·exact I.topR (by have e:a=h.objs.size:=e;rw[←e];exact ha)
  ·exact I.rf a ha z
theorem a8.enter2{f:Addr×Fp}(I:a8 P base H ρ (f::ae) ob h){m:Fp}(hn:∃o,h'.get? h.objs.size=some o∧m.φ H o)(k:∀b o,h.get? b=some o→h'.get? b=some o):a8 P base H ρ (f::(h.objs.size,m)::ae) ob h':=by
 have J:=I.enter hn k
 have sw:∀p,p∈f::(h.objs.size,m)::ae→p∈(h.objs.size,m)::f::ae:=fun p hp=>by
  rcases List.mem_cons.mp hp with rfl|hp
  ·exact .tail _ (.head _)
  ·rcases List.mem_cons.mp hp with rfl|hp
   ·exact .head _
   ·exact .tail _ (.tail _ hp)
 have d:=J.frDup
 simp only [List.map_cons,List.nodup_cons,List.mem_cons,not_or]at d
 refine⟨J.keep,J.frz,fun p hp=>J.frNs p (sw p hp),fun p hp=>J.frNew p (sw p hp),?_,fun i o e=>?_,J.dup,J.there,fun a ha z=>J.rf a ha (by
  simp only [List.map_cons,List.mem_cons]at z ⊢
  rcases z with z|z|z
  ·exact .inr (.inl z)
  ·exact .inl z
  ·exact .inr (.inr z))⟩
 ·simp only [List.map_cons,List.nodup_cons,List.mem_cons,not_or]
  exact⟨⟨fun q=>d.1.1 q.symm,d.2.1⟩,d.1.2,d.2.2⟩
 ·refine dC (J.own i o e) fun a h1 h2 h3=>?_
  refine⟨a,h1,h2,fun l=>⟨(h3 l).nb,(h3 l).nH,fun z=>(h3 l).nf ?_⟩⟩
  simp only [List.map_cons,List.mem_cons]at z ⊢
  rcases z with z|z|z
  ·exact .inr (.inl z)
  ·exact .inl z
  ·exact .inr (.inr z)
theorem a8.leave2{f p:Addr×Fp}(I:a8 P base H ρ (f::p::ae) ob h):a8 P base H ρ (f::ae) ob h:=by
 have sw:∀q,q∈f::ae→q∈f::p::ae:=fun q hq=>by
  rcases List.mem_cons.mp hq with rfl|hq
  ·exact .head _
  ·exact .tail _ (.tail _ hq)
 have d:=I.frDup
 simp only [List.map_cons,List.nodup_cons,List.mem_cons,not_or]at d
 refine⟨I.keep,I.frz,fun q hq=>I.frNs q (sw q hq),fun q hq=>I.frNew q (sw q hq),?_,fun i o e=>?_,I.dup,I.there,fun a ha z=>I.rf a ha (by
  simp only [List.map_cons,List.mem_cons]at z ⊢
  rcases z with z|z
  ·exact .inl z
  ·exact .inr (.inr z))⟩
 ·simp only [List.map_cons,List.nodup_cons]
  exact⟨d.1.2,d.2.2⟩
 ·refine dC (I.own i o e) fun a h1 h2 h3=>?_
  refine⟨a,h1,h2,fun l=>⟨(h3 l).nb,(h3 l).nH,fun z=>(h3 l).nf ?_⟩⟩
  simp only [List.map_cons,List.mem_cons]at z ⊢
  rcases z with z|z
  ·exact .inl z
  ·exact .inr (.inr z)
theorem a8.iter {f:Addr×Fp} {J:Addr} {φ φ':Fp} (I:a8 P base H ρ (f::(J,φ)::ae) ob h) (k:∀b o,b≠J→h.get? b=some o→h'.get? b=some o) (hJ:∃o,h'.get? J=some o∧φ'.φ H o):a8 P base H ρ (f::(J,φ')::ae) ob h':=by
  have nJ:=I.frNew (J,φ) (.tail _ (.head _))
  have d:=I.frDup
  simp only [List.map_cons,List.nodup_cons,List.mem_cons,not_or]at d
  have rJ:∀a∈ρ,a≠J:=fun a ha e=>I.rf a ha (by rw[e];exact .tail _ (.head _))
  refine⟨fun b o e=>k b o (fun q=>by rw[q,nJ.1]at e;cases e) (I.keep b o e),fun b o e=>k b o (fun q=>nJ.2 o (q▸e)) (I.frz b o e),fun p hp=>?_,fun p hp=>?_,?_,fun i o e=>?_,I.dup,fun a ha=>?_,I.rf⟩
  · rcases List.mem_cons.mp hp with rfl|hp
    · refine av (I.frNs _ (.head _)) fun o e z=>?_
      exact⟨o,k _ _ d.1.1 e,z⟩
    · rcases List.mem_cons.mp hp with rfl|hp
      · exact hJ
      · refine av (I.frNs p (.tail _ (.tail _ hp))) fun o e z=>?_
        exact⟨o,k _ _ (fun q=>d.2.1 (List.mem_map.mpr ⟨p,hp,q⟩)) e,z⟩
  · rcases List.mem_cons.mp hp with rfl|hp
    · exact I.frNew _ (.head _)
    · rcases List.mem_cons.mp hp with rfl|hp
      · exact nJ
      · exact I.frNew p (.tail _ (.tail _ hp))
  · simp only [List.map_cons,List.nodup_cons,List.mem_cons,not_or]
    exact d
  · refine dC (I.own i o e) fun a h1 h2 h3=>?_
    exact⟨a,h1,h2.mono (fun _ _ x=>x) .refl (fun o e=>k a o (rJ a (List.mem_of_getElem? h1)) e),fun l=>⟨(h3 l).nb,(h3 l).nH,(h3 l).nf⟩⟩
  · refine cf (I.there a ha) fun o e=>?_
    exact⟨o,k a o (rJ a ha) e⟩
theorem a8.past{f:Addr×Fp}{J:Addr}{φ:Fp}(I:a8 P base H ρ (f::(J,φ)::ae) ob h)(k:∀b o,b≠J→h.get? b=some o→h'.get? b=some o):a8 P base H ρ (f::ae) ob h':=by
 have nJ:=I.frNew (J,φ) (.tail _ (.head _))
 have d:=I.frDup
 simp only [List.map_cons,List.nodup_cons,List.mem_cons,not_or]at d
 have rJ:∀a∈ρ,a≠J:=fun a ha e=>I.rf a ha (by rw[e];exact .tail _ (.head _))
 have fC:=I.leave2
 refine⟨fun b o e=>k b o (fun q=>by rw[q,nJ.1]at e;cases e) (I.keep b o e),fun b o e=>k b o (fun q=>nJ.2 o (q▸e)) (I.frz b o e),fun p hp=>?_,fC.frNew,fC.frDup,fun i o e=>?_,I.dup,fun a ha=>?_,fC.rf⟩
 ·refine av (fC.frNs p hp) fun o e z=>?_
  refine⟨o,k _ _ ?_ e,z⟩
  rcases List.mem_cons.mp hp with rfl|hp
  ·exact d.1.1
  ·exact fun q=>d.2.1 (List.mem_map.mpr ⟨p,hp,q⟩)
 ·refine dC (fC.own i o e) fun a h1 h2 h3=>?_
  exact⟨a,h1,h2.mono (fun _ _ x=>x) .refl (fun o e=>k a o (rJ a (List.mem_of_getElem? h1)) e),fun l=>⟨(h3 l).nb,(h3 l).nH,(h3 l).nf⟩⟩
 ·refine cf (I.there a ha) fun o e=>?_
  exact⟨o,k a o (rJ a ha) e⟩
theorem a8.leave{p:Addr×Fp}(I:a8 P base H ρ (p::ae) ob h):a8 P base H ρ ae ob h:=by
 have d:=I.frDup
 rw[List.map_cons,List.nodup_cons]at d
 exact⟨I.keep,I.frz,fun q hq=>I.frNs q (.tail _ hq),fun q hq=>I.frNew q (.tail _ hq),d.2,fun i o e=>let ⟨a,h1,h2,h3⟩:=I.own i o e;⟨a,h1,h2,fun l=>⟨(h3 l).nb,(h3 l).nH,fun z=>(h3 l).nf (.tail _ z)⟩⟩,I.dup,I.there,fun a ha z=>I.rf a ha (.tail _ z)⟩
end
end
section
section
variable {α β:Type}{G:Prop}{o:Option α}{b:Bool}{P Q:Prop}
theorem aM{K:α→Prop}(h:oP o K)(k:∀x,o=some x→K x→G):G:=by cases o;exact h.elim;exact k _ rfl h
theorem d8{K:α→Prop}(h:oE o K P)(k:∀x,o=some x→K x→G)(l:o=none→P→G):G:=by cases o;exact l rfl h;exact k _ rfl h
theorem bD(h:bP b P)(k:b=true→P→G):G:=by cases b;exact h.elim;exact k rfl h
theorem pn(h:iE b P Q)(k:b=true→P→G)(l:b=false→Q→G):G:=by cases b;exact l rfl h;exact k rfl h
theorem dD{f:α→β}{g y:β}(h:oX o f g=y)(k:∀x,o=some x→f x=y→G)(l:o=none→g=y→G):G:=by cases o;exact l rfl h;exact k _ rfl h
theorem aA{f:α→Option β}{y:β}(h:oO o f=some y)(k:∀x,o=some x→f x=some y→G):G:=by cases o;cases h;exact k _ rfl h
theorem kF{f:α→Bool}(h:oB o f=true)(k:∀x,o=some x→f x=true→G):G:=by cases o;cases h;exact k _ rfl h
theorem iV{x y z:β}(h:bX b x y=z)(k:b=true→x=z→G)(l:b=false→y=z→G):G:=by cases b;exact l rfl h;exact k rfl h
theorem cH{x:Option β}{y:β}(h:bO b x=some y)(k:b=true→x=some y→G):G:=by cases b;cases h;exact k rfl h
theorem ij{x:Bool}(h:bX b x false=true)(k:b=true→x=true→G):G:=by cases b;cases h;exact k rfl h
theorem jO{f:α→cb β}{σ:St}{K:β→St→Prop}(h:(oA o f).run σ K)(k:∀x,o=some x→(f x).run σ K→G):G:=by cases o;exact h.elim;exact k _ rfl h
theorem iN{a:cb β}{σ:St}{K:β→St→Prop}(h:(bA b a).run σ K)(k:b=true→a.run σ K→G):G:=by cases b;exact h.elim;exact k rfl h
theorem Ke{f:α→cb β}{a:cb β}{σ:St}{K:β→St→Prop}(h:(oX o f a).run σ K)(k:∀x,o=some x→(f x).run σ K→G)(l:o=none→a.run σ K→G):G:=by cases o;exact l rfl h;exact k _ rfl h
theorem OC{a c:cb β}{σ:St}{K:β→St→Prop}(h:(bX b a c).run σ K)(k:b=true→a.run σ K→G)(l:b=false→c.run σ K→G):G:=by cases b;exact l rfl h;exact k rfl h
theorem cps{P:Prop}(h:∀G:Prop,(P→G)→G):P:=h P id
theorem nN{P:Prop}(h:bX b P True)(e:b=true):P:=by cases e;exact h
theorem Ut{P:Prop}(h:bX b True P)(e:b=false):P:=by cases e;exact h
theorem cU{l:List α}(h:ju l=true):l=[]:=by cases l;rfl;cases h
theorem jS(h:mE o=true):o=none:=by cases o;rfl;cases h
theorem sv(h:eU o=true)(k:∀x,o=some x→G):G:=by cases o;cases h;exact k _ rfl
theorem af{x y:α}(h:some x=some y):x=y:=Option.some.inj h
end
section
variable {v:V}
theorem Py(v:V):oX (vB v) (fun p=>v=.bool p.1 p.2) True:=by cases v <;> first|rfl|trivial
theorem Qo(v:V):oX (vI v) (fun p=>v=.int p.1 p.2) True:=by cases v <;> first|rfl|trivial
theorem PR(v:V):oX (vS v) (fun p=>v=.str p.1 p.2) True:=by cases v <;> first|rfl|trivial
theorem OU(v:V):oX (vY v) (fun p=>v=.bytes p.1 p.2) True:=by cases v <;> first|rfl|trivial
theorem PI(v:V):oX (vW v) (fun p=>v=.irow p.1 p.2) True:=by cases v <;> first|rfl|trivial
theorem Qd(v:V):oX (vT v) (fun p=>v=.tup p) True:=by cases v <;> first|rfl|trivial
theorem PF(v:V):oX (vL v) (fun p=>v=.list p) True:=by cases v <;> first|rfl|trivial
theorem QL(v:V):oX (vD v) (fun p=>v=.dict p) True:=by cases v <;> first|rfl|trivial
theorem Oa(v:V):oX (vN v) (fun p=>v=.inst p.1 p.2) True:=by cases v <;> first|rfl|trivial
theorem PS(v:V):oX (vR v) (fun p=>v=.ref p) True:=by cases v <;> first|rfl|trivial
theorem PN(v:V):oX (vG v) (fun p=>v=.glob p) True:=by cases v <;> first|rfl|trivial
theorem Pd(v:V):oX (vM v) (fun p=>v=.named p) True:=by cases v <;> first|rfl|trivial
theorem Pl(v:V):oX (vQ v) (fun p=>v=.rng p.1 p.2) True:=by cases v <;> first|rfl|trivial
theorem MG(v:V):oX (R4 v) (fun p=>v=.typ p) True:=by cases v <;> first|rfl|trivial
theorem gd{α:Type}{o:Option α}{x:α}{v:V}{f:α→V}(h:oX o (fun p=>v=f p) True)(e:o=some x):v=f x:=by cases e;exact h
theorem Ot{p}(e:vB v=some p):v=.bool p.1 p.2:=gd (f:=fun p=>.bool p.1 p.2) (Py v) e
theorem wK{p}(e:vI v=some p):v=.int p.1 p.2:=gd (f:=fun p=>.int p.1 p.2) (Qo v) e
theorem EM{p}(e:vS v=some p):v=.str p.1 p.2:=gd (f:=fun p=>.str p.1 p.2) (PR v) e
theorem P7{p}(e:vY v=some p):v=.bytes p.1 p.2:=gd (f:=fun p=>.bytes p.1 p.2) (OU v) e
theorem NZ{p}(e:vW v=some p):v=.irow p.1 p.2:=gd (f:=fun p=>.irow p.1 p.2) (PI v) e
theorem L6{p}(e:vT v=some p):v=.tup p:=gd (Qd v) e
theorem U5{p}(e:vL v=some p):v=.list p:=gd (PF v) e
theorem Up{p}(e:vD v=some p):v=.dict p:=gd (QL v) e
theorem OD{p}(e:vN v=some p):v=.inst p.1 p.2:=gd (f:=fun p=>.inst p.1 p.2) (Oa v) e
theorem To{p}(e:vR v=some p):v=.ref p:=gd (PS v) e
theorem NY{p}(e:vG v=some p):v=.glob p:=gd (PN v) e
theorem PD{p}(e:vM v=some p):v=.named p:=gd (Pd v) e
theorem Ux{p}(e:vQ v=some p):v=.rng p.1 p.2:=gd (f:=fun p=>.rng p.1 p.2) (Pl v) e
theorem Od{p}(e:R4 v=some p):v=.typ p:=gd (MG v) e
theorem Jj(v:V):bX (AW v) (v=.none) True:=by cases v <;> first|rfl|trivial
theorem LS(e:AW v=true):v=.none:=by have h:=Jj v;rw[e]at h;exact h
variable {o:Option O}
theorem mW{α:Type}{q:Option α}{x:α}{f:α→O}(h:oX q (fun p=>o=some (f p)) True)(e:q=some x):o=some (f x):=by cases e;exact h
theorem jq{p}(e:oL o=some p):o=some (.list p):=mW (f:=.list) (by cases o with|none=>trivial|some x=>cases x <;> first|rfl|trivial) e
theorem MB{p}(e:oD o=some p):o=some (.dict p):=mW (f:=.dict) (by cases o with|none=>trivial|some x=>cases x <;> first|rfl|trivial) e
theorem LJ{p}(e:oI o=some p):o=some (.inst p.1 p.2):=mW (f:=fun p=>.inst p.1 p.2) (by cases o with|none=>trivial|some x=>cases x <;> first|rfl|trivial) e
theorem HL{p}(e:oN o=some p):o=some (.ns p):=mW (f:=.ns) (by cases o with|none=>trivial|some x=>cases x <;> first|rfl|trivial) e
theorem Cj{p}(e:oF o=some p):o=some (.frz p):=mW (f:=.frz) (by cases o with|none=>trivial|some x=>cases x <;> first|rfl|trivial) e
variable {as:List V}
theorem Cg{v}(e:xW as=some v):as=[v]:=by
  cases as with
  |nil=>cases e
  | cons a r=>cases r with
    |nil=>exact congrArg (fun a=>[a]) (af e)
    |cons _ _=>cases e
theorem D9{p}(e:GI as=some p):as=[p.1,p.2]:=by
 cases as with
 |nil=>cases e
 |cons a r=>exact aA e fun b eb f=>by rw[Cg eb,←af f]
theorem zk{p}(e:NN as=some p):as=[p.1,p.2.1,p.2.2]:=by
 cases as with
 |nil=>cases e
 |cons a r=>exact aA e fun b eb f=>by rw[D9 eb,←af f]
theorem Qh{p}(e:V7 as=some p):as=[p.1,p.2.1,p.2.2.1,p.2.2.2]:=by
 cases as with
 |nil=>cases e
 |cons a r=>exact aA e fun b eb f=>by rw[zk eb,←af f]
theorem gM{x:Int}{n:Nat}(e:pM x=some n):x=Int.ofNat n:=by
 cases x with
 |ofNat _=>exact congrArg Int.ofNat (af e)
 |negSucc _=>cases e
theorem wu{G:Prop}{p:Bool×Int}{n:Nat}(h:G5 p=some n)(k:p.1=true→p.2=Int.ofNat n→G):G:=cH h fun a e=>k a (gM e)
theorem Sv{G:Prop}{x:Str}(h:kS v=some x)(k:v=.str true x→G):G:=aA h fun p e f=>cH f fun a q=>k (by rw[EM e,a,af q])
theorem cX{b:Bool}(h:c5 b=true):b=false:=by cases b;rfl;cases h
theorem fw{a b:Bool}(h:aH a b=true):a=true∧b=true:=by
 cases a with
 |true=>exact⟨rfl,h⟩
 |false=>cases h
theorem az{G:Prop}{a b:Bool}(h:aH a b=true)(k:a=true→b=true→G):G:=k (fw h).1 (fw h).2
end
end
section
noncomputable def SJ(P:Pm)(H:HP)(ρ:List Addr)(v:V)(r:Value):Prop:=match v with
 |.none=>r=.none
 |.bool _ b=>r=.bool b
 |.int _ x=>∃t,r=.int x t
 |.str _ x=>∃t,PyData.strOk x=true∧r=.str x t
 |.bytes _ xs=>∃a t,r=.bytes a t∧xs=aF a
 |.irow _ xs=>∃rs a n,H a (aN rs n)∧IntsAre rs xs∧r=.ref a
 |.tup vs=>∃rs a,H a (fJ rs)∧ak P H ρ vs rs∧r=.ref a
 |.inst C fs=>∃a d es n,H a (instObj C d)∧H d (dictOf es n)∧bV P H ρ fs es∧r=.ref a
 |.list vs=>∃rs a n,H a (aN rs n)∧ak P H ρ vs rs∧r=.ref a
 |.dict aU=>∃a es n,H a (dictOf es n)∧(a==sysModules)=false∧bG aU∧cu P H ρ aU es∧r=.ref a
 |.ref i=>∃a,ρ[i]?=some a∧r=.ref a
 |.glob a=>r=.ref a
 |.blt s=>r=.builtin s.name
 |.typ s=>r=.type s.name
 |.named k=>aj P H ρ (P.T k) r
 |.rng _ n=>∃a t u v,H a (jZ n t u v)∧r=.ref a
section
variable {G:Prop}{P:Pm}{H:HP}{ρ:List Addr}{r:Value}{k:Bool}
theorem aj.inv{v:V}(h:aj P H ρ v r):SJ P H ρ v r:=by
 cases h with
 |none=>rfl
 |bool=>rfl
 |int=>exact⟨_,rfl⟩
 |str a=>exact⟨_,a,rfl⟩
 |bytes=>exact⟨_,_,rfl,rfl⟩
 |irow a b=>exact⟨_,_,_,a,b,rfl⟩
 |tup a b=>exact⟨_,_,a,b,rfl⟩
 |inst a b c=>exact⟨_,_,_,_,a,b,c,rfl⟩
 |list a b=>exact⟨_,_,_,a,b,rfl⟩
 |dict a b c d=>exact⟨_,_,_,a,b,c,d,rfl⟩
 |ref a=>exact⟨_,a,rfl⟩
 |glob=>rfl
 |blt=>rfl
 |typ=>rfl
 |named a=>exact a
 |rng a=>exact⟨_,_,_,_,a,rfl⟩
theorem aj.none'(h:aj P H ρ .none r)(g:r=.none→G):G:=g h.inv
theorem aj.bool'{b}(h:aj P H ρ (.bool k b) r)(g:r=.bool b→G):G:=g h.inv
theorem aj.int'{x}(h:aj P H ρ (.int k x) r)(g:∀t,r=.int x t→G):G:=h.inv.elim g
theorem aj.str'{x}(h:aj P H ρ (.str k x) r)(g:∀t,PyData.strOk x=true→r=.str x t→G):G:=by obtain⟨t,a,e⟩:=h.inv;exact g t a e
theorem aj.bytes'{xs}(h:aj P H ρ (.bytes k xs) r)(g:∀a t,r=.bytes a t→xs=aF a→G):G:=by obtain⟨a,t,e,f⟩:=h.inv;exact g a t e f
theorem aj.irow'{xs}(h:aj P H ρ (.irow k xs) r)(g:∀rs a n,H a (aN rs n)→IntsAre rs xs→r=.ref a→G):G:=by obtain⟨a,b,c,d,e,f⟩:=h.inv;exact g a b c d e f
theorem aj.tup'{vs}(h:aj P H ρ (.tup vs) r)(g:∀rs a,H a (fJ rs)→ak P H ρ vs rs→r=.ref a→G):G:=by obtain⟨a,b,c,d,e⟩:=h.inv;exact g a b c d e
theorem aj.inst'{C fs}(h:aj P H ρ (.inst C fs) r)(g:∀a d es n,H a (instObj C d)→H d (dictOf es n)→bV P H ρ fs es→r=.ref a→G):G:=by obtain⟨a,b,c,d,e,f,x,y⟩:=h.inv;exact g a b c d e f x y
theorem aj.list'{vs}(h:aj P H ρ (.list vs) r)(g:∀rs a n,H a (aN rs n)→ak P H ρ vs rs→r=.ref a→G):G:=by obtain⟨a,b,c,d,e,f⟩:=h.inv;exact g a b c d e f
theorem aj.dict'{aU}(h:aj P H ρ (.dict aU) r)(g:∀a es n,H a (dictOf es n)→(a==sysModules)=false→bG aU→cu P H ρ aU es→r=.ref a→G):G:=by obtain⟨a,b,c,d,e,f,x,y⟩:=h.inv;exact g a b c d e f x y
theorem aj.ref'{i}(h:aj P H ρ (.ref i) r)(g:∀a,ρ[i]?=some a→r=.ref a→G):G:=by obtain⟨a,b,c⟩:=h.inv;exact g a b c
theorem aj.glob'{a}(h:aj P H ρ (.glob a) r)(g:r=.ref a→G):G:=g h.inv
theorem aj.blt'{s}(h:aj P H ρ (.blt s) r)(g:r=.builtin s.name→G):G:=g h.inv
theorem aj.typ'{s}(h:aj P H ρ (.typ s) r)(g:r=.type s.name→G):G:=g h.inv
theorem aj.named'{i}(h:aj P H ρ (.named i) r)(g:aj P H ρ (P.T i) r→G):G:=g h.inv
theorem aj.rng'{n}(h:aj P H ρ (.rng k n) r)(g:∀a t u v,H a (jZ n t u v)→r=.ref a→G):G:=by obtain⟨a,b,c,d,e,f⟩:=h.inv;exact g a b c d e f
section
variable {v:V}(h:aj P H ρ v r)
include h
theorem aj.cB{p}(e:vB v=some p)(g:r=.bool p.2→G):G:=(Ot e▸h).bool' g
theorem aj.cI{p}(e:vI v=some p)(g:∀t,r=.int p.2 t→G):G:=(wK e▸h).int' g
theorem aj.cS{p}(e:vS v=some p)(g:∀t,PyData.strOk p.2=true→r=.str p.2 t→G):G:=(EM e▸h).str' g
theorem aj.cY{p}(e:vY v=some p)(g:∀a t,r=.bytes a t→p.2=aF a→G):G:=(P7 e▸h).bytes' g
theorem aj.cW{p}(e:vW v=some p)(g:∀rs a n,H a (aN rs n)→IntsAre rs p.2→r=.ref a→G):G:=(NZ e▸h).irow' g
theorem aj.cT{p}(e:vT v=some p)(g:∀rs a,H a (fJ rs)→ak P H ρ p rs→r=.ref a→G):G:=(L6 e▸h).tup' g
theorem aj.cN{p}(e:vN v=some p)(g:∀a d es n,H a (instObj p.1 d)→H d (dictOf es n)→bV P H ρ p.2 es→r=.ref a→G):G:=(OD e▸h).inst' g
theorem aj.cL{p}(e:vL v=some p)(g:∀rs a n,H a (aN rs n)→ak P H ρ p rs→r=.ref a→G):G:=(U5 e▸h).list' g
theorem aj.cD{p}(e:vD v=some p)(g:∀a es n,H a (dictOf es n)→(a==sysModules)=false→bG p→cu P H ρ p es→r=.ref a→G):G:=(Up e▸h).dict' g
theorem aj.cR{p}(e:vR v=some p)(g:∀a,ρ[p]?=some a→r=.ref a→G):G:=(To e▸h).ref' g
theorem aj.cG{p}(e:vG v=some p)(g:r=.ref p→G):G:=(NY e▸h).glob' g
theorem aj.cM{p}(e:vM v=some p)(g:aj P H ρ (P.T p) r→G):G:=(PD e▸h).named' g
theorem aj.cQ{p}(e:vQ v=some p)(g:∀a t u v,H a (jZ p.2 t u v)→r=.ref a→G):G:=(Ux e▸h).rng' g
theorem aj.cTy{p}(e:R4 v=some p)(g:r=.type p.name→G):G:=(Od e▸h).typ' g
theorem aj.cNo(e:AW v=true)(g:r=.none→G):G:=(LS e▸h).none' g
theorem aj.cK{x}(e:kS v=some x)(g:∀t,PyData.strOk x=true→r=.str x t→G):G:=Sv e fun e=>(e▸h).str' g
end
theorem ak.inv{vs rs}(h:ak P H ρ vs rs):match vs with
  |[]=>rs=[]
  |v::vs=>∃r l,aj P H ρ v r∧ak P H ρ vs l∧rs=r::l:=by cases h with|nil=>rfl|cons a b=>exact⟨_,_,a,b,rfl⟩
theorem ak.nil'{rs}(h:ak P H ρ [] rs)(g:rs=[]→G):G:=g h.inv
theorem ak.cons'{v vs rs}(h:ak P H ρ (v::vs) rs)(g:∀r l,aj P H ρ v r→ak P H ρ vs l→rs=r::l→G):G:=by obtain⟨r,l,a,b,e⟩:=h.inv;exact g r l a b e
theorem ak.c1{v as rs}(h:ak P H ρ as rs)(e:xW as=some v)(g:∀r,aj P H ρ v r→rs=[r]→G):G:=
 (Cg e▸h).cons' fun r _ a b e=>b.nil' fun f=>g r a (f▸e)
theorem ak.c2{p as rs}(h:ak P H ρ as rs)(e:GI as=some p)(g:∀r s,aj P H ρ p.1 r→aj P H ρ p.2 s→rs=[r,s]→G):G:=
 (D9 e▸h).cons' fun r _ a b e=>b.c1 (v:=p.2) rfl fun s c f=>g r s a c (f▸e)
theorem ak.c3{p as rs}(h:ak P H ρ as rs)(e:NN as=some p)(g:∀r s t,aj P H ρ p.1 r→aj P H ρ p.2.1 s→aj P H ρ p.2.2 t→rs=[r,s,t]→G):G:=
 (zk e▸h).cons' fun r _ a b e=>b.c2 (p:=p.2) rfl fun s t c d f=>g r s t a c d (f▸e)
theorem bV.inv{fs es}(h:bV P H ρ fs es):match fs with
  |[]=>es=[]
  |p::fs=>∃t r l,aj P H ρ p.2 r∧bV P H ρ fs l∧es=⟨PyData.keyHash P.p p.1,.str p.1 t,r⟩::l:=by cases h with|nil=>rfl|cons a b=>exact⟨_,_,_,a,b,rfl⟩
theorem bV.nil'{rs}(h:bV P H ρ [] rs)(g:rs=[]→G):G:=g h.inv
theorem bV.cons'{p fs es}(h:bV P H ρ (p::fs) es)(g:∀t r l,aj P H ρ p.2 r→bV P H ρ fs l→es=⟨PyData.keyHash P.p p.1,.str p.1 t,r⟩::l→G):G:=by obtain⟨a,b,c,d,e,f⟩:=h.inv;exact g a b c d e f
theorem cu.inv{fs es}(h:cu P H ρ fs es):match fs with
  |[]=>es=[]
  |p::fs=>∃hs kr r l,aj P H ρ p.1 kr∧eI P p.1 hs∧aj P H ρ p.2 r∧cu P H ρ fs l∧es=⟨hs,kr,r⟩::l:=by cases h with|nil=>rfl|cons a b c d=>exact⟨_,_,_,_,a,b,c,d,rfl⟩
theorem cu.nil'{rs}(h:cu P H ρ [] rs)(g:rs=[]→G):G:=g h.inv
theorem cu.cons'{p aU es}(h:cu P H ρ (p::aU) es)(g:∀hs kr r l,aj P H ρ p.1 kr→eI P p.1 hs→aj P H ρ p.2 r→cu P H ρ aU l→es=⟨hs,kr,r⟩::l→G):G:=by obtain⟨a,b,c,d,e,f,x,y,z⟩:=h.inv;exact g a b c d e f x y z
noncomputable def Um(P:Pm)(H:HP)(ρ:List Addr)(h:Heap)(a:Addr)(o:O):Prop:=match o with
 |.list vs=>∃rs n,h.get? a=some (aN rs n)∧ak P H ρ vs rs
 |.dict aU=>∃es n,h.get? a=some (dictOf es n)∧(a==sysModules)=false∧bG aU∧cu P H ρ aU es
 |.inst C d=>∃dx,h.get? a=some (instObj C dx)∧ρ[d]?=some dx
 |.ns fs=>∃es n,h.get? a=some (dictOf es n)∧bV P H ρ fs es
 |.frz v=>aj P H ρ v (.ref a)
variable {h:Heap}{a:Addr}
theorem dJ.inv{o}(x:dJ P H ρ h a o):Um P H ρ h a o:=by
 cases x with
 |list a b=>exact⟨_,_,a,b⟩
 |dict a b c d=>exact⟨_,_,a,b,c,d⟩
 |inst a b=>exact⟨_,a,b⟩
 |ns a b=>exact⟨_,_,a,b⟩
 |frz a=>exact a
theorem dJ.list'{vs}(x:dJ P H ρ h a (.list vs))(g:∀rs n,h.get? a=some (aN rs n)→ak P H ρ vs rs→G):G:=by obtain⟨a,b,c,d⟩:=x.inv;exact g a b c d
theorem dJ.dict'{aU}(x:dJ P H ρ h a (.dict aU))(g:∀es n,h.get? a=some (dictOf es n)→(a==sysModules)=false→bG aU→cu P H ρ aU es→G):G:=by obtain⟨a,b,c,d,e,f⟩:=x.inv;exact g a b c d e f
theorem dJ.inst'{C d}(x:dJ P H ρ h a (.inst C d))(g:∀dx,h.get? a=some (instObj C dx)→ρ[d]?=some dx→G):G:=by obtain⟨a,b,c⟩:=x.inv;exact g a b c
theorem dJ.ns'{fs}(x:dJ P H ρ h a (.ns fs))(g:∀es n,h.get? a=some (dictOf es n)→bV P H ρ fs es→G):G:=by obtain⟨a,b,c,d⟩:=x.inv;exact g a b c d
theorem dJ.frz'{v}(x:dJ P H ρ h a (.frz v))(g:aj P H ρ v (.ref a)→G):G:=g x.inv
theorem ak.ind{M:List V→List Value→Prop}(n:M [] [])(c:∀v r vs rs,aj P H ρ v r→ak P H ρ vs rs→M vs rs→M (v::vs) (r::rs)){vs}:∀{rs},ak P H ρ vs rs→M vs rs:=by
 induction vs with
 |nil=>exact fun h=>h.nil' fun e=>e▸n
 |cons v vs ih=>exact fun h=>h.cons' fun r l a b e=>e▸c v r vs l a b (ih b)
theorem bV.ind{M:List (Str×V)→List DictEntry→Prop}(n:M [] [])(c:∀p t r fs es,aj P H ρ p.2 r→bV P H ρ fs es→M fs es→M (p::fs) (⟨PyData.keyHash P.p p.1,.str p.1 t,r⟩::es)){fs}:∀{es},bV P H ρ fs es→M fs es:=by
 induction fs with
 |nil=>exact fun h=>h.nil' fun e=>e▸n
 |cons v vs ih=>exact fun h=>h.cons' fun t r l a b e=>e▸c v t r vs l a b (ih b)
theorem cu.ind{M:List (V×V)→List DictEntry→Prop}(n:M [] [])(c:∀p hs kr r aU es,aj P H ρ p.1 kr→eI P p.1 hs→aj P H ρ p.2 r→cu P H ρ aU es→M aU es→M (p::aU) (⟨hs,kr,r⟩::es)){aU}:∀{es},cu P H ρ aU es→M aU es:=by
 induction aU with
 |nil=>exact fun h=>h.nil' fun e=>e▸n
 |cons v vs ih=>exact fun h=>h.cons' fun hs kr r l a b d q e=>e▸c v hs kr r vs l a b d q (ih q)
end
theorem lz{k b:Bool}{p:Prop}(h:fS k b p):b=true∧p:=by
  cases k with
  | true=>cases b with
    |true=>exact⟨rfl,h⟩
    |false=>exact h.elim
  |false=>exact h
theorem c7{G:Prop}{k b:Bool}{p:Prop}(h:fS k b p)(g:b=true→p→G):G:=g (lz h).1 (lz h).2
end
section
open PySem PySem.W PySem.Calls PyProof.Rows PySem.SeqAt
theorem BD(n:Nat):Nat.beq n n=true:=by induction n with|zero=>rfl|succ n ih=>exact ih
theorem pT:∀{x y:List Nat},gW x y=true→x=y:=by
  intro x
  induction x with
  |nil=>exact fun h=>(cU h).symm
  | cons a x ih=>
    intro y h
    cases y with
    |nil=>cases h
    |cons b y=>exact ij h fun e h=>by rw[Nat.eq_of_beq_eq_true e,ih h]
theorem um(x:List Nat):gW x x=true:=by
 induction x with
 |nil=>rfl
 |cons a x ih=>show bX (Nat.beq a a) (gW x x) false=true;rw[BD];exact ih
theorem bR{a b:Str}:aS a b=true↔a=b:=
 ⟨fun h=>by cases a;cases b;exact congrArg Str.mk (Array.toList_inj.mp (pT h)),fun e=>e▸um _⟩
theorem B1{a b:Str}(h:aS a b=false):a≠b:=fun e=>Bool.noConfusion ((bR.mpr e).symm.trans h)
theorem yH{a b:Str}(h:a≠b):aS a b=false:=by
 cases q:aS a b with
 |true=>exact absurd (bR.mp q) h
 |false=>rfl
theorem dw(a b:Str):aS a b=(a==b):=by
 cases h:aS a b with
 |true=>rw[bR.mp h,beq_self_eq_true]
 |false=>exact(beq_eq_false_iff_ne.mpr (B1 h)).symm
theorem fM{α:Type}(x:Str)(l:List (Str×α)):lk x l=l.lookup x:=by
  induction l with
  |nil=>rfl
  | cons p r ih=>
    show bX (aS x p.1) (some p.2) (lk x r)=List.lookup x ((p.1,p.2)::r)
    rw[dw,ih,List.lookup_cons]
    cases x==p.1 <;> rfl
theorem D8{α:Type}(x y:Str)(v:α)(l:List (Str×α)):lk y (put x v l)=if y=x then some v else lk y l:=by
  have one (z:Str) (u:α) (r:List (Str×α)):lk y ((z,u)::r)=if y=z then some u else lk y r:=by
    show bX (aS y z) (some u) (lk y r)=_
    by_cases q:y=z
    · rw[bR.mpr q,if_pos q];rfl
    · rw[yH q,if_neg q];rfl
  induction l with
  |nil=>exact one x v []
  | cons p r ih=>
    obtain⟨z,u⟩:=p
    show lk y (bX (aS x z) ((z,v)::r) ((z,u)::put x v r))=_
    by_cases h:x=z
    · subst h
      rw[bR.mpr rfl]
      show lk y ((x,v)::r)=_
      rw[one,one]
      by_cases q:y=x
      · rw[if_pos q,if_pos q]
      · rw[if_neg q,if_neg q,if_neg q]
    · rw[yH h]
      show lk y ((z,u)::put x v r)=_
      rw[one,one,ih]
      by_cases q:y=x
      · rw[if_pos q,if_pos q,if_neg (q▸h)]
      · rw[if_neg q,if_neg q]
theorem pV{k b:Bool}{p q:Prop}(h:bz k b p q):if b=true then p else q:=by
  cases k with
  |true=>cases b <;> exact h
  | false=>cases b with
    |true=>exact h.1 rfl
    |false=>exact h.2 rfl
theorem kN{n:Nat}(h:small n=true):n < 2 ^ 64:=Nat.le_of_ble_eq_true h
theorem eJ{n:Nat}(h:bN n=true):n≤sizeLine:=Nat.le_trans (Nat.le_of_ble_eq_true h) (by rw[sizeLine_eq];decide)
theorem zu(b:Bool):c5 b=!b:=by cases b <;> rfl
theorem oa{n:Nat}(h:n < 2 ^ 64):Builtin.Int.intBits (Int.ofNat n)≤shortFactorBits:=by
 show(if(Int.ofNat n)==0 then 0 else n.log2+1)≤64
 by_cases q:((Int.ofNat n)==0)=true
 ·rw[if_pos q];exact Nat.zero_le _
 ·rw[if_neg q]
  have h0:n≠0:=fun e=>by subst e;exact q rfl
  exact(Nat.log2_lt h0).mpr h
theorem GR{x:Int}{n:Nat}(h:n < 2 ^ 64):IntMulOk x (Int.ofNat n):=by
 unfold IntMulOk
 have:¬Builtin.Int.intBits (Int.ofNat n) > shortFactorBits:=Nat.not_lt.mpr (oa h)
 rw[decide_eq_false this];simp
theorem HH{x:Int}{n:Nat}(h:n < 2 ^ 64):IntMulOk (Int.ofNat n) x:=by
 unfold IntMulOk
 have:¬Builtin.Int.intBits (Int.ofNat n) > shortFactorBits:=Nat.not_lt.mpr (oa h)
 rw[decide_eq_false this];simp
theorem zF{x:Int}{n:Nat}(h:n < 2 ^ 64):Builtin.divisionGoesByPylong x (Int.ofNat n)=false:=by
 unfold Builtin.divisionGoesByPylong
 have:¬(if(Int.ofNat n)==0 then 0 else(Int.ofNat n).natAbs.log2 / 30+1) > 300:=by
  by_cases q:((Int.ofNat n)==0)=true
  ·rw[if_pos q];decide
  ·rw[if_neg q]
   have h0:n≠0:=fun e=>by subst e;exact q rfl
   have:=(Nat.log2_lt h0).mpr h
   show ¬n.log2 / 30+1 > 300
   lia
 simp only [decide_eq_false this,Bool.false_and]
noncomputable def GQ(P:Pm)(H:HP)(ρ:List Addr)(K:V→Prop)(Q:Value→Shared→Prop)(s:Shared):Prop:=∀v r t',aj P H ρ v r→K v→Q r {s with toks:=t'}
section
variable {prog:Program}{w:World}{A:Around}{E:Value→Shared→Prop}{s:Shared}{P:Pm}{H:HP}{ρ:List Addr}{K:V→Prop}
theorem GQ.int{k:Bool}{x:Int}{Q:Value→Shared→Prop}(q:GQ P H ρ K Q s)(h:K (.int k x)):Q (.int x s.toks) {s with toks:=s.toks+1}:=q _ _ _ .int h
theorem GQ.str{k:Bool}{x:Str}{Q:Value→Shared→Prop}(q:GQ P H ρ K Q s)(hx:PyData.strOk x=true)(h:K (.str k x))(t':Tok)(tk:Nat):Q (.str x t') {s with toks:=tk}:=q _ _ _ (.str hx) h
theorem A3{op:Operator}{k:Bool}{x y:Int}{t u:Tok}{v:V}{Q:Value→Shared→Prop}(h:rM op k x y=some v)(hK:K v)(q:GQ P H ρ K Q s) :
  wpAny (model prog w) A (binaryOp op (.int x t) (.int y u)) Q E s:=by
 cases op with
 |Add=>obtain rfl:=af h;with_reducible exact add_int (q.int hK)
 |Sub=>obtain rfl:=af h;with_reducible exact sub_int (q.int hK)
 |BitOr=>obtain rfl:=af h;with_reducible exact or_int (q.int hK)
 |BitAnd=>obtain rfl:=af h;with_reducible exact and_int (q.int hK)
 |_=>cases h
theorem ni{op:Operator}{k:Bool}{x y:Int}{t u:Tok}{Q:Value→Shared→Prop}(h:oP (rM op k x y) K)(q:GQ P H ρ K Q s) :
  wpAny (model prog w) A (binaryOp op (.int x t) (.int y u)) Q E s:=aM h fun _ e h=>A3 e h q
theorem uR{op:Operator}{k:Bool}{x:Int}{n:Nat}{t u:Tok}{Q:Value→Shared→Prop}(h:s8 op k x n K)(q:GQ P H ρ K Q s) :
    wpAny (model prog w) A (binaryOp op (.int x t) (.int (Int.ofNat n) u)) Q E s:=by
  have ne (e:c5 (Nat.beq n 0)=true):Int.ofNat n≠0:=fun i=>Nat.ne_of_beq_eq_false (cX e) (Int.ofNat.inj i)
  have h0:(0:Int)≤Int.ofNat n:=Int.natCast_nonneg n
  cases op with
  |Mult=>exact bD h fun e h=>by with_reducible exact mul_int (q.int h) (GR (kN e))
  |FloorDiv=>exact bD h fun e1 h=>bD h fun e h=>by with_reducible exact floordiv_int (ne e1) (q.int h) (.inl (zF (kN e)))
  |Mod=>exact bD h fun e1 h=>by with_reducible exact mod_int' (ne e1) (q.int h)
  | RShift=>
    have h:K (.int k (x.fdiv (2 ^ n))):=h
    with_reducible refine rshift_int h0 ?_
    rw[show(Int.ofNat n).toNat=n from rfl]
    exact q.int h
  | LShift=>
    refine bD h fun e h=>c7 h fun h1 h2=>?_
    have e:Int.ofNat n≤1000000:=Int.ofNat_le.mpr (Nat.le_trans (Nat.le_of_ble_eq_true (show Nat.ble n 1000=true from e)) (by decide))
    with_reducible refine lshift_int_small h0 e (kN h1) ?_
    rw[show(Int.ofNat n).toNat=n from rfl]
    exact q.int h2
  |_=>exact ni (k:=k) h q
theorem A8{x y:Str}(hx:PyData.strOk x=true)(hy:PyData.strOk y=true):PyData.strOk (x++y)=true:=by
 unfold PyData.strOk at hx hy ⊢
 have e:(x++y).cps=x.cps++y.cps:=rfl
 rw[e,Array.all_append,hx,hy];rfl
theorem o4{α β:Type}{G:Prop}{o:Option α}{q:Option β}{p:α×β}(h:(oO o fun a=>oO q fun b=>some (a,b))=some p)(k:o=some p.1→q=some p.2→G):G:=
 aA h fun a ea h=>aA h fun b eb h=>k (by rw[ea,←af h]) (by rw[eb,←af h])
theorem BS{op:Operator}{a b:Bool×Int}{t u:Tok}{Q:Value→Shared→Prop}(h:Kt op a b K)(q:GQ P H ρ K Q s) :
    wpAny (model prog w) A (binaryOp op (.int a.2 t) (.int b.2 u)) Q E s:=by
  cases op with
  |Mult=>exact aM h fun n en h=>bD h fun e h=>wu en fun _ en=>by rw[en];with_reducible exact mul_int (q.int h) (HH (kN e))
  | Mod=>
    have h:fS false (Mr b.2) (K (.int (aH a.1 b.1) (a.2.fmod b.2))):=h
    refine c7 h fun h1 h2=>?_
    have h1:0 < b.2:=of_decide_eq_true (show decide (0 < b.2)=true from h1)
    with_reducible exact mod_int' (Int.ne_of_gt h1) (q.int h2)
  |_=>exact ni (k:=aH a.1 b.1) h q
theorem Hx{op:Operator}{a b:V}{ra rb:Value}{Q:Value→Shared→Prop}(h:Cb op a b K)(ha:aj P H ρ a ra)(hb:aj P H ρ b rb)(q:GQ P H ρ K Q s) :
  wpAny (model prog w) A (binaryOp op ra rb) Q E s:=by
 refine d8 h (fun p e h=>o4 e fun ea eb=>ha.cI ea fun t ea=>hb.cI eb fun u eb=>?_) fun _ h=>aM h fun p e h=>o4 e fun ea eb=>ha.cS ea fun t hx ea=>hb.cS eb fun u hy eb=>bD h fun h1 h=>c7 h fun h2 h3=>?_
 ·rw[ea,eb]
  refine d8 h (fun n en h=>wu en fun _ en=>?_) fun _ h=>BS h q
  rw[en];exact uR h q
 ·rw[ea,eb]
  cases op with
  |Add=>with_reducible exact add_str (q.str (A8 hx hy) h3) (eJ h2)
  |_=>cases h1
end
theorem ML{c:Nat}(h:V3 c=true):c < 1114112:=Nat.le_of_ble_eq_true h
theorem qQ{α:Type}(f:α→Bool)(l:List α):bH f l=l.all f:=by
 induction l with
 |nil=>rfl
 |cons x r ih=>show bX (f x) (bH f r) false=_;rw[List.all_cons,ih];cases f x <;> rfl
theorem bF{α:Type}{f:α→Bool}{x:α}{r:List α}(h:bH f (x::r)=true):f x=true∧bH f r=true:=ij h fun a b=>⟨a,b⟩
theorem se{s:Str}(h:JJ s=true):PyData.strOk s=true:=by
 unfold JJ at h
 unfold PyData.strOk
 rw[qQ,List.all_eq_true]at h
 rw[←Array.all_toList,List.all_eq_true]
 exact fun x hx=>decide_eq_true (ML (h x hx))
structure wH(n:Nat)(h:Heap)(r:Value)(d:PyData):Prop where
 reads:∃as,Reads h r d as
 lay:d.canLay0=true
 deep:d.depth≤n
structure hO(n:Nat)(h:Heap)(rs:List Value)(ds:List PyData):Prop where
 reads:∃as,ReadsAll h rs ds as
 lay:PyData.canLayAll0 ds=true
 deep:PyData.depthAll ds≤n
section
variable {P:Pm}{base h:Heap}{H:HP}{ρ:List Addr}{ae:a6}{ob:Tr}
theorem hO.nil{n:Nat}:hO n h [] []:=⟨⟨_,.nil⟩,by rw[PyData.canLayAll0],by rw[PyData.depthAll];exact Nat.zero_le _⟩
theorem hO.cons{n:Nat}{r rs d ds}(x:wH n h r d)(y:hO n h rs ds):hO n h (r::rs) (d::ds):=by
 obtain⟨⟨_,r1⟩,l1,d1⟩:=x
 obtain⟨⟨_,r2⟩,l2,d2⟩:=y
 exact⟨⟨_,.cons r1 r2⟩,by rw[PyData.canLayAll0,l1,l2];rfl,by rw[PyData.depthAll];exact Nat.max_le.mpr ⟨d1,d2⟩⟩
theorem lK{n:Nat}{f:V→Option PyData}(ih:∀v r d,aj P H ρ v r→f v=some d→wH n h r d){vs:List V}{rs:List Value}{ds:List PyData}(hv:ak P H ρ vs rs):k8 f vs=some ds→hO n h rs ds:=
 ak.ind (M:=fun vs rs=>∀ds,k8 f vs=some ds→hO n h rs ds) (fun _ e=>af e▸.nil)
  (fun v r vs rs a _ i _ e=>aA e fun y e1 e=>aA e fun l e2 e=>af e▸.cons (ih _ _ _ a e1) (i _ e2)) hv ds
theorem hO.list{n k:Nat}{a:Addr}{rs:List Value}{ds:List PyData}(x:hO n h rs ds)(e:h.get? a=some (aN rs k)):wH (n+1) h (.ref a) (.list ds):=by
 obtain⟨⟨_,r⟩,l,d⟩:=x
 exact⟨⟨_,.list e rfl rfl r⟩,by rw[PyData.canLay0];exact l,by rw[PyData.depth];exact Nat.succ_le_succ d⟩
theorem hO.tup{n:Nat}{a:Addr}{rs:List Value}{ds:List PyData}(x:hO n h rs ds)(e:h.get? a=some (fJ rs)):wH (n+1) h (.ref a) (.tuple ds):=by
 obtain⟨⟨_,r⟩,l,d⟩:=x
 exact⟨⟨_,.tuple e rfl rfl r⟩,by rw[PyData.canLay0];exact l,by rw[PyData.depth];exact Nat.succ_le_succ d⟩
theorem G9{n:Nat}{rs:List Value}{xs:List Int}(x:IntsAre rs xs):hO n h rs (eR xs):=by
 induction x with
 |nil=>exact .nil
 |cons _ _ _ ih=>exact .cons ⟨⟨_,.int _ _⟩,by rw[PyData.canLay0],by rw[PyData.depth];exact Nat.zero_le _⟩ ih
theorem CV (I:a8 P base H ρ ae ob h) (n:Nat) {v:V} {r:Value} {d:PyData} (hv:aj P H ρ v r) (e:Sq ob n v=some d):wH n h r d:=by
  induction n generalizing v r d with
  |zero=>cases e
  | succ n ih=>
    have ih:=fun v r d a b=>@ih v r d a b
    cases hv with
    |none=>exact af e▸⟨⟨_,.none⟩,by rw[PyData.canLay0],by rw[PyData.depth];exact Nat.zero_le _⟩
    |bool=>exact af e▸⟨⟨_,.bool _⟩,by rw[PyData.canLay0],by rw[PyData.depth];exact Nat.zero_le _⟩
    |int=>exact af e▸⟨⟨_,.int _ _⟩,by rw[PyData.canLay0],by rw[PyData.depth];exact Nat.zero_le _⟩
    |str hx=>exact af e▸⟨⟨_,.str _ _⟩,by rw[PyData.canLay0];exact hx,by rw[PyData.depth];exact Nat.zero_le _⟩
    |irow a b=>exact af e▸(G9 b).list (I.frz _ _ a)
    |tup a b=>exact aA e fun l el e=>af e▸(lK ih b el).tup (I.frz _ _ a)
    |list a b=>exact aA e fun l el e=>af e▸(lK ih b el).list (I.frz _ _ a)
    | ref ha=>
      exact dD e (fun vs eo e=>aA e fun l el e=>(I.at (jq eo) ha).list' fun _ _ a b=>af e▸(lK ih b el).list a)
        fun _ e=>aA e fun v eo e=>(I.at (Cj eo) ha).frz' fun a=>let x:=ih _ _ _ a e;⟨x.reads,x.lay,Nat.le_succ_of_le x.deep⟩
    |_=>cases e
end
theorem mM{α:Type}(f:α→Bool)(l:List α):eK f l=l.any f:=by
 induction l with
 |nil=>rfl
 |cons x r ih=>rw[List.any_cons,←ih];show(match f x with|true=>true|false=>eK f r)=_;cases f x <;> rfl
theorem gZ(b:Bool):dU true b=!b:=by cases b <;> rfl
theorem B9{f:PyData→PyData→Bool}(hf:∀d e,f d e=PyData.eqv d e)(a:List PyData):∀b,RL f a b=PyData.eqvAll a b:=by
  induction a with
  |nil=>intro b;cases b <;> (rw[PyData.eqvAll];rfl)
  | cons x a ih=>
    intro b
    cases b with
    |nil=>rw[PyData.eqvAll];rfl
    |cons y b=>rw[PyData.eqvAll,←ih,←hf];show bX _ _ _=_;cases f x y <;> rfl
theorem jY(n:Nat):∀(d e:PyData),gy n d e=PyData.eqv d e:=by
  induction n with
  |zero=>exact fun _ _=>rfl
  | succ n ih=>
    intro d e
    cases d with
    |str x=>cases e <;> (rw[PyData.eqv];first|rfl|exact dw _ _)
    |int x=>cases e <;> rfl
    |tuple a=>cases e <;> (rw[PyData.eqv];first|rfl|exact B9 ih _ _)
    |list a=>cases e <;> (rw[PyData.eqv];first|rfl|exact B9 ih _ _)
    |_=>rfl
theorem zQ:∀{a b:List Int},dy a b=true→a=b:=by
  intro a
  induction a with
  |nil=>exact fun h=>(cU h).symm
  | cons x a ih=>
    intro b h
    cases b with
    |nil=>cases h
    |cons y b=>exact ij h fun e h=>by rw[eq_of_beq e,ih h]
theorem tn(a:List Int):dy a a=true:=by
 induction a with
 |nil=>rfl
 |cons x a ih=>show bX (x==x) (dy a a) false=true;rw[beq_self_eq_true];exact ih
theorem toNat_inj{a:List UInt8}:∀{b:List UInt8},(a.map fun b=>(b.toNat:Int))=b.map (fun b=>(b.toNat:Int))→a=b:=by
  induction a with
  |nil=>intro b e;cases b with|nil=>rfl|cons=>cases e
  | cons x a ih=>
    intro b e
    cases b with
    |nil=>cases e
    |cons y b=>rw[UInt8.toNat_inj.mp (Int.ofNat.inj (List.cons.inj e).1),ih (List.cons.inj e).2]
theorem qk(a b:Array UInt8):dy (aF a) (aF b)=(a.toList==b.toList):=by
 by_cases h:a.toList=b.toList
 ·unfold aF;rw[h,beq_self_eq_true];exact tn _
 ·rw[beq_eq_false_iff_ne.mpr h]
  cases q:dy (aF a) (aF b)with
  |false=>rfl
  |true=>exact absurd (toNat_inj (zQ q)) h
section
variable {prog:Program}{w:World}{A:Around}{E:Value→Shared→Prop}{s:Shared}{P:Pm}{base:Heap}{H:HP}{ρ:List Addr}{ae:a6}{ob:Tr}
theorem FP{op:CmpOp}{d e:PyData}{c:Bool}{ra rb:Value}{Q:Value→Shared→Prop}(hu:A.units+16 < cLine)(h:JI op d e=some c)(x:wH 8 s.heap ra d)(y:wH 8 s.heap rb e)(q:Q (.bool c) s) :
    wpAny (model prog w) A (compareOp op ra rb) Q E s:=by
  obtain⟨⟨_,r1⟩,l1,d1⟩:=x
  obtain⟨⟨_,r2⟩,l2,d2⟩:=y
  have hm:A.units+min d.depth e.depth < cLine:=Nat.lt_of_le_of_lt (Nat.add_le_add_left (Nat.le_trans (Nat.min_le_left _ _) d1) _) (by lia)
  have hm' (n:Nat):A.units+1+min n d.depth < cLine:=Nat.lt_of_le_of_lt (Nat.add_le_add_left (Nat.le_trans (Nat.min_le_right _ _) d1) _) (by lia)
  have f8:gy 8=PyData.eqv:=funext fun d=>funext fun e=>jY 8 d e
  cases op with
  | Eq=>
    have h:gy 8 d e=c:=af h
    rw[f8]at h
    rw[←h]at q
    with_reducible refine cmp_ofEq ?_
    exact eqOverData _ _ _ _ _ _ _ _ _ _ _ _ r1 r2 l1 l2 hm q
  | NotEq=>
    have h:dU true (gy 8 d e)=c:=af h
    rw[f8,gZ]at h
    rw[←h]at q
    with_reducible refine cmp_ofNotEq ?_
    exact neOverData _ _ _ _ _ _ _ _ _ _ _ _ r1 r2 l1 l2 hm q
  |In=>
      refine aA h fun l el h=>?_
      have h:eK (fun y=>gy 8 y d) l=c:=af h
      rw[f8,mM]at h
      rw[←h]at q
      cases e with
      |list l'=>obtain rfl:=af el;rw[PyData.canLay0]at l2;with_reducible exact in_list_reads r2 r1 l2 l1 (hm' _) q
      |tuple l'=>obtain rfl:=af el;rw[PyData.canLay0]at l2;with_reducible exact in_tuple_reads r2 r1 l2 l1 (hm' _) q
      |_=>cases el
  |NotIn=>
      refine aA h fun l el h=>?_
      have h:dU true (eK (fun y=>gy 8 y d) l)=c:=af h
      rw[f8,mM,gZ]at h
      rw[←h]at q
      cases e with
      |list l'=>obtain rfl:=af el;rw[PyData.canLay0]at l2;with_reducible exact notIn_list_reads r2 r1 l2 l1 (hm' _) q
      |tuple l'=>obtain rfl:=af el;rw[PyData.canLay0]at l2;with_reducible exact notIn_tuple_reads r2 r1 l2 l1 (hm' _) q
      |_=>cases el
  |_=>cases h
theorem F5{op:CmpOp}{a b:V}{p:Bool×Bool}{ra rb:Value}{Q:Value→Shared→Prop}(I:a8 P base H ρ ae ob s.heap)(hu:A.units+16 < cLine)(h:KA ob op a b=some p)(ha:aj P H ρ a ra)(hb:aj P H ρ b rb)(q:Q (.bool p.2) s) :
  wpAny (model prog w) A (compareOp op ra rb) Q E s:=
 aA h fun d hd h=>aA h fun e he h=>aA h fun r hr h=>FP hu hr (CV I 8 ha hd) (CV I 8 hb he) (by rw[←af h]at q;exact q)
noncomputable def gH(key:V):List (V×V)→Option V
 |[]=>none
 |p::r=>bX (bY key p.1) (some p.2) (gH key r)
theorem E9(key:V)(aU:List (V×V)):qd key aU=(gH key aU).isSome:=by
 induction aU with
 |nil=>rfl
 |cons p r ih=>show bX _ _ _=(bX _ _ _:Option V).isSome;cases bY key p.1;exact ih;rfl
structure c9(P:Pm)(H:HP)(ρ:List Addr)(h:Heap)(d:Addr)(aU:List (V×V)):Prop where
 obj:∃es n,h.get? d=some (dictOf es n)∧cu P H ρ aU es
 low:(d==sysModules)=false
 apart:bG aU
theorem iT{h:Heap}(I:a8 P base H ρ ae ob h){v:V}{r:Value}{aU:List (V×V)}(hv:aj P H ρ v r)(e:qo ob v=some aU):∃d,r=.ref d∧c9 P H ρ h d aU:=
 dD e (fun _ ed e=>hv.cD ed fun _ _ _ a b c d er=>⟨_,er,⟨_,_,I.frz _ _ a,af e▸d⟩,b,af e▸c⟩)
  fun _ e=>aA e fun i ei e=>hv.cR ei fun ad ha er=>dD e (fun _ eo e=>(I.at (MB eo) ha).dict' fun _ _ a b c d=>⟨_,er,⟨_,_,a,af e▸d⟩,b,af e▸c⟩)
   fun _ e=>aA e fun u eo e=>(I.at (Cj eo) ha).frz' fun a=>a.cD e fun _ _ _ a b c d e=>⟨_,er,by cases e;exact⟨_,_,I.frz _ _ a,d⟩,by cases e;exact b,c⟩
end
section
variable {prog:Program}{w:World}{P:Pm}{H:HP}{ρ:List Addr}{K:Type}[DecidableEq K]{ok:V→Prop}{f:V→K}
inductive qI(P:Pm)(H:HP)(ρ:List Addr)(ok:V→Prop)(f:V→K):List (V×V)→List (K×Value)→Prop
 |nil:qI P H ρ ok f [] []
 |cons {p r aU rs}:ok p.1→aj P H ρ p.2 r→qI P H ρ ok f aU rs→qI P H ρ ok f (p::aU) ((f p.1,r)::rs)
structure mi(knd:KeyKind prog w K)(P:Pm)(H:HP)(ρ:List Addr)(ok:V→Prop)(f:V→K):Prop where
 is:∀{k r},ok k→aj P H ρ k r→knd.is (f k) r=true
 back:∀{k r},ok k→knd.is (f k) r=true→aj P H ρ k r
 hash:∀{k h},ok k→eI P k h→h=knd.hash (f k)
 toH:∀{k},ok k→eI P k (knd.hash (f k))
variable {knd:KeyKind prog w K}
theorem LM(X:mi knd P H ρ ok f){aU es}(d:cu P H ρ aU es):(∀kv∈aU,∀r,aj P H ρ kv.1 r→ok kv.1)→∃rs,qI P H ρ ok f aU rs∧Pairs knd es rs∧∀e∈es,∃k,knd.is k e.key=true∧e.hash=knd.hash k:=
 cu.ind (M:=fun aU es=>(∀kv∈aU,∀r,aj P H ρ kv.1 r→ok kv.1)→∃rs,qI P H ρ ok f aU rs∧Pairs knd es rs∧∀e∈es,∃k,knd.is k e.key=true∧e.hash=knd.hash k) (fun _=>⟨[],.nil,.nil,fun _ h=>absurd h List.not_mem_nil⟩)
  (fun p hs kr r aU es a b c _ ih h=>by
   refine dC (ih fun kv m=>h kv (List.mem_cons_of_mem _ m)) fun rs h1 h2 h3=>?_
   have o:=h _ List.mem_cons_self _ a
   refine⟨(f p.1,r)::rs,.cons o c h1,.cons (X.is o a) rfl h2,fun e' m=>?_⟩
   rcases List.mem_cons.mp m with rfl|m
   ·exact⟨f p.1,X.is o a,X.hash o b⟩
   ·exact h3 e' m) d
theorem qI.find(he:∀{a b},ok a→ok b→(bY a b=true↔f a=f b)){key:V}(hk:ok key){aU rs}(h:qI P H ρ ok f aU rs):oX (gH key aU) (fun v=>∃r,valueAt rs (f key)=some r∧aj P H ρ v r) (valueAt rs (f key)=none):=by
  induction h with
  |nil=>rfl
  | @cons p r aU rs a b c ih=>
    show oX (bX (bY key p.1) (some p.2) (gH key aU)) _ _
    cases q:bY key p.1 with
    |true=>exact⟨r,by rw[(he hk a).mp q];simp[valueAt],b⟩
    | false=>
      have e:¬f p.1=f key:=fun e=>by rw[(he hk a).mpr e.symm]at q;cases q
      have e2:valueAt ((f p.1,r)::rs) (f key)=valueAt rs (f key):=by simp[valueAt,e]
      rw[e2];exact ih
theorem qI.apart(he:∀{a b},ok a→ok b→(bY a b=true↔f a=f b)){key:V}(hk:ok key){aU rs}(h:qI P H ρ ok f aU rs):(∀b∈aU,bY key b.1=false)↔f key∉rs.map (·.1):=by
  induction h with
  |nil=>exact⟨fun _=>List.not_mem_nil,fun _ _ m=>absurd m List.not_mem_nil⟩
  | @cons p r aU rs a b c ih=>
    have e:=he hk a
    rw[List.forall_mem_cons,List.map_cons,List.mem_cons,not_or,ih,←e,Bool.not_eq_true]
theorem qI.nodup(he:∀{a b},ok a→ok b→(bY a b=true↔f a=f b)){aU rs}(h:qI P H ρ ok f aU rs):(rs.map (·.1)).Nodup↔bG aU:=by
 unfold bG
 induction h with
 |nil=>exact⟨fun _=>.nil,fun _=>.nil⟩
 |@cons p r aU rs a b c ih=>rw[List.map_cons,List.nodup_cons,List.pairwise_cons,ih,←qI.apart he a c]
theorem uj{rs:List (K×Value)}{k:K}{u v:Value}(hn:k∉rs.map (·.1)):stored ((k,u)::rs) k v=(k,v)::rs:=by
 simp[stored]
 exact map_store_of_not_mem rs k v hn
theorem q5{rs:List (K×Value)}{k k':K}{u v:Value}(hn:¬k'=k):stored ((k',u)::rs) k v=(k',u)::stored rs k v:=by
 unfold stored
 simp only [List.any_cons,List.map_cons,hn,decide_false,Bool.false_or,if_false]
 cases rs.any _ <;> rfl
theorem qI.put(he:∀{a b},ok a→ok b→(bY a b=true↔f a=f b)){key v:V}{rv:Value}(hk:ok key)(hv:aj P H ρ v rv){aU rs}(h:qI P H ρ ok f aU rs)(n:(rs.map (·.1)).Nodup):qI P H ρ ok f (gf key v aU) (stored rs (f key) rv):=by
  induction h with
  |nil=>exact .cons (p:=(key,v)) hk hv .nil
  | @cons p r aU rs a b c ih=>
    rw[List.map_cons,List.nodup_cons]at n
    show qI P H ρ ok f (bX (bY key p.1) ((p.1,v)::aU) (p::gf key v aU)) _
    cases q:bY key p.1 with
    | true=>
      rw[(he hk a).mp q,uj n.1]
      exact .cons (p:=(p.1,v)) a hv c
    | false=>
      rw[q5 fun e=>by rw[(he hk a).mpr e.symm]at q;cases q]
      exact .cons a b (ih n.2)
theorem EA(X:mi knd P H ρ ok f){aU rs}(h:qI P H ρ ok f aU rs):∀{es},Pairs knd es rs→(∀e∈es,∃k,knd.is k e.key=true∧e.hash=knd.hash k)→cu P H ρ aU es:=by
  induction h with
  |nil=>intro es p _;cases p;exact .nil
  | @cons p r aU rs a b c ih=>
    intro es pp h
    cases pp with
    | @cons e _ es _ p1 p2 p3=>
      refine av (h e List.mem_cons_self) fun k' i1 i2=>?_
      obtain rfl:=knd.inj _ _ _ i1 p1
      obtain⟨eh,ek,ev⟩:=e
      obtain rfl:eh=_:=i2
      exact .cons (X.back a p1) (X.toH a) (by rw[show ev=r from p2];exact b) (ih p3 fun e m=>h e (List.mem_cons_of_mem _ m))
variable {A:Around}{E:Value→Shared→Prop}{s:Shared}{base:Heap}{ae:a6}{ob:Tr}
theorem qy(X:mi knd P H ρ ok f)(he:∀{a b},ok a→ok b→(bY a b=true↔f a=f b)){h:Heap}{d:Addr}{aU:List (V×V)}(D:c9 P H ρ h d aU)(hs:∀kv∈aU,∀r,aj P H ρ kv.1 r→ok kv.1):∃rs,qI P H ρ ok f aU rs∧h.DictOf knd d rs:=by
 refine bq D.obj fun es n e1 e2=>?_
 refine dC (LM X e2 hs) fun rs h1 h2 h3=>?_
 exact⟨rs,h1,_,es.toArray,n,e1,⟨rfl,rfl,rfl⟩,rfl,fun e m=>h3 e (by simpa using m),by simpa using h2,(h1.nodup he).mpr D.apart⟩
theorem uU(X:mi knd P H ρ ok f)(he:∀{a b},ok a→ok b→(bY a b=true↔f a=f b)){h:Heap}{d:Addr}{aU:List (V×V)}{rs}(low:(d==sysModules)=false)(R:qI P H ρ ok f aU rs)(D:h.DictOf knd d rs):c9 P H ρ h d aU:=by
 obtain⟨o,es,ep,ho,⟨c1,c2,c3⟩,hd,hk,hp,hn⟩:=D
 refine⟨⟨es.toList,ep,?_,EA X R hp fun e m=>hk e (by simpa using m)⟩,low,(R.nodup he).mp hn⟩
 rw[ho]
 obtain⟨a,b,c,e⟩:=o
 simp only at c1 c2 c3 hd
 subst c1 c2 c3 hd
 simp
theorem DY(X:mi knd P H ρ ok f)(he:∀{a b},ok a→ok b→(bY a b=true↔f a=f b)){d:Addr}{aU:List (V×V)}{key:V}{rk:Value}{Q:Option Value→Shared→Prop}(D:c9 P H ρ s.heap d aU)(hs:∀kv∈aU,∀r,aj P H ρ kv.1 r→ok kv.1)(hk:ok key)(hv:aj P H ρ key rk)
  (q:∀tk o,oX (gH key aU) (fun v=>∃r,o=some r∧aj P H ρ v r) (o=none)→Q o {s with toks:=tk}):wpAny (model prog w) A (dictGet d rk) Q E s:=by
 refine av (qy X he D hs) fun rs h1 h2=>?_
 (with_reducible refine wpAny_dictGet_of (knd:=knd) (X.is hk hv) h2.mapOf ?_)
 exact q _ _ (h1.find he hk)
theorem BE(X:mi knd P H ρ ok f)(he:∀{a b},ok a→ok b→(bY a b=true↔f a=f b)){d:Addr}{aU:List (V×V)}{key v:V}{rk rv:Value}{Q:Unit→Shared→Prop}(D:c9 P H ρ s.heap d aU)(hs:∀kv∈aU,∀r,aj P H ρ kv.1 r→ok kv.1)(hk:ok key)(hv:aj P H ρ key rk)(hr:aj P H ρ v rv)(hl:aU.length≤sizeLine)
  (q:∀h' tk,c9 P H ρ h' d (gf key v aU)→Heap.SameBut d s.heap h'→Q () {s with heap:=h',toks:=tk}):wpAny (model prog w) A (dictSet d rk rv) Q E s:=by
 refine av (qy X he D hs) fun rs h1 h2=>?_
 have l:∀{aU rs},qI P H ρ ok f aU rs→rs.length=aU.length:=by
  intro aU rs h
  induction h with
  |nil=>rfl
  |cons _ _ _ ih=>simp[ih]
 (with_reducible refine wpAny_dictSet_pairs (knd:=knd) (X.is hk hv) h2 (fun h' d' sb=>q h' _ ?_ sb) ?_)
 ·exact uU X he D.low (h1.put he hk hr ((h1.nodup he).mpr D.apart)) d'
 ·rw[l h1];exact hl
end
section
variable {prog:Program}{w:World}{P:Pm}{H:HP}{ρ:List Addr}
theorem rV{x:Str}{t:Tok}:Value.isStrOf x (.str x t)=true:=by simp[Value.isStrOf]
theorem oq{x:Int}{t:Tok}:Value.isInt x (.int x t)=true:=by simp[Value.isInt]
noncomputable def yw(v:V):Str:=oX (vS v) (·.2) (Str.ofString "")
noncomputable def Ey(v:V):Int:=oX (vI v) (·.2) 0
noncomputable def dA(v:V):List Int:=oX (t3 v) (fun p=>[p.1,p.2.1,p.2.2]) []
noncomputable def yY(v:V):Prop:=∃k x,v=.str k x∧PyData.strOk x=true
noncomputable def u9(v:V):Prop:=∃k x,v=.int k x
noncomputable def fq(v:V):Prop:=∃a b c x y z,v=.tup [.int a x,.int b y,.int c z]
theorem ug{a b:V}(ha:yY a)(hb:yY b):bY a b=true↔yw a=yw b:=by
 obtain⟨_,_,rfl,_⟩:=ha;obtain⟨_,_,rfl,_⟩:=hb
 exact bR
theorem uL{a b:V}(ha:u9 a)(hb:u9 b):bY a b=true↔Ey a=Ey b:=by
 obtain⟨_,_,rfl⟩:=ha;obtain⟨_,_,rfl⟩:=hb
 exact⟨fun h=>eq_of_beq h,fun h=>beq_iff_eq.mpr h⟩
theorem iQ{a b:V}(ha:fq a)(hb:fq b):bY a b=true↔dA a=dA b:=by
 obtain⟨_,_,_,x,y,z,rfl⟩:=ha;obtain⟨_,_,_,x',y',z',rfl⟩:=hb
 show bX (x==x') (bX (y==y') (z==z') false) false=true↔[x,y,z]=[x',y',z']
 refine⟨fun h=>ij h fun e1 h=>ij h fun e2 h=>by rw[eq_of_beq e1,eq_of_beq e2,eq_of_beq h],fun e=>?_⟩
 cases e
 rw[beq_self_eq_true,beq_self_eq_true,beq_self_eq_true];rfl
theorem Kx(hP:P.p=w.params):mi (strKind prog w) P H ρ yY yw where
 is:=by
  rintro k r ⟨b,x,rfl,ox⟩ hv
  exact hv.str' fun t _ e=>e▸rV (t:=t)
 back:=by
  rintro k r ⟨b,x,rfl,ox⟩ hv
  refine cf (Value.isStrOf_shape hv) fun t rq1=>?_;subst rq1
  exact .str ox
 hash:=by
  rintro k h ⟨b,x,rfl,ox⟩ hh
  cases hh
  show PyData.keyHash P.p x=hashStr w x
  rw[hP];rfl
 toH:=by
  rintro k ⟨b,x,rfl,ox⟩
  have:(strKind prog w).hash (yw (.str b x))=PyData.keyHash P.p x:=by rw[hP];rfl
  rw[this];exact .str
theorem KC:mi (intKind prog w) P H ρ u9 Ey where
 is:=by
  rintro k r ⟨b,x,rfl⟩ hv
  exact hv.int' fun t e=>e▸oq (t:=t)
 back:=by
  rintro k r ⟨b,x,rfl⟩ hv
  refine cf (Value.isInt_shape hv) fun t rq1=>?_;subst rq1
  exact .int
 hash:=by
  rintro k h ⟨b,x,rfl⟩ hh
  cases hh
  rfl
 toH:=by
  rintro k ⟨b,x,rfl⟩
  exact .int
inductive gF(P:Pm)(H:HP)(ρ:List Addr):List (V×V)→List (List Int×Addr×Value)→Prop
 |nil:gF P H ρ [] []
 |cons {p a r aU rs}:fq p.1→aj P H ρ p.1 (.ref a)→aj P H ρ p.2 r→gF P H ρ aU rs→gF P H ρ (p::aU) ((dA p.1,a,r)::rs)
theorem rU{h:Heap}{base:Heap}{ae:a6}{ob:Tr}(I:a8 P base H ρ ae ob h){k:V}{r:Value}(o:fq k)(hv:aj P H ρ k r):∃a,r=.ref a∧IsTupleKey (intKind prog w) h (dA k) a:=by
 refine Gk o fun _ _ _ x y z rq6=>?_;subst rq6
 have q:∀{k x r},aj P H ρ (.int k x) r→(intKind prog w).is x r=true:=fun{k x r} h=>h.int' fun t e=>e▸oq (t:=t)
 exact hv.tup' fun rs a ha b er=>⟨a,er,_,_,_,I.frz _ _ ha,rfl,rfl,by
  refine b.c3 (p:=(.int _ x,.int _ y,.int _ z)) rfl fun r s t x1 x2 x3 e=>?_
  subst e
  exact .cons (q x1) (.cons (q x2) (.cons (q x3) .nil))⟩
theorem FF{k:V}{h:Int}(o:fq k)(hh:eI P k h):h=(tupleKind (intKind prog w)).hash (dA k):=by
 refine Gk o fun _ _ _ x y z rq6=>?_;subst rq6
 cases hh
 rfl
theorem IV{k:V}(o:fq k):eI P k ((tupleKind (intKind prog w)).hash (dA k)):=by
 refine Gk o fun _ _ _ x y z rq6=>?_;subst rq6
 exact .tup
theorem IQ{h:Heap}{base:Heap}{ae:a6}{ob:Tr}(I:a8 P base H ρ ae ob h){aU es}(d:cu P H ρ aU es):(∀kv∈aU,fq kv.1)→∃rs,gF P H ρ aU rs∧es=rs.map (entryOfKey (tupleKind (intKind prog w))):=
 cu.ind (M:=fun aU es=>(∀kv∈aU,fq kv.1)→∃rs,gF P H ρ aU rs∧es=rs.map (entryOfKey (tupleKind (intKind prog w)))) (fun _=>⟨[],.nil,rfl⟩)
  (fun p hs kr r aU es a b c _ ih h=>by
   refine av (ih fun kv m=>h kv (List.mem_cons_of_mem _ m)) fun rs h1 h2=>?_
   have o:=h _ List.mem_cons_self
   refine av (rU (prog:=prog) (w:=w) I o a) fun ad rq1 _=>?_;subst rq1
   refine⟨(dA p.1,ad,r)::rs,.cons o a c h1,?_⟩
   rw[h2,FF (prog:=prog) (w:=w) o b];rfl) d
theorem gF.find{key:V}(hk:fq key){aU rs}(h:gF P H ρ aU rs):oX (gH key aU) (fun v=>∃r,(atKey rs (dA key)).map (·.2)=some r∧aj P H ρ v r) ((atKey rs (dA key)).map (·.2)=none):=by
  induction h with
  |nil=>rfl
  | @cons p ad r aU rs a b' b c ih=>
    show oX (bX (bY key p.1) (some p.2) (gH key aU)) _ _
    cases q:bY key p.1 with
    |true=>exact⟨r,by rw[(iQ hk a).mp q];simp[atKey],b⟩
    | false=>
      have e:¬dA p.1=dA key:=fun e=>by rw[(iQ hk a).mpr e.symm]at q;cases q
      have e2:atKey ((dA p.1,ad,r)::rs) (dA key)=atKey rs (dA key):=by simp[atKey,e]
      rw[e2];exact ih
theorem gF.apart{key:V}(hk:fq key){aU rs}(h:gF P H ρ aU rs):(∀b∈aU,bY key b.1=false)↔dA key∉rs.map (·.1):=by
  induction h with
  |nil=>exact⟨fun _=>List.not_mem_nil,fun _ _ m=>absurd m List.not_mem_nil⟩
  | @cons p ad r aU rs a b' b c ih=>
    have e:=iQ hk a
    rw[List.forall_mem_cons,List.map_cons,List.mem_cons,not_or,ih,←e,Bool.not_eq_true]
theorem gF.nodup{aU rs}(h:gF P H ρ aU rs):(rs.map (·.1)).Nodup↔bG aU:=by
 unfold bG
 induction h with
 |nil=>exact⟨fun _=>.nil,fun _=>.nil⟩
 |@cons p ad r aU rs a b' b c ih=>rw[List.map_cons,List.nodup_cons,List.pairwise_cons,ih,←gF.apart a c]
theorem w6{k:List Int}{v:Value}{rs:List (List Int×Addr×Value)}(h:k∉rs.map (·.1)):rs.map (putAt k v)=rs:=by
  induction rs with
  |nil=>rfl
  | cons x rs ih=>
    rw[List.map_cons,List.mem_cons,not_or]at h
    rw[List.map_cons,ih h.2,putAt,if_neg fun e=>h.1 e.symm]
theorem pF{rs:List (List Int×Addr×Value)}{k k':List Int}{b a:Addr}{u v:Value}(hn:¬k'=k):storedH ((k',b,u)::rs) k a v=(k',b,u)::storedH rs k a v:=by
 have e2:atKey ((k',b,u)::rs) k=atKey rs k:=by simp[atKey,hn]
 unfold storedH
 rw[e2]
 cases atKey rs k with
 |some _=>show _::_=_;rw[putAt,if_neg hn];rfl
 |none=>rfl
theorem gF.put{key v:V}{rv:Value}{ad:Addr}(hk:fq key)(ka:aj P H ρ key (.ref ad))(hv:aj P H ρ v rv){aU rs}(h:gF P H ρ aU rs)(n:(rs.map (·.1)).Nodup):gF P H ρ (gf key v aU) (storedH rs (dA key) ad rv):=by
  induction h with
  |nil=>exact .cons (p:=(key,v)) hk ka hv .nil
  | @cons p ad' r aU rs a b' b c ih=>
    rw[List.map_cons,List.nodup_cons]at n
    show gF P H ρ (bX (bY key p.1) ((p.1,v)::aU) (p::gf key v aU)) _
    cases q:bY key p.1 with
    | true=>
      have e2:atKey ((dA p.1,ad',r)::rs) (dA p.1)=some (ad',r):=by simp[atKey]
      rw[(iQ hk a).mp q,storedH_old e2,List.map_cons,w6 n.1,putAt,if_pos rfl]
      exact .cons (p:=(p.1,v)) a b' hv c
    | false=>
      rw[pF fun e=>by rw[(iQ hk a).mpr e.symm]at q;cases q]
      exact .cons a b' b (ih n.2)
theorem Bl{aU rs}(h:gF P H ρ aU rs):cu P H ρ aU (rs.map (entryOfKey (tupleKind (intKind prog w)))):=by
 induction h with
 |nil=>exact .nil
 |cons a b' b c ih=>exact .cons b' (IV a) b ih
variable {A:Around}{E:Value→Shared→Prop}{s:Shared}{base:Heap}{ae:a6}{ob:Tr}
theorem nd{h:Heap}{d:Addr}{aU:List (V×V)}(I:a8 P base H ρ ae ob h)(D:c9 P H ρ h d aU)(hs:∀kv∈aU,fq kv.1):∃rs,gF P H ρ aU rs∧h.DictOfH (tupleKind (intKind prog w)) d rs:=by
  refine bq D.obj fun es n e1 e2=>?_
  refine av (IQ (prog:=prog) (w:=w) I e2 hs) fun rs h1 h2=>?_
  refine⟨rs,h1,_,es.toArray,n,e1,⟨rfl,rfl,rfl⟩,rfl,by simpa using h2,?_,h1.nodup.mpr D.apart⟩
  clear h2 e2 e1 D hs
  induction h1 with
  |nil=>intro _ m;cases m
  | cons a b' b c ih=>
    intro x m
    refine(List.mem_cons.mp m).elim (fun e=>?_) (ih x)
    refine av (rU (prog:=prog) (w:=w) I a b') fun ad e1 e2=>?_
    cases e1
    rw[e];exact e2
theorem rF{h:Heap}{d:Addr}{aU:List (V×V)}{rs}(low:(d==sysModules)=false)(R:gF P H ρ aU rs)(D:h.DictOfH (tupleKind (intKind prog w)) d rs):c9 P H ρ h d aU:=by
 obtain⟨o,es,ep,ho,⟨c1,c2,c3⟩,hd,he,hk,hn⟩:=D
 refine⟨⟨es.toList,ep,?_,by rw[he];exact Bl R⟩,low,R.nodup.mp hn⟩
 rw[ho]
 obtain⟨a,b,c,e⟩:=o
 simp only at c1 c2 c3 hd
 subst c1 c2 c3 hd
 simp
theorem nA{key:V}{aU:List (V×V)}(h:ff key aU=true):∀kv∈aU,jd key kv.1=true:=by
 induction aU with
 |nil=>exact fun _ m=>absurd m List.not_mem_nil
 |cons p r ih=>exact ij h fun e h=>List.forall_mem_cons.mpr ⟨e,ih h⟩
theorem QE{v:V}{p}(h:t3 v=some p):fq v:=
 aA h fun vs e1 h=>aA h fun q e2 h=>aA h fun x e3 h=>aA h fun y e4 h=>aA h fun z e5 _=>⟨x.1,y.1,z.1,x.2,y.2,z.2,by rw[L6 e1,zk e2,wK e3,wK e4,wK e5]⟩
theorem o3{key:V}(h:iD key=true):(∃k x,key=.str k x)∨u9 key∨fq key:=
 dD h (fun x e _=>.inl ⟨_,_,EM e⟩) fun _ h=>dD h (fun x e _=>.inr (.inl ⟨_,_,wK e⟩)) fun _ h=>kF h fun p e _=>.inr (.inr (QE e))
theorem BC{k x}{v:V}(h:jd (.str k x) v=true):∃k' x',v=.str k' x':=kF (o:=vS v) h fun _ e _=>⟨_,_,EM e⟩
theorem tZ{k x}{v:V}(h:jd (.int k x) v=true):u9 v:=kF (o:=vI v) h fun _ e _=>⟨_,_,wK e⟩
theorem tM{v u:V}(o:fq u)(h:jd u v=true):fq v:=by
 refine Gk o fun _ _ _ _ _ _ rq6=>?_;subst rq6
 exact kF (o:=t3 v) h fun _ e _=>QE e
theorem y8{aU:List (V×V)}{k x}(hk:∀kv∈aU,jd (.str k x) kv.1=true)(kv:V×V)(m:kv∈aU)(r:Value)(hr:aj P H ρ kv.1 r):yY kv.1:=by
 refine jr (BC (hk kv m)) fun k' x' e=>?_
 rw[e]at hr
 exact hr.str' fun _ ox _=>⟨_,_,e,ox⟩
theorem jL(hP:P.p=w.params){d:Addr}{aU:List (V×V)}{key:V}{rk:Value}{Q:Option Value→Shared→Prop}(I:a8 P base H ρ ae ob s.heap)(D:c9 P H ρ s.heap d aU)(hk:ff key aU=true)(ik:iD key=true)(hv:aj P H ρ key rk)(hu:A.units < cLine)
  (q:∀tk o,oX (gH key aU) (fun v=>∃r,o=some r∧aj P H ρ v r) (o=none)→Q o {s with toks:=tk}):wpAny (model prog w) A (dictGet d rk) Q E s:=by
 have hk:=nA hk
 rcases o3 ik with⟨k,x,rfl⟩|o|o
 ·exact DY (Kx hP) ug D (y8 hk) (hv.str' fun _ ox _=>⟨_,_,rfl,ox⟩) hv q
 ·refine DY KC uL D (fun kv m r hr=>?_) o hv q
  refine jr o fun _ _ rq2=>?_;subst rq2
  exact tZ (hk kv m)
 ·refine av (nd (prog:=prog) (w:=w) I D (fun kv m=>tM o (hk kv m))) fun rs h1 h2=>?_
  refine av (rU (prog:=prog) (w:=w) I o hv) fun a rq1 e2=>?_;subst rq1
  refine wpAny_dictGet_heap (knd:=tupleKind (intKind prog w)) hu e2 h2 ?_
  exact q _ _ (h1.find o)
theorem nV(hP:P.p=w.params){d:Addr}{aU:List (V×V)}{key v:V}{rk rv:Value}{Q:Unit→Shared→Prop}(I:a8 P base H ρ ae ob s.heap)(D:c9 P H ρ s.heap d aU)(hk:ff key aU=true)(ik:iD key=true)(hv:aj P H ρ key rk)(hr:aj P H ρ v rv)(hu:A.units < cLine)(hl:aU.length≤sizeLine)
  (q:∀h' tk,c9 P H ρ h' d (gf key v aU)→Heap.SameBut d s.heap h'→Q () {s with heap:=h',toks:=tk}):wpAny (model prog w) A (dictSet d rk rv) Q E s:=by
 have hk:=nA hk
 rcases o3 ik with⟨k,x,rfl⟩|o|o
 ·exact BE (Kx hP) ug D (y8 hk) (hv.str' fun _ ox _=>⟨_,_,rfl,ox⟩) hv hr hl q
 ·refine BE KC uL D (fun kv m r hr=>?_) o hv hr hl q
  refine jr o fun _ _ rq2=>?_;subst rq2
  exact tZ (hk kv m)
 ·refine av (nd (prog:=prog) (w:=w) I D (fun kv m=>tM o (hk kv m))) fun rs h1 h2=>?_
  refine av (rU (prog:=prog) (w:=w) I o hv) fun a rq1 e2=>?_;subst rq1
  have l:∀{aU rs},gF P H ρ aU rs→rs.length=aU.length:=by
   intro aU rs h
   induction h with
   |nil=>rfl
   |cons _ _ _ _ ih=>simp[ih]
  refine wpAny_dictSet_heap (knd:=tupleKind (intKind prog w)) hu e2 h2 (fun h' d' sb=>q h' _ ?_ sb) (by rw[l h1];exact hl)
  exact rF D.low (h1.put o hv hr (h1.nodup.mpr D.apart)) d'
end
section
variable {prog:Program}{w:World}{P:Pm}{H:HP}{ρ:List Addr}{A:Around}{E:Value→Shared→Prop}{s:Shared}{base:Heap}{ae:a6}{ob:Tr}
theorem My{A:Around}(hu:A.units+16 < cLine):A.in1.units < cLine:=by
 have e:A.in1.units≤A.units+16:=by unfold Around.in1;simp[Around.units];try lia
 lia
theorem c9.typeIs{d:Addr}{aU:List (V×V)}(D:c9 P H ρ s.heap d aU):s.TypeIs (.ref d) "dict":=by
 refine bq D.obj fun es n e _=>?_
 exact⟨_,e,rfl⟩
theorem pz{d:Addr}{aU:List (V×V)}{rk:Value}{R:Bool→Shared→Prop}{A:Around}(D:c9 P H ρ s.heap d aU)(h:wpAny (model prog w) A.in1 (dictGet d rk) (fun o s'=>R o.isSome s') E s):wpAny (model prog w) A (contains (.ref d) rk) R E s:=by
  unfold contains
  try with_reducible refine wpAny_holding ?_
  refine wpAny_bind (wpAny_specialOf D.typeIs slot_dict_contains.lookup ?_)
  show wpAny _ _ (if(some (Value.builtin "dict.__contains__")==some Value.none)=true then _ else _) _ E s
  rw[if_neg (by rw[beq_builtin_none];exact Bool.false_ne_true)]
  refine wpAny_bind (wpAny_callSpecialUnlessNone?_slot (name:=Str.ofString "__contains__") D.typeIs slot_dict_contains
    (wpAny_call_entry slot_dict_contains D.typeIs entry_dict_contains ?_ (args_dict_contains _ _)))
  show wpAny _ _ (dictGet d rk >>= _) _ _ s
  refine wpAny_bind (wpAny_mono h (fun o s' ho=>?_) fun _ _ e=>e)
  cases o with
  | some v=>
    show wpAny _ _ (ret (.bool true)) _ _ _
    exact wpAny_pure ⟨_,rfl,wpAny_truthy_bool ho⟩
  | none=>
    show wpAny _ _ (Builtin.Dict.pendingKey? d rk >>= _) _ _ _
    exact wpAny_bind (wpAny_pendingKey_other D.low (wpAny_pure ⟨_,rfl,wpAny_truthy_bool ho⟩))
theorem uV(hP:P.p=w.params){d:Addr}{aU:List (V×V)}{key:V}{rk:Value}{R:Bool→Shared→Prop}(I:a8 P base H ρ ae ob s.heap)(D:c9 P H ρ s.heap d aU)(hk:ff key aU=true)(ik:iD key=true)(hv:aj P H ρ key rk)(hu:A.units+16 < cLine)
  (q:∀tk,R (qd key aU) {s with toks:=tk}):wpAny (model prog w) A (contains (.ref d) rk) R E s:=
 pz D (jL hP I D hk ik hv (My hu) fun tk o ho=>by
  have q:=q tk
  rw[E9]at q
  cases e:gH key aU with
  |none=>rw[e]at ho q;rw[show o=none from ho];exact q
  |some v=>rw[e]at ho q;obtain⟨r,rfl,_⟩:=ho;exact q)
theorem zW(hP:P.p=w.params){d:Addr}{aU:List (V×V)}{key:V}{rk:Value}{Q:Value→Shared→Prop}(I:a8 P base H ρ ae ob s.heap)(D:c9 P H ρ s.heap d aU)(hk:ff key aU=true)(ik:iD key=true)(hv:aj P H ρ key rk)(hu:A.units+16 < cLine)
  (q:∀tk,Q (.bool (qd key aU)) {s with toks:=tk}):wpAny (model prog w) A (compareOp .In rk (.ref d)) Q E s:=by
 show wpAny _ _ (do return .bool (←contains (.ref d) rk)) Q E s
 exact wpAny_bind (uV hP I D hk ik hv hu fun tk=>wpAny_pure (q tk))
theorem rL(hP:P.p=w.params){d:Addr}{aU:List (V×V)}{key:V}{rk:Value}{Q:Value→Shared→Prop}(I:a8 P base H ρ ae ob s.heap)(D:c9 P H ρ s.heap d aU)(hk:ff key aU=true)(ik:iD key=true)(hv:aj P H ρ key rk)(hu:A.units+16 < cLine)
  (q:∀tk,Q (.bool (dU true (qd key aU))) {s with toks:=tk}):wpAny (model prog w) A (compareOp .NotIn rk (.ref d)) Q E s:=by
 show wpAny _ _ (do return .bool (!(←contains (.ref d) rk))) Q E s
 exact wpAny_bind (uV hP I D hk ik hv hu fun tk=>wpAny_pure (by rw[←gZ];exact q tk))
end
section
variable {prog:Program}{w:World}{A:Around}{E:Value→Shared→Prop}{s:Shared}{P:Pm}{base:Heap}{H:HP}{ρ:List Addr}{ae:a6}{ob:Tr}
theorem AF{op:CmpOp}{x y:Int}{t u:Tok}{c:Bool}{Q:Value→Shared→Prop}(h:EO op x y=some c)(q:Q (.bool c) s):wpAny (model prog w) A (compareOp op (.int x t) (.int y u)) Q E s:=by
 cases op with
 |Eq=>rw[←af h]at q;with_reducible exact eq_int q
 |NotEq=>rw[←af h]at q;with_reducible exact ne_int q
 |Lt=>rw[←af h]at q;with_reducible exact lt_int q
 |LtE=>rw[←af h]at q;with_reducible exact le_int q
 |Gt=>rw[←af h]at q;with_reducible exact gt_int q
 |GtE=>rw[←af h]at q;with_reducible exact ge_int q
 |_=>cases h
theorem H2{op:CmpOp}{x y:Str}{t u:Tok}{k:Bool}{p:Bool×Bool}{Q:Value→Shared→Prop}(h:O3 op k x y=some p)(q:Q (.bool p.2) s):wpAny (model prog w) A (compareOp op (.str x t) (.str y u)) Q E s:=by
 cases op with
 |Eq=>rw[←af h]at q;have q:Q (.bool (aS x y)) s:=q;rw[dw]at q;with_reducible exact eq_str q
 |NotEq=>rw[←af h]at q;have q:Q (.bool (dU true (aS x y))) s:=q;rw[gZ,dw]at q;(with_reducible refine ne_str ?_);exact q
 |In=>rw[←af h]at q;have q:Q (.bool (dU true _)) s:=q;rw[gZ]at q;with_reducible exact in_str q
 |_=>cases h
theorem Ia{op:CmpOp}{a b:Array UInt8}{t u:Tok}{p:Bool×Bool}{Q:Value→Shared→Prop}(h:PZ op (aF a) (aF b)=some p)(q:Q (.bool p.2) s):wpAny (model prog w) A (compareOp op (.bytes a t) (.bytes b u)) Q E s:=by
 cases op with
 |Eq=>rw[←af h]at q;have q:Q (.bool (dy _ _)) s:=q;rw[qk]at q;with_reducible exact eq_bytes q
 |NotEq=>rw[←af h]at q;have q:Q (.bool (dU true (dy _ _))) s:=q;rw[gZ,qk]at q;(with_reducible refine ne_bytes ?_);exact q
 |_=>cases h
theorem qM{v:V}{r:Value}{c:Bool}(h:aj P H ρ v r)(e:isNone v=some c):(r==Value.none)=c:=by
 cases h <;> first|exact af e|cases e
theorem Jp{op:CmpOp}{a:V}{ra:Value}{p:Bool×Bool}{Q:Value→Shared→Prop}(h:Qm op a=some p)(ha:aj P H ρ a ra)(q:Q (.bool p.2) s):wpAny (model prog w) A (compareOp op ra .none) Q E s:=by
 cases op with
 |Is=>exact aA h fun r e h=>by rw[←af h,←qM ha e]at q;with_reducible exact is_none q
 | IsNot=>
   refine aA h fun r e h=>?_
   rw[←af h,←qM ha e]at q
   have q:Q (.bool (dU true _)) s:=q
   rw[gZ]at q;with_reducible exact isNot_none q
 |_=>cases h
theorem wo(hP:P.p=w.params){op:CmpOp}{a b:V}{p:Bool×Bool}{ra rb:Value}{Q:Value→Shared→Prop}(I:a8 P base H ρ ae ob s.heap)(hu:A.units+16 < cLine)(h:zz ob op a b=some p)(ha:aj P H ρ a ra)(hb:aj P H ρ b rb)(q:∀tk,Q (.bool p.2) {s with toks:=tk}) :
  wpAny (model prog w) A (compareOp op ra rb) Q E s:=by
 refine dD h (fun aU ed h=>cH h fun hk h=>cH h fun ik h=>?_) fun _ h=>F5 I hu h ha hb (q s.toks)
 refine av (iT I hb ed) fun d rq1 D=>?_;subst rq1
 cases op with
 |In=>rw[←af h]at q;exact zW hP I D hk ik ha hu q
 |NotIn=>rw[←af h]at q;exact rL hP I D hk ik ha hu q
 |_=>cases h
theorem GP(hP:P.p=w.params){op:CmpOp}{a b:V}{p:Bool×Bool}{ra rb:Value}{Q:Value→Shared→Prop}(I:a8 P base H ρ ae ob s.heap)(hu:A.units+16 < cLine)(h:QT ob op a b=some p)(ha:aj P H ρ a ra)(hb:aj P H ρ b rb)(q:∀tk,Q (.bool p.2) {s with toks:=tk}) :
  wpAny (model prog w) A (compareOp op ra rb) Q E s:=by
 refine dD h (fun x e h=>o4 e fun ea eb=>ha.cI ea fun t ea=>hb.cI eb fun u eb=>aA h fun r er h=>?_) fun _ h=>
  dD h (fun x e h=>o4 e fun ea eb=>ha.cS ea fun t _ ea=>hb.cS eb fun u _ eb=>?_) fun _ h=>
  dD h (fun x e h=>o4 e fun ea eb=>ha.cY ea fun _ t ea fa=>hb.cY eb fun _ u eb fb=>?_) fun _ h=>
  iV h (fun e h=>hb.cNo e fun eb=>?_) fun _ h=>wo hP I hu h ha hb q
 ·have q:=q s.toks
  rw[←af h]at q
  rw[ea,eb];exact AF er q
 ·rw[ea,eb];exact H2 h (q s.toks)
 ·rw[fa,fb]at h
  rw[ea,eb];exact Ia h (q s.toks)
 ·rw[eb];exact Jp h ha (q s.toks)
end
end
section
structure Cx where
 A:Around
 cn:Str
 sc:Scope
 L:Addr
 cl:List (Str×Addr)
 fn:Option Addr
 sc0:Scope
 L0:Addr
 fa:Addr
 cl0:List (Str×Addr)
 cd:Value
 cs:List (Str×Addr)
 outer:List Env
noncomputable abbrev Cx.fenv(c:Cx):Env:=envX c.cn c.sc0 c.L0 c.fa c.cd c.cl0
noncomputable abbrev Cx.env(c:Cx):Env:={scope:=c.sc,locals:=c.L,globals:=mainGlobals,cells:=c.cl,qual:=c.cn++".<locals>.",func:=c.fn,code:=c.cd,frame:=some c.L0,builtins:=builtinsNs}
structure Cx.Ok(c:Cx)(n:Nat):Prop where
 frames:c.A.frames=some (c.fenv::c.outer)
 handled:c.A.handled=none
 kind:c.sc.kind=.function
 kind0:c.sc0.kind=.function
 depth:c.A.depth+2*n+8 < recursionLimit
 units:c.A.units+16*n+128 < cLine
 kept:∀x a,c.sc.names.lookup x=some .cell→c.cl.lookup x=some a→(x,a)∈c.cs
 names:(c.cs.map (·.1)).Nodup
 cells:∀x,c.sc.names.lookup x=some .cell→∃a,c.cl.lookup x=some a
 lam:∀l∈jv,c.sc.names.lookup l.key=some .cell→c.cd=.ref l.code∧c.cn=l.fn
theorem Cx.Ok.less{c:Cx}{n:Nat}(h:c.Ok (n+1)):c.Ok n:=⟨h.frames,h.handled,h.kind,h.kind0,by have:=h.depth;lia,by have:=h.units;lia,h.kept,h.names,h.cells,h.lam⟩
noncomputable def Fd(H:HP)(c:Cx)(m mc:cq)(x:Str)(r:Value):Prop:=
 (c.sc.names.lookup x=some .local∧m x=some r)∨(c.sc.names.lookup x=some .cell∧(∃a,c.cl.lookup x=some a)∧mc x=some r)∨
  (c.sc.names.lookup x=some .free∧(x==("__classdict__":Str))=false∧∃a o,c.cl.lookup x=some a∧H a o∧o.data=.cell (some r))
noncomputable def jw(P:Pm)(H:HP)(ρ:List Addr)(c:Cx)(fm:List (Str×V))(m mc:cq):Prop:=
 ∀x v,lk x fm=some v→(x==("__debug__":Str))=false∧∃r,Fd H c m mc x r∧aj P H ρ v r
theorem jw.mono{P:Pm}{H H':HP}{ρ ρ':List Addr}{c:Cx}{fm:List (Str×V)}{m mc:cq}(F:jw P H ρ c fm m mc)(hH:∀a o,H a o→H' a o)(hρ:cF ρ ρ'):jw P H' ρ' c fm m mc:=
 fun x v e=>let ⟨b,r,k,d⟩:=F x v e;⟨b,r,k.imp id fun k=>k.imp id fun⟨h1,h2,a,o,h3,h4,h5⟩=>⟨h1,h2,a,o,h3,hH _ _ h4,h5⟩,d.mono hH hρ⟩
noncomputable abbrev eE(v:Option Value):Fp:=h9 fun o=>o.data=.cell v
noncomputable def aP(cs:List (Str×Addr))(mc:cq):a6:=cs.map fun p=>(p.2,eE (mc p.1))
structure dj(φ:Fp):Prop where
 nf:∀H o,φ.φ H o→∀vs,o.data≠.fields vs
 dat:∀H H' o o',o'.data=o.data→φ.φ H o→φ.φ H' o'
noncomputable def LD(oc:Obj)(qual:Str):Prop:=∃vs t,oc.data=.fields vs∧vs[1]?=some (.str qual t)
noncomputable def zc(l:zr):Fp where
 φ H o:=∃ps,o={cls:=.none,data:=.fields ps}∧TriplesOk ps.toList∧∀pos:Pos,pos.line=l.line→pos.col=l.col→(codeAmong pos ps.toList=none∨∃c oc,codeAmong pos ps.toList=some (.ref c)∧H c oc∧LD oc l.qual)
 cut:=fun k ⟨ps,h1,h2,h3⟩=>⟨ps,h1,h2,fun pos a b=>(h3 pos a b).imp id fun⟨c,oc,g1,g2,g3⟩=>⟨c,oc,g1,k _ _ g2 (fun v q=>(let ⟨_,_,e,_⟩:=g3;by rw[e]at q;cases q)),g3⟩⟩
noncomputable def Hw:a6:=jv.map fun l=>(l.P,zc l)
noncomputable def cz(outer:List Env)(ae:a6):Prop:=(∀env∈outer,env.scope.kind≠.module∧∃L φ,env.frame=some L∧(L,φ)∈ae∧dj φ)∧∀p∈Hw,p∈ae
structure aJ(P:Pm)(base:Heap)(c:Cx)(H:HP)(ρ:List Addr)(σ:St)(ae:a6)(h:Heap):Prop where
 inv:∃m mc,a8 P base H ρ ((c.L,a7 m)::(aP c.cs mc++ae)) σ.ob.tr h∧jw P H ρ c σ.fm m mc
 len:ρ.length=σ.ob.nx
 outer:cz c.outer ae
 self:c.L0=c.L∨∃φ,(c.L0,φ)∈ae∧dj φ
structure aX(base:Heap)(H:HP)(ρ:List Addr)(s:Shared)(H':HP)(ρ':List Addr)(s':Shared):Prop where
 le:∀a o,H a o→H' a o
 new:∀a o,H' a o→H a o∨base.get? a=none
 grows:cF ρ ρ'
 gens:s'.gens=s.gens
 drawn:s'.drawn=s.drawn
 os:s'.os=s.os
theorem aX.refl{base:Heap}{H:HP}{ρ:List Addr}{s:Shared}:aX base H ρ s H ρ s:=⟨fun _ _ e=>e,fun _ _ e=>.inl e,.refl,rfl,rfl,rfl⟩
theorem aX.trans{base:Heap}{H H' H'':HP}{ρ ρ' ρ'':List Addr}{s s' s'':Shared}(x:aX base H ρ s H' ρ' s')(y:aX base H' ρ' s' H'' ρ'' s''):aX base H ρ s H'' ρ'' s'':=
 ⟨fun a o e=>y.le a o (x.le a o e),fun a o e=>(y.new a o e).elim (x.new a o) .inr,x.grows.trans y.grows,y.gens.trans x.gens,y.drawn.trans x.drawn,y.os.trans x.os⟩
theorem aX.toks{base:Heap}{H:HP}{ρ:List Addr}{s:Shared}{tk:Nat}:aX base H ρ s H ρ {s with toks:=tk}:=⟨fun _ _ e=>e,fun _ _ e=>.inl e,.refl,rfl,rfl,rfl⟩
theorem aX.heap{base:Heap}{H:HP}{ρ:List Addr}{s:Shared}{h:Heap}{tk:Nat}:aX base H ρ s H ρ {s with heap:=h,toks:=tk}:=⟨fun _ _ e=>e,fun _ _ e=>.inl e,.refl,rfl,rfl,rfl⟩
noncomputable def xU(base:Heap)(R:Addr→Prop)(l:List Env)(e:Addr)(h:Heap):Prop:=
  ∃ C a0,R C∧Heap.StaysIn base h∧base.get? e=none∧h.FunFrames base l∧
    ((∃oe vs,h.get? e=some oe∧oe.cls=.ref C∧oe.data=.fields vs∧vs[0]?=some a0∧vs[1]?=some .none)∨h.TracedW base e (.ref C) a0)
noncomputable def dz(base:Heap)(R:Addr→Prop)(l:List Env)(ae:a6)(H:HP)(e:Addr)(h:Heap):Prop:=
  ∃ B aB,base.StaysIn B∧(∀a o,H a o→aB a o)∧(∀a o,aB a o→H a o∨base.get? a=none)∧(∀a o,aB a o→B.get? a=some o)∧
    (∀p∈ae,((∃o,B.get? p.1=some o∧p.2.φ aB o)∨dj p.2∧∃o,h.get? p.1=some o∧p.2.φ aB o)∧∀o,¬aB p.1 o)∧xU B R l e h
theorem dz.sub{base:Heap}{R:Addr→Prop}{l:List Env}{ae frs':a6}{H:HP}{e:Addr}{h:Heap}(k:∀p∈ae,p∈frs')(t:dz base R l frs' H e h):dz base R l ae H e h:=by obtain⟨B,aB,a,b,c,d,f,t⟩:=t;exact⟨B,aB,a,b,c,d,fun p hp=>f p (k p hp),t⟩
noncomputable abbrev pm(w:World)(T:Nat→V):Pm:=⟨w.params,T⟩
noncomputable def fV(base:Heap)(R:Addr→Prop)(c:Cx)(ae:a6)(H:HP)(s:Shared)(EE:Value→Shared→Prop):Prop:=
 ∀e s',s'.gens=s.gens→s'.drawn=s.drawn→s'.os=s.os→dz base R (c.fenv::c.outer) ae H e s'.heap→EE (.ref e) s'
theorem dz.back{base:Heap}{R:Addr→Prop}{l:List Env}{ae:a6}{H H':HP}{ρ ρ':List Addr}{s s':Shared}{e:Addr}{h:Heap}(t:dz base R l ae H' e h)(x:aX base H ρ s H' ρ' s'):dz base R l ae H e h:=by
 refine MZ t fun B aB t1 t2 t3 t4=>?_
 exact⟨B,aB,t1,fun a o e=>t2 a o (x.le a o e),fun a o e=>(t3 a o e).elim (x.new a o) .inr,t4⟩
theorem fV.later{base:Heap}{R:Addr→Prop}{c:Cx}{ae:a6}{s s':Shared}{EE:Value→Shared→Prop}{H H':HP}{ρ ρ':List Addr}(x:fV base R c ae H s EE)(l:aX base H ρ s H' ρ' s'):fV base R c ae H' s' EE:=
 fun e s'' a b d t=>x e s'' (a.trans l.gens) (b.trans l.drawn) (d.trans l.os) (t.back l)
theorem fV.sub{base:Heap}{R:Addr→Prop}{c:Cx}{ae frs':a6}{H:HP}{s:Shared}{EE:Value→Shared→Prop}(x:fV base R c ae H s EE)(k:∀p∈ae,p∈frs'):fV base R c frs' H s EE:=
 fun e s'' a b d t=>x e s'' a b d (t.sub k)
structure f5(prog:Program)(w:World)(base:Heap)(R:Addr→Prop)(c:Cx)(ae:a6)(H:HP)(s:Shared)(EE:Value→Shared→Prop):Prop where
 takes:fV base R c ae H s EE
 passes:PassesOwn (model prog w) c.A c.env EE
theorem f5.later{prog:Program}{w:World}{base:Heap}{R:Addr→Prop}{c:Cx}{ae:a6}{s s':Shared}{EE:Value→Shared→Prop}{H H':HP}{ρ ρ':List Addr}(x:f5 prog w base R c ae H s EE)(l:aX base H ρ s H' ρ' s'):f5 prog w base R c ae H' s' EE:=
 ⟨x.takes.later l,x.passes⟩
theorem f5.sub{prog:Program}{w:World}{base:Heap}{R:Addr→Prop}{c:Cx}{ae frs':a6}{s:Shared}{EE:Value→Shared→Prop}{H:HP}(x:f5 prog w base R c ae H s EE)(k:∀p∈ae,p∈frs'):f5 prog w base R c frs' H s EE:=
 ⟨x.takes.sub k,x.passes⟩
theorem f5.more{prog:Program}{w:World}{base:Heap}{R:Addr→Prop}{c:Cx}{ae:a6}{s:Shared}{EE:Value→Shared→Prop}{H:HP}{p:Addr×Fp}(x:f5 prog w base R c ae H s EE):f5 prog w base R c (p::ae) H s EE:=x.sub fun _ h=>.tail _ h
inductive qz(P:Pm)(H:HP)(ρ:List Addr):Fl→Flow→Prop
 |next:qz P H ρ .next .next
 |brk:qz P H ρ .brk .brk
 |cont:qz P H ρ .cont .cont
 |ret {v r}:aj P H ρ v r→qz P H ρ (.ret v) (.ret r)
noncomputable def kE(Q:Value→Shared→Prop)(EE:Value→Shared→Prop):Result→Shared→Prop:=fun r s'=>match r with
 |.ok (.ret v)=>Q v s'
 |.ok _=>False
 |.error e=>EE e s'
noncomputable def dM(prog:Program)(w:World)(T:Nat→V)(base:Heap)(a:Addr)(m:Nat)(S:bM):Prop:=
  ∀ (B:Heap) (cx:Cx) (R:Addr→Prop) as bU KV H ae s Q' EE,(∀b o,base.get? b=some o→B.get? b=some o)→cx.Ok m→S as KV R→a8 (pm w T) B H [] ae .nil s.heap→cz (cx.fenv::cx.outer) ae→fV B R cx ae H s EE→ak (pm w T) H [] as bU→
    (∀v r ob' H' ρ' s',a8 (pm w T) B H' ρ' ae ob' s'.heap→aX B H [] s H' ρ' s'→aj (pm w T) H' [] v r→KV v→Q' r s')→codeAny (model prog w) cx.A (.call (.ref a) ⟨bU,[]⟩) (kE Q' EE) s
noncomputable def yg(prog:Program)(w:World)(T:Nat→V)(base:Heap)(n:Nat)(a:Addr)(as:List V)(ob:bb)(Q:V→bb→Prop):Prop:=∃m Sp p,m≤n∧dM prog w T base a m Sp∧fB (freeze 12) ob as=some p∧bH (pS 14) p.1=true∧Sp p.1 (fun v=>Q v p.2) (fun C=>bP (Nat.beq C 83) (Q .none p.2))
section
variable (prog:Program)(w:World)(T:Nat→V)(base:Heap)(R:Addr→Prop)
noncomputable abbrev dN(c:Cx)(ae:a6)(H:HP)(ρ:List Addr)(s:Shared)(Q:V→St→Prop)(Q':Value→Shared→Prop):Prop:=
 ∀v r σ' H' ρ' s',aJ (pm w T) base c H' ρ' σ' ae s'.heap→aX base H ρ s H' ρ' s'→aj (pm w T) H' ρ' v r→Q v σ'→Q' r s'
noncomputable abbrev Lq(c:Cx)(ae:a6)(H:HP)(ρ:List Addr)(s:Shared)(Q:List V→St→Prop)(Q':List Value→Shared→Prop):Prop:=
 ∀v r σ' H' ρ' s',aJ (pm w T) base c H' ρ' σ' ae s'.heap→aX base H ρ s H' ρ' s'→ak (pm w T) H' ρ' v r→Q v σ'→Q' r s'
noncomputable abbrev FE(c:Cx)(ae:a6)(H:HP)(ρ:List Addr)(s:Shared)(Q:Bool→St→Prop)(Q':Bool→Shared→Prop):Prop:=
 ∀b σ' H' ρ' s',aJ (pm w T) base c H' ρ' σ' ae s'.heap→aX base H ρ s H' ρ' s'→Q b σ'→Q' b s'
noncomputable abbrev j3(c:Cx)(ae:a6)(H:HP)(ρ:List Addr)(s:Shared)(Q:Fl→St→Prop)(Q':Flow→Shared→Prop):Prop:=
 ∀f r σ' H' ρ' s',aJ (pm w T) base c H' ρ' σ' ae s'.heap→aX base H ρ s H' ρ' s'→qz (pm w T) H' ρ' f r→Q f σ'→Q' r s'
structure dX(E:Ev)(n:Nat):Prop where
 ex:∀(c:Cx) e σ Q,c.Ok n→(E.ex e c.sc).run σ Q→∀H ρ ae s Q' EE,aJ (pm w T) base c H ρ σ ae s.heap→f5 prog w base R c ae H s EE→dN w T base c ae H ρ s Q Q'→wpAny (model prog w) c.A (eval e c.env) Q' EE s
 ex0:∀(c:Cx) e σ Q,c.Ok n→(E.ex0 e c.sc).run σ Q→∀H ρ ae s Q' EE,aJ (pm w T) base c H ρ σ ae s.heap→dN w T base c ae H ρ s Q Q'→wpAny (model prog w) c.A (eval e c.env) Q' EE s
 tr:∀(c:Cx) e σ Q,c.Ok n→(E.tr e c.sc).run σ Q→∀whole H ρ ae s Q' EE,(whole=eval e c.env∨∃op l p,e=.BoolOp op l p)→aJ (pm w T) base c H ρ σ ae s.heap→f5 prog w base R c ae H s EE→FE w T base c ae H ρ s Q Q'→
  wpAny (model prog w) c.A (PySem.isTrue e c.env whole) Q' EE s
 es:∀(c:Cx) l σ Q,c.Ok n→(E.es l c.sc).run σ Q→∀pos H ρ ae s Q' EE,aJ (pm w T) base c H ρ σ ae s.heap→f5 prog w base R c ae H s EE→Lq w T base c ae H ρ s Q Q'→
  wpAny (model prog w) c.A (spliced (backTo pos (starEach l c.env))) Q' EE s
 ss:∀(c:Cx) l σ Q,c.Ok n→(E.ss l c.sc).run σ Q→∀H ρ ae s Q' EE,aJ (pm w T) base c H ρ σ ae s.heap→f5 prog w base R c ae H s EE→j3 w T base c ae H ρ s Q Q'→wpAny (model prog w) c.A (execs l c.env) Q' EE s
 call:∀(c:Cx) f as fm ob Q,c.Ok n→E.call f as ob Q→∀H ρ ae s Q' EE rf bU,aJ (pm w T) base c H ρ ⟨fm,ob⟩ ae s.heap→fV base R c ae H s EE→aj (pm w T) H ρ f rf→ak (pm w T) H ρ as bU→
  dN w T base c ae H ρ s (fun v σ=>Q v σ.ob∧σ.fm=fm) Q'→wpAny (model prog w) c.A (PySem.call rf bU) Q' EE s
 code:∀(c:Cx) a as fm ob Q,c.Ok n→E.call (.glob a) as ob Q→∀H ρ ae s Q' EE bU,aJ (pm w T) base c H ρ ⟨fm,ob⟩ ae s.heap→fV base R c ae H s EE→ak (pm w T) H ρ as bU→
  dN w T base c ae H ρ s (fun v σ=>Q v σ.ob∧σ.fm=fm) Q'→codeAny (model prog w) c.A (.call (.ref a) ⟨bU,[]⟩) (kE Q' EE) s
 heard:∀a as ob Q,E.heard a as ob Q→yg prog w T base n a as ob Q
end
end
section
inductive gw(P:Pm)(H:HP)(ρ:List Addr):List (Str×V)→List (Str×Value)→Prop
 |nil:gw P H ρ [] []
 |cons {x v r fm bs}:aj P H ρ v r→gw P H ρ fm bs→gw P H ρ ((x,v)::fm) ((x,r)::bs)
theorem gw.names{P:Pm}{H:HP}{ρ:List Addr}{fm:List (Str×V)}{bs:List (Str×Value)}(h:gw P H ρ fm bs):fm.map (·.1)=bs.map (·.1):=by
 induction h with
 |nil=>rfl
 |cons _ _ ih=>rw[List.map_cons,List.map_cons,ih]
theorem gw.look{P:Pm}{H:HP}{ρ:List Addr}{x:Str}{v:V}{fm:List (Str×V)}{bs:List (Str×Value)}(h:gw P H ρ fm bs):fm.lookup x=some v→∃r,bs.lookup x=some r∧aj P H ρ v r:=by
  induction h with
  |nil=>intro e;cases e
  | @cons y _ r _ _ a _ ih=>
    rw[List.lookup_cons,List.lookup_cons]
    cases x==y with
    |true=>exact fun e=>⟨r,rfl,af e▸a⟩
    |false=>exact ih
theorem cj{α β:Type}[BEq α][LawfulBEq α]{x:α}{v:β}{l:List (α×β)}:l.lookup x=some v→(x,v)∈l:=by
  induction l with
  |nil=>intro e;cases e
  | cons p l ih=>
    show(match x==p.1 with|true=>some p.2|false=>l.lookup x)=some v→_
    cases h:x==p.1 with
    |true=>exact fun e=>List.mem_cons.mpr (.inl (by rw[eq_of_beq h,←af e]))
    |false=>exact fun e=>.tail _ (ih e)
structure R3 where
 name:Str
 qual:Str
 params:Arguments
 doc:Value
 pm:Value
 an:Option Addr
 dV:Value
 kV:Value
 cdv:Value
 ct:Value
 oc:Value
 od:Option Addr
 osl:Array (Option Value)
noncomputable abbrev R3.fn(Z:R3)(i:ag):FuncData:=fnX Z.name Z.qual Z.params i.body i.sc [] Z.dV Z.kV Z.doc Z.pm Z.an Z.cdv Z.ct
structure AD(K:Frag)(a:Addr)(i:ag):Prop where
 obj:∃Z:R3,K.lookup a=some ⟨Z.oc,Z.od,.func (Z.fn i),Z.osl⟩∧codeIn K Z.cdv Z.qual=true∧
  (∀s as bU fm P H ρ,K.In s.heap→jE i.ps as i.ds=some fm→ak P H ρ as bU→∃bs,BindsTo s (Z.fn i) ⟨bU,[]⟩ bs∧gw P H ρ fm bs)∧
  ∀l∈jv,i.sc.names.lookup l.key=some .cell→Z.cdv=.ref l.code∧Z.qual=l.fn
 apart:((cellsFrom 0 i.sc.names []).map (·.1)).Nodup
 co:i.sc.isCoroutine=false
 gen:i.sc.isGenerator=false
 kind:i.sc.kind=.function
 locs:∀x∈i.ps,(i.sc.names.lookup x=some .local∨(i.sc.names.lookup x=some .cell∧∀n,((cellsFrom n i.sc.names []).lookup x).isSome=true))∧(x==("__debug__":Str))=false
 nodup:i.ps.Nodup
theorem ml(ps:List Str):∀{as ds:List V} {fm:List (Str×V)},jE ps as ds=some fm→fm.map (·.1)=ps:=by
  induction ps with
  |nil=>exact fun e=>cH e fun _ e=>af e▸rfl
  | cons x xs ih=>
    intro as ds fm e
    cases as with
    |nil=>exact aA (o:=RK _) e fun d _ e=>cH e fun _ e=>aA e fun r er e=>by rw[←af e,List.map_cons,ih er]
    |cons v vs=>exact aA (o:=jE xs vs ds) e fun r er e=>by rw[←af e,List.map_cons,ih er]
structure FO(K:Frag)(C:Addr)(name:Str):Prop where
 get:plainGet K C name=true
 dict:hasDictIn K C=true
 attr:∃a,findIn K (.ref C) name=some a∧noGet K a=true
 set:findIn K (.ref C) "__setattr__"=some (some (.builtin "object.__setattr__"))
 over:plainOver K C=true
 taker:takerIn K C name=some none
structure w9(K:Frag)(C:Addr)(name:Str)(f:Addr):Prop where
 get:plainGet K C name=true
 attr:findIn K (.ref C) name=some (some (.ref f))
 fn:typeIn K (.ref f)=some (.type "function")
structure wX(K:Frag)(C:Addr)(name:Str)(f:Addr):Prop where
 get:specialIn K (.ref C) "__getattribute__"=some (some (.builtin "type.__getattribute__"))
 attr:∃mc,readsIn K C mc=true∧findCls K (.ref C) mc name=some (.val (.ref f))
structure vt(K:Frag)(C:Addr)(f:Addr):Prop where
 makes:makesIn K C=true
 init:findIn K (.ref C) "__init__"=some (some (.ref f))
 fn:typeIn K (.ref f)=some (.type "function")
noncomputable abbrev fh(C t d:Addr):Obj:={cls:=.ref C,dict:=some d,data:=.fields #[.ref t,.none,.none,.none,.bool false,.none]}
structure RS where
 nm:Str
 q:Str
 N:Addr
 bs:List Value
 bm:List Value
 hdct:Bool
 sn:List Str
 sub:List Value
 ab:Bool
 col:Option Bool
 dd:Option Addr
 k0:Option Value
 k1:Option Value
 k2:Option Value
 k3:Option Value
 k5:Option Value
 newId:String
noncomputable abbrev RS.obj(P:RS)(C:Addr):Obj:=excClassObj P.nm P.q C P.N P.bs P.bm P.hdct P.sn P.sub P.ab P.col P.dd P.k0 P.k1 P.k2 P.k3 P.k5 P.newId
structure Ed(prog:Program)(w:World)(base:Heap)(K:Frag)(C:Addr):Prop where
 cls:∃P:RS,base.get? C=some (P.obj C)∧P.bm.contains (.type "BaseException")=true
 keep:keepIn K (.ref C)=true
 make:∀(A:Around) (l:List Env) (x:Str) (t:Tok) (s:Shared) (Q:Value→Shared→Prop) (EE:Value→Shared→Prop),(∀b o,base.get? b=some o→s.heap.get? b=some o)→A.frames=some l→A.handled=none→A.depth+8 < recursionLimit→A.units+128 < cLine→PyData.strOk x=true→
  (∀e t' d h' tk,h'.get? e=some (fh C t' d)→s.heap.get? e=none→(∀b o,s.heap.get? b=some o→h'.get? b=some o)→Q (.ref e) {s with heap:=h',toks:=tk})→wpAny (model prog w) A (call (.ref C) [.str x t]) Q EE s
theorem Ed.mono{prog:Program}{w:World}{base B:Heap}{K:Frag}{C:Addr}(k:∀b o,base.get? b=some o→B.get? b=some o)(x:Ed prog w base K C):Ed prog w B K C:=
 ⟨by
  refine av x.cls fun P e r=>?_
  exact⟨P,k _ _ e,r⟩,x.keep,fun A l y t s Q EE k'=>x.make A l y t s Q EE fun b o e=>k' b o (k b o e)⟩
structure QO(T:Nat→V)(c:df)(k:Nat)(C:Addr):Prop where
 inst:∃fs,T k=.inst C fs∧∀name f,c.CM C name=some (.fn f)→lk name fs=none
theorem dM.mono{prog:Program}{w:World}{T:Nat→V}{base B:Heap}{a:Addr}{m:Nat}{S:bM}(k:∀b o,base.get? b=some o→B.get? b=some o)(x:dM prog w T base a m S):dM prog w T B a m S:=
 fun B' cx R as bU KV H ae s Q' EE k'=>x B' cx R as bU KV H ae s Q' EE fun b o e=>k' b o (k b o e)
structure yx(i:ag):Prop where
 ps:i.ps=[("ask":Str)]
 ds:i.ds=[]
 body:∃p1 p2 p3 p4 k p5 p6 p7 p8,i.body=[.Try [.Return (some (.Call (.Name "ask" p1) [] [] p2)) p3] [.ExceptHandler (some (.Name "DecodeError" p4)) none [.Return (some (.Constant .none k p5)) p6] p7] [] [] p8]
 exc:i.sc.names.lookup ("DecodeError":Str)=some .globalImplicit
 ask:i.sc.names.lookup ("ask":Str)=some .local
structure aY(prog:Program)(w:World)(T:Nat→V)(c:df)(K:Frag)(base:Heap):Prop where
 kin:K.In base
 g:∃mg mb,base.Ns mainGlobals mg∧base.Ns builtinsNs mb∧∀x v,c.G x=some v→∃r,(∀P H ρ,aj P H ρ v r)∧(mg x=some r∨(mg x=none∧mb x=some r))
 nolimit:base.NoLimit
 fi:∀a i,c.FI a=some i→AD K a i
 keep:∀a,(c.FI a).isSome=true∨(c.C a).isSome=true∨(c.CI a).isSome=true→keepIn K (.ref a)=true
 cm:∀C name x,c.CM C name=some x→match x with|.own=>FO K C name|.fn f=>w9 K C name f
 cs:∀C name f,c.CS C name=some f→wX K C name f
 ci:∀C f,c.CI C=some f→vt K C f
 named:∀k H ρ r,aj (pm w T) H ρ (T k) r→aj (pm w T) H [] (T k) r
 spec:∀a m S,c.C a=some (m,S)→dM prog w T base a m S
 xc:∀x C,c.X x=some C→Ed prog w base K C
 nm:∀k C,c.NM k=some C→QO T c k C
 low:∃o,base.get? sysModules=some o
 lamP:∀l∈jv,CodeHd base l.code l.P
 bm:∃mg bm ob,base.Ns mainGlobals mg∧mg "__builtins__"=some (.ref bm)∧bm≠builtinsNs∧base.get? bm=some ob∧ob.cls=.type "module"∧ob.dict=some builtinsNs∧ob.data=.plain
 heard:∃i,c.FI 1183=some i∧yx i
 exc:c.X "DecodeError"=some 83∧c.G "DecodeError"=some (.glob 83)
theorem aY.mono{prog:Program}{w:World}{T:Nat→V}{c:df}{K:Frag}{base B:Heap}(k:∀b o,base.get? b=some o→B.get? b=some o)(x:aY prog w T c K base):aY prog w T c K B:=
 ⟨fun a o e=>k _ _ (x.kin a o e),let ⟨mg,mb,h1,h2,h3⟩:=x.g;⟨mg,mb,h1.keeps k,h2.keeps k,h3⟩,x.nolimit.keeps k,x.fi,x.keep,x.cm,x.cs,x.ci,x.named,fun a m S e=>(x.spec a m S e).mono k,fun x' C e=>(x.xc x' C e).mono k,x.nm,(let ⟨o,e⟩:=x.low;⟨o,k _ _ e⟩),fun l hl=>(x.lamP l hl).keeps k,(let ⟨mg,bm,ob,h1,h2,h3,h4,h5⟩:=x.bm;⟨mg,bm,ob,h1.keeps k,h2,h3,k _ _ h4,h5⟩),x.heard,x.exc⟩
section
variable {prog:Program}{w:World}{T:Nat→V}{base:Heap}{c:df}{K:Frag}{E:Ev}{n:Nat}
theorem aJ.ns{P:Pm}{cx:Cx}{H:HP}{ρ:List Addr}{σ:St}{ae:a6}{h:Heap}(N:aJ P base cx H ρ σ ae h):∃m mc,a8 P base H ρ ((cx.L,a7 m)::(aP cx.cs mc++ae)) σ.ob.tr h∧jw P H ρ cx σ.fm m mc∧h.Ns cx.L m:=
 let ⟨m,mc,I,F⟩:=N.inv;⟨m,mc,I,F,dq.mp (I.frNs _ (.head _))⟩
theorem aJ.keep{P:Pm}{cx:Cx}{H:HP}{ρ:List Addr}{σ:St}{ae:a6}{h:Heap}(N:aJ P base cx H ρ σ ae h):∀b o,base.get? b=some o→h.get? b=some o:=
 let ⟨_,_,I,_⟩:=N.inv;I.keep
theorem aJ.heap{P:Pm}{cx:Cx}{H:HP}{ρ:List Addr}{σ:St}{ae:a6}{h h':Heap}(N:aJ P base cx H ρ σ ae h)(k:∀b o,h.get? b=some o→h'.get? b=some o):aJ P base cx H ρ σ ae h':=
 ⟨let ⟨m,mc,I,F⟩:=N.inv;⟨m,mc,I.keeps k,F⟩,N.len,N.outer,N.self⟩
theorem aJ.push{P:Pm}{cx:Cx}{H:HP}{ρ:List Addr}{σ:St}{ae:a6}{h:Heap}(N:aJ P base cx H ρ σ ae h)(o:Obj)(hf:o.isFreed=false:=by rfl):aJ P base cx (H.and h.objs.size o) ρ σ ae (h.push o):=
 ⟨let ⟨m,mc,I,F⟩:=N.inv;⟨m,mc,I.push o hf,F.mono HP.le .refl⟩,N.len,N.outer,N.self⟩
theorem aJ.later{P:Pm}{cx:Cx}{H:HP}{ρ:List Addr}{σ:St}{ae:a6}{s:Shared}(N:aJ P base cx H ρ σ ae s.heap)(o:Obj){tk:Nat}:aX base H ρ s (H.and s.heap.objs.size o) ρ {s with heap:=s.heap.push o,toks:=tk}:=
 ⟨HP.le,fun a y e=>e.elim .inl fun⟨e,_⟩=>.inr (e▸(let ⟨_,_,I,_⟩:=N.inv;I.topNew)),.refl,rfl,rfl,rfl⟩
theorem R6{x:Str}(h:c5 (aS x "__debug__")=true):(x==("__debug__":Str))=false:=by rw[←dw];exact cX h
theorem n5{sc:Scope}{x:Str}(h:cg sc x=true):(sc.names.lookup x=some .local∨sc.names.lookup x=some .cell)∧(x==("__debug__":Str))=false:=by
 refine kF h fun k e h=>?_
 rw[fM]at e
 cases k with
 |«local»=>exact⟨.inl e,R6 h⟩
 |cell=>exact⟨.inr e,R6 h⟩
 |_=>cases h
theorem ix{k:Option NameKind}(h:nZ k=true):k=some .local:=by
 refine kF h fun k e h=>?_
 cases k with
 |«local»=>exact e
 |_=>cases h
theorem iw{k:Option NameKind}(h:lj k=true):k=some .cell:=by
 refine kF h fun k e h=>?_
 cases k with
 |cell=>exact e
 |_=>cases h
theorem nW{k:Option NameKind}(h:j6 k=true):k=some .free:=by
 refine kF h fun k e h=>?_
 cases k with
 |free=>exact e
 |_=>cases h
theorem ER{sc:Scope}{x:Str}(h:jD sc x=true):sc.names.lookup x=some .local∧(x==("__debug__":Str))=false:=by
 refine bC (fw h) fun a b=>?_
 exact⟨by rw[←fM];exact ix a,R6 b⟩
theorem iS{sc:Scope}{x:Str}(h:dn sc x=true):sc.names.lookup x=some .globalImplicit∧(x==("__debug__":Str))=false:=by
 refine kF h fun k e h=>?_
 rw[fM]at e
 cases k with
 |globalImplicit=>exact⟨e,R6 h⟩
 |_=>cases h
theorem BK{P:Pm}{H:HP}{ρ:List Addr}{v:V}{r:Value}{p:Bool×Bool}{A:Around}{s:Shared}{Q:Bool→Shared→Prop}{EE:Value→Shared→Prop}
  (h:xq v=some p) (hv:aj P H ρ v r) (q:Q p.2 s):wpAny (model prog w) A (truthy r) Q EE s:=by
 cases v with
 |none=>rw[←af h]at q;exact hv.none' fun e=>by rw[e];with_reducible exact truthy_none q
 |bool k b=>rw[←af h]at q;exact hv.bool' fun e=>by rw[e];with_reducible exact wpAny_truthy_bool q
 |int k x=>rw[←af h]at q;exact hv.int' fun t e=>by rw[e];with_reducible exact truthy_int q
 |_=>cases h
theorem FK{P:Pm}{H:HP}{ρ:List Addr}{v:V}{r:Value}{p:Bool×Bool}(h:xq v=some p)(hv:aj P H ρ v r):aj P H ρ (s9 v p.2) r:=by
 cases v with
 |bool k b=>rw[←af h];exact hv.bool' fun e=>e▸.bool
 |_=>exact hv
theorem jj{cx:Cx}{H:HP}{ρ:List Addr}{ae:a6}{s:Shared}{σ:St}{v:V}{r:Value}{Kq:Bool→St→Prop}{Q:Bool→Shared→Prop}{EE:Value→Shared→Prop}(N:aJ (pm w T) base cx H ρ σ ae s.heap)(hv:aj (pm w T) H ρ v r)
  (h:dQ v σ Kq) (a:∀b,(aj (pm w T) H ρ (s9 v b) r)→Kq b σ→Q b s):wpAny (model prog w) cx.A (truthy r) Q EE s:=
 aM h fun p e h=>BK e hv (a p.2 (FK e hv) (by have h:=pV h;cases q:p.2 <;> (rw[q]at h;exact h)))
theorem eZ{cx:Cx}{H:HP}{ρ:List Addr}{ae:a6}{s:Shared}{σ:St}{v:V}{r:Value}{Kq:Bool→St→Prop}{Q:Bool→Shared→Prop}{EE:Value→Shared→Prop}(N:aJ (pm w T) base cx H ρ σ ae s.heap)(hv:aj (pm w T) H ρ v r)
  (h:dQ v σ Kq) (a:FE w T base cx ae H ρ s Kq Q):wpAny (model prog w) cx.A (truthy r) Q EE s:=jj N hv h fun b _ h=>a b σ H ρ s N .refl h
theorem d7(e:Expr)(env:Env)(l:List Expr)(h:i7 e=false):starEach (e::l) env=(false,eval e env)::starEach l env:=
 Ut (b:=i7 e) (by cases e <;> first|rfl|trivial) h
theorem a9{P:Pm}{H:HP}{ρ:List Addr}{vs:List V}{rs:List Value}(h:ak P H ρ vs rs):vs.length=rs.length:=
 ak.ind (M:=fun vs rs=>vs.length=rs.length) rfl (fun _ _ _ _ _ _ ih=>congrArg (·+1) ih) h
theorem vH{cx:Cx}{H:HP}{ρ:List Addr}{ae:a6}{s:Shared}{σ:St}{x:O}{o:Obj}{Q:V→St→Prop}(N:aJ (pm w T) base cx H ρ σ ae s.heap)
  (hx:dJ (pm w T) H (ρ++[s.heap.objs.size]) (s.heap.push o) s.heap.objs.size x) (h:bS σ.ob x fun v ob'=>Q v ⟨σ.fm,ob'⟩) (hf:o.isFreed=false:=by rfl) :
  ∃v σ',aJ (pm w T) base cx H (ρ++[s.heap.objs.size]) σ' ae (s.heap.push o)∧aj (pm w T) H (ρ++[s.heap.objs.size]) v (.ref s.heap.objs.size)∧Q v σ':=by
 refine aM h fun y e h=>?_
 refine bq N.inv fun m mc I F=>?_
 refine⟨_,⟨σ.fm,⟨σ.ob.tr.ins σ.ob.nx x,σ.ob.nx+1⟩⟩,⟨⟨m,mc,I.alloc ?_ hx hf,F.mono (fun _ _ e=>e) .more⟩,by rw[List.length_append,←N.len];rfl,N.outer,N.self⟩,.ref ?_,h⟩
 ·rw[N.len]
  exact Tr.get_ins x σ.ob.tr σ.ob.nx (by rw[e];rfl)
 ·rw[←N.len];exact List.getElem?_concat_length
theorem gN{cx:Cx}{H:HP}{ρ:List Addr}{ae:a6}{s:Shared}{σ:St}{vs:List V}{rs:List Value}{Q:V→St→Prop}(N:aJ (pm w T) base cx H ρ σ ae s.heap)(hv:ak (pm w T) H ρ vs rs)
  (h:bS σ.ob (.list vs) fun v ob'=>Q v ⟨σ.fm,ob'⟩) :
  ∃v σ' H' ρ',aJ (pm w T) base cx H' ρ' σ' ae (s.heap.push (aN rs 0))∧aX base H ρ s H' ρ' {s with heap:=s.heap.push (aN rs 0)}∧aj (pm w T) H' ρ' v (.ref s.heap.objs.size)∧Q v σ':=by
 refine dT (vH N (o:=aN rs 0) (.list (Heap.get?_push_size _ rfl) (hv.mono (fun _ _ e=>e) .more)) h) fun v σ' N' R' h'=>?_
 exact⟨v,σ',H,_,N',⟨fun _ _ e=>e,fun _ _ e=>.inl e,.more,rfl,rfl,rfl⟩,R',h'⟩
theorem eV{e:Expr}(h:d4 e=true):i7 e=false:=cX h
theorem jl{pos:Pos}{env:Env}{as:List Expr}(h:bH d4 as=true):(backTo pos (starEach as env)).any (·.1)=false:=by
  induction as with
  |nil=>rfl
  | cons e r ih=>
    refine bC (bF h) fun h1 h2=>?_
    rw[d7 e env r (eV h1)]
    exact ih h2
noncomputable def Dy(K:Frag)(r:Value):Prop:=keepIn K r=true∨(∃s,r=.builtin s)∨∃s,r=.type s
theorem gE{M:Model}{r:Value}(k:Dy K r):∀h,K.In h→∃k,(k=Keeper.frame∨k=Keeper.machine∨k=Keeper.boundFrame)∧Looks M h (keeperOf r) k:=by
 rcases k with k|⟨s,rfl⟩|⟨s,rfl⟩
 ·exact keeps_K k
 ·exact fun h _=>⟨.machine,.inr (.inl rfl),Looks.of_pure rfl⟩
 ·exact fun h _=>⟨.machine,.inr (.inl rfl),Looks.of_pure rfl⟩
theorem DS(G:aY prog w T c K base){P:Pm}{H:HP}{ρ:List Addr}{g:V}{r:Value}(h:uv c g=true)(hv:aj P H ρ g r):Dy K r:=by
  cases g with
  | glob a=>
    refine hv.glob' fun e=>e▸.inl (G.keep _ ?_)
    exact dD h (fun _ e _=>.inl (by rw[e];rfl)) fun _ h=>dD h (fun _ e _=>.inr (.inl (by rw[e];rfl))) fun _ h=>dD h (fun _ e _=>.inr (.inr (by rw[e];rfl))) fun _ h=>Bool.noConfusion h
  |blt s=>exact hv.blt' fun e=>.inr (.inl ⟨_,e⟩)
  |typ s=>exact hv.typ' fun e=>.inr (.inr ⟨_,e⟩)
  |_=>cases h
theorem i4{P:Pm}{H:HP}{ρ:List Addr}{vs ws:List V}{rs ts:List Value}(a:ak P H ρ vs rs)(b:ak P H ρ ws ts):ak P H ρ (vs++ws) (rs++ts):=
 ak.ind (M:=fun vs rs=>ak P H ρ (vs++ws) (rs++ts)) b (fun _ _ _ _ x _ ih=>.cons x ih) a
theorem rr{α:Type}(l r:List α):bJ l r=l++r:=by
 induction l with
 |nil=>rfl
 |cons x l ih=>exact congrArg (x::·) ih
theorem lU(G:aY prog w T c K base)(S:dX prog w T base c.R E n){cx:Cx}{p:Pos}{as:List Expr}{σ:St}{Q:V→St→Prop}{H:HP}{ρ:List Addr}{ae:a6}{s:Shared}{Q':Value→Shared→Prop}{EE:Value→Shared→Prop}(O:cx.Ok n)
    {g:V} {first:List V} {rg:Value} {rfirst:List Value} (ha:bH d4 as=true) (hv:aj (pm w T) H ρ g rg) (hf:ak (pm w T) H ρ first rfirst)
    (h:rB c E g first (jh E as cx.sc) σ Q)
    (N:aJ (pm w T) base cx H ρ σ ae s.heap) (X:f5 prog w base c.R cx ae H s EE) (a:dN w T base cx ae H ρ s Q Q'):wpAny (model prog w) cx.A (callWith p rg rfirst (backTo p (starEach as cx.env)) []) Q' EE s:=by
  refine bD h fun hg h=>?_
  refine callWith_of (P:=K.In) (by rw[jl ha];rfl) (gE (DS G hg hv)) ?_
  have main:∀vs rs aw aT bt s₂,aJ (pm w T) base cx aT bt aw ae s₂.heap→aX base H ρ s aT bt s₂→ak (pm w T) aT bt vs rs→(E.call g (bJ first vs) aw.ob fun r ob=>Q r ⟨aw.fm,ob⟩)→
      K.In s₂.heap∧wpAny (model prog w) cx.A (call rg (rfirst++rs) []) Q' EE s₂:=fun vs rs aw aT bt s₂ aI aG bu aK=>by
    refine⟨G.kin.keeps aI.keep,?_⟩
    refine S.call cx _ _ aw.fm _ _ O aK _ _ ae _ Q' EE _ _ aI (X.later aG).takes (hv.mono aG.le aG.grows) (by rw[rr];exact i4 (hf.mono aG.le aG.grows) bu) fun v r bK f9 c0 s₃ bZ cw fk bf=>?_
    refine bC bf fun bf e=>?_
    exact a _ _ bK _ _ _ bZ (aG.trans cw) fk (by rw[←e]at bf;exact bf)
  cases as with
  |nil=>exact evalArgs_nil3 (main [] [] σ H ρ s N .refl .nil h)
  | cons e r=>
    have q:=S.es cx (e::r) σ _ O h p H ρ ae s (fun rs s₂=>K.In s₂.heap∧wpAny (model prog w) cx.A (call rg (rfirst++rs) []) Q' EE s₂) EE N X main
    rw[d7 e cx.env r (eV (bF ha).1)]at q ⊢
    exact evalArgs_plain q
theorem lC{h:Heap}{L:Addr}{m m':cq}(x:h.Ns L m)(y:h.Ns L m'):m=m':=by
 refine pN x fun o es ep h1 h2 _ h3=>?_
 refine pN y fun o' es' ep' g1 g2 _ g3=>?_
 rw[h1]at g1
 cases g1
 rw[h2]at g2
 cases g2
 funext z
 rw[←h3,←g3]
theorem iW{G:Prop}{P:Pm}{h:Heap}{ae:a6}{H:HP}{ρ:List Addr}{ob:Tr}{v:V}{r:Value}{p:Bool×List V}(I:a8 P base H ρ ae ob h)(hv:aj P H ρ v r)(e:kq ob v=some p)
  (g:∀a rs k,r=.ref a→h.get? a=some ⟨.type (if p.1 then "tuple" else "list"),none,.seq rs.toArray k,#[]⟩→ak P H ρ p.2 rs→G):G:=by
 refine dD e (fun vs e1 e=>hv.cT e1 fun _ _ a b er=>?_) fun _ e=>dD e (fun vs e1 e=>hv.cL e1 fun _ _ _ a b er=>?_) fun _ e=>aA e fun i ei e=>hv.cR ei fun ad ha er=>dD e (fun vs eo e=>(I.at (jq eo) ha).list' fun _ _ a b=>?_)
  fun _ e=>aA e fun u eo e=>aA e fun vs ev e=>(I.at (Cj eo) ha).frz' fun a=>a.cL ev fun _ _ _ a b ea=>?_
 all_goals rw[←af e]at g
 ·exact g _ _ _ er (I.frz _ _ a) b
 ·exact g _ _ _ er (I.frz _ _ a) b
 ·exact g _ _ _ er a b
 ·cases ea;exact g _ _ _ er (I.frz _ _ a) b
theorem Fc{ob:Tr}{v:V}{vs:List V}(e:uq ob v=some vs):kq ob v=some (false,vs):=aA e fun p ep e=>cH e fun b e=>by rw[ep,←af e,←cX b]
theorem lG{G:Prop}{P:Pm}{h:Heap}{ae:a6}{H:HP}{ρ:List Addr}{ob:Tr}{v:V}{r:Value}{vs:List V}(I:a8 P base H ρ ae ob h)(hv:aj P H ρ v r)(e:uq ob v=some vs)
  (g:∀a rs k,r=.ref a→h.get? a=some (aN rs k)→ak P H ρ vs rs→G):G:=iW I hv (Fc e) g
theorem yP{G:Prop}{P:Pm}{h:Heap}{ae:a6}{H:HP}{ρ:List Addr}{ob:Tr}{v:V}{r:Value}{p:Addr×List (Str×V)}(I:a8 P base H ρ ae ob h)(hv:aj P H ρ v r)(e:yQ ob v=some p)
  (g:∀a dx es k,r=.ref a→W.InstAt h a (instObj p.1 dx) p.1 (some (dictOf es k))→bV P H ρ p.2 es→G):G:=by
 refine dD e (fun _ e1 e=>hv.cN e1 fun _ _ _ _ a b c er=>?_) fun _ e=>aA e fun i ei e=>hv.cR ei fun ad ha er=>dD e (fun q eo e=>aA e fun fs ef e=>(I.at (LJ eo) ha).inst' fun _ a b=>(I.at (HL ef) b).ns' fun _ _ c d=>?_)
  fun _ e=>aA e fun u eo e=>(I.at (Cj eo) ha).frz' fun a=>a.cN e fun _ _ _ _ a b c ea=>?_
 ·rw[←af e]at g
  exact g _ _ _ _ er ⟨I.frz _ _ a,rfl,rfl,I.frz _ _ b⟩ c
 ·rw[←af e]at g
  exact g _ _ _ _ er ⟨a,rfl,rfl,c⟩ d
 ·cases ea;exact g _ _ _ _ er ⟨I.frz _ _ a,rfl,rfl,I.frz _ _ b⟩ c
theorem sV{P:Pm}{H:HP}{ρ:List Addr}{fs:List (Str×V)}{es:List DictEntry}(h:bV P H ρ fs es):(es.any (·.refKey))=false:=
 bV.ind (M:=fun _ es=>(es.any (·.refKey))=false) rfl (fun _ _ _ _ _ _ _ ih=>ih) h
theorem uS{y name:Str}{t:Tok}:(Value.str y t).isStr name=aS name y:=by
 show(y==name)=_
 rw[dw]
 by_cases q:y=name
 ·rw[q]
 ·rw[beq_eq_false_iff_ne.mpr q,beq_eq_false_iff_ne.mpr (Ne.symm q)]
theorem qK{P:Pm}{H:HP}{ρ:List Addr}{name:Str}{fs:List (Str×V)}{es:List DictEntry}(h:bV P H ρ fs es) :
  oX (lk name fs) (fun u=>∃e,es.find? (·.key.isStr name)=some e∧aj P H ρ u e.val) (es.find? (·.key.isStr name)=none):=by
 refine bV.ind (M:=fun fs es=>oX (lk name fs) (fun u=>∃e,es.find? (·.key.isStr name)=some e∧aj P H ρ u e.val) (es.find? (·.key.isStr name)=none)) rfl (fun p t r fs es a _ ih=>?_) h
 rw[List.find?_cons]
 show oX (bX (aS name p.1) (some p.2) (lk name fs)) _ _
 rw[show(DictEntry.key ⟨PyData.keyHash P.p p.1,.str p.1 t,r⟩).isStr name=aS name p.1 from uS]
 cases aS name p.1 with
 |true=>exact⟨_,rfl,a⟩
 |false=>exact ih
theorem uZ{P:Pm}{H:HP}{ρ:List Addr}{name:Str}{fs:List (Str×V)}{es:List DictEntry}{u:V}(x:bV P H ρ fs es)(e:lk name fs=some u):∃r,getL name es=some (some r)∧aj P H ρ u r:=by
 have z:=qK (name:=name) x
 rw[e]at z
 refine av z fun en h1 h2=>?_
 exact⟨_,by unfold getL;rw[h1],h2⟩
theorem qi{P:Pm}{H:HP}{ρ:List Addr}{name:Str}{fs:List (Str×V)}{es:List DictEntry}(x:bV P H ρ fs es)(e:lk name fs=none):getL name es=some none:=by
 have z:=qK (name:=name) x
 rw[e]at z
 unfold getL
 rw[z,sV x];rfl
theorem AX{P:Pm}{H:HP}{ρ:List Addr}{name:Str}{fs:List (Str×V)}{es:List DictEntry}(x:bV P H ρ fs es):(getL name es).isSome=true:=by
 cases e:lk name fs with
 |some u=>obtain⟨r,h,_⟩:=uZ x e;rw[h];rfl
 |none=>rw[qi x e];rfl
theorem C3{P:Pm}{H:HP}{ρ:List Addr}{name:Str}{t:Tok}{v:V}{r:Value}(hv:aj P H ρ v r){fs:List (Str×V)}{es:List DictEntry}(h:bV P H ρ fs es) :
  bV P H ρ (put name v fs) (putL name (PyData.keyHash P.p name) (.str name t) r es):=by
 refine bV.ind (M:=fun fs es=>bV P H ρ (put name v fs) (putL name (PyData.keyHash P.p name) (.str name t) r es)) (.cons hv .nil) (fun p t' r' fs es a b ih=>?_) h
 obtain⟨y,u⟩:=p
 unfold putL
 show bV P H ρ (bX (aS name y) ((y,v)::fs) ((y,u)::put name v fs)) (if(Value.str y t').isStr name then _ else _)
 rw[uS]
 cases aS name y with
 |true=>exact .cons hv b
 |false=>exact .cons a ih
theorem BG{P:Pm}{H:HP}{ρ:List Addr}{fs:List (Str×V)}{es:List DictEntry}(h:bV P H ρ fs es):es.length=fs.length:=
 bV.ind (M:=fun fs es=>es.length=fs.length) rfl (fun _ _ _ _ _ _ _ ih=>congrArg (·+1) ih) h
theorem zV{P:Pm}{H:HP}{ρ:List Addr}{u:V}{r:Value}(h:F9 u=true)(hv:aj P H ρ u r):handedIn r=true:=by
 cases hv <;> first|rfl|cases h
theorem EW{o:Option c6}(h:LG o=true):o=some .own:=by
 refine kF h fun a e h=>?_
 cases a with
 |own=>exact e
 |fn=>cases h
theorem E5{o:Option c6}{f:Addr}(h:UQ o=some f):o=some (.fn f):=by
 refine aA h fun a e h=>?_
 cases a with
 |own=>cases h
 |fn=>rw[e,af h]
theorem xl(G:aY prog w T c K base){cx:Cx}{H:HP}{ρ:List Addr}{ae:a6}{σ:St}{s:Shared}{ov:V}{r:Value}{name:Str}{b:Bool}{Qv:V→St→Prop}{Q:Value→Shared→Prop}{EE:Value→Shared→Prop}
  (N:aJ (pm w T) base cx H ρ σ ae s.heap) (hv:aj (pm w T) H ρ ov r) (h:N8 c ov name σ Qv)
  (q:∀u ru tk,aj (pm w T) H ρ u ru→Qv u σ→Q ru {s with toks:=tk}):wpAny (model prog w) cx.A (getAttr r name b) Q EE s:=by
 refine aM h fun p e h=>bD h fun hc h=>aM h fun u hu h=>bD h fun hb h=>?_
 refine bq N.inv fun m mc I F=>?_
 refine yP I hv e fun a dx es k er A f=>?_
 refine av (uZ f hu) fun ru g1 g2=>?_
 have O:=G.cm _ _ _ (EW hc)
 refine av O.attr fun at_ a1 a2=>?_
 rw[er]
 exact get_value (G.kin.keeps I.keep) A (plainGet_of O.get).1 (findObj_own O.dict a1 a2 g1) (zV hb g2) (q _ _ _ g2 h)
end
end
section
section
variable {prog:Program}{w:World}{T:Nat→V}{base:Heap}{c:df}{K:Frag}{E:Ev}{n:Nat}
noncomputable def fj(h:Heap)(xs:List Addr):List (Addr×Obj):=(List.range h.objs.size).filterMap fun b=>if b∈xs then none else(h.get? b).map fun o=>(b,o)
theorem c8{h:Heap}{xs:List Addr}{b:Addr}{o:Obj}:(b,o)∈fj h xs↔b∉xs∧h.get? b=some o:=by
 unfold fj
 rw[List.mem_filterMap]
 constructor
 ·rintro ⟨a,_,e⟩
  by_cases q:a∈xs
  ·rw[if_pos q]at e;cases e
  ·rw[if_neg q]at e
   refine av (Option.map_eq_some_iff.mp e) fun o' e1 e2=>?_
   cases e2
   exact⟨q,e1⟩
 ·rintro ⟨q,e⟩
  exact⟨b,List.mem_range.mpr (Heap.lt_size e),by rw[if_neg q,e];rfl⟩
noncomputable def iu(h:Heap):Heap:={h with objs:=#[]}
theorem gj{h:Heap}(b:Addr):(iu h).get? b=none:=by
 cases q:(iu h).get? b with
 |none=>rfl
 |some o=>exact absurd (Heap.lt_size q) (Nat.not_lt_zero _)
theorem eW{h:Heap}{L:Addr}{m:cq}(hn:h.Ns L m):Fr (iu h) L h m:=⟨hn,fun b o e=>(by rw[gj]at e;cases e),Nat.zero_le _⟩
theorem jc{h:Heap}{L a:Addr}{o:Obj}(ho:h.get? a=some o)(ne:a≠L):News (iu h) L h ((a,o)::fj h [a,L]):=fun p hp=>by
 rcases List.mem_cons.mp hp with rfl|hp
 ·exact⟨ho,ne,gj _⟩
 ·obtain⟨b,o'⟩:=p
  refine bC (c8.mp hp) fun h1 h2=>?_
  simp only [List.mem_cons,List.not_mem_nil,or_false,not_or]at h1
  exact⟨h2,h1.2,gj _⟩
theorem i8{h Nm h':Heap}{L a:Addr}{o:Obj}(N:News Nm L h' ((a,o)::fj h [a,L])):h'.get? a=some o∧∀b o,b≠a→b≠L→h.get? b=some o→h'.get? b=some o:=
 ⟨(N _ (.head _)).1,fun b o q1 q2 e=>(N (b,o) (.tail _ (c8.mpr ⟨by simp[q1,q2],e⟩))).1⟩
theorem iF{h:Heap}{L:Addr}:News (iu h) L h (fj h [L]):=fun p hp=>by
 obtain⟨b,o⟩:=p
 refine bC (c8.mp hp) fun h1 h2=>?_
 simp only [List.mem_cons,List.not_mem_nil,or_false]at h1
 exact⟨h2,h1,gj _⟩
theorem kj{h Nm h':Heap}{L:Addr}{pre:List (Addr×Obj)}(N:News Nm L h' (pre++fj h [L])):∀b o,b≠L→h.get? b=some o→h'.get? b=some o:=
 fun b o q e=>(N (b,o) (List.mem_append_right _ (c8.mpr ⟨by simp[q],e⟩))).1
section
variable {P:Pm}{h h':Heap}{H:HP}{ρ:List Addr}{ae:a6}{ob:Tr}
theorem a8.move{L:Addr}{φ:Fp}(I:a8 P base H ρ ((L,φ)::ae) ob h)(hk:∀b o,b≠L→h.get? b=some o→h'.get? b=some o)(hn:∃o,h'.get? L=some o∧φ.φ H o):a8 P base H ρ ((L,φ)::ae) ob h':=by
 refine bC (I.frNew _ (.head _)) fun n1 n2=>?_
 have d:=I.frDup
 rw[List.map_cons,List.nodup_cons]at d
 have nR:∀a∈ρ,a≠L:=fun a ha q=>I.rf a ha (by rw[q];exact .head _)
 refine⟨fun b o e=>hk b o (fun q=>by rw[q,n1]at e;cases e) (I.keep b o e),fun b o e=>hk b o (fun q=>n2 o (q▸e)) (I.frz b o e),fun p hp=>?_,I.frNew,I.frDup,fun i o e=>?_,I.dup,fun b hb=>?_,I.rf⟩
 ·rcases List.mem_cons.mp hp with rfl|hp
  ·exact hn
  ·refine av (I.frNs p (.tail _ hp)) fun o e f=>?_
   exact⟨o,hk _ _ (fun q=>d.1 (List.mem_map.mpr ⟨p,hp,q⟩)) e,f⟩
 ·refine dC (I.own i o e) fun a h1 h2 h3=>?_
  exact⟨a,h1,h2.mono (fun _ _ x=>x) .refl (fun o e=>hk a o (nR a (List.mem_of_getElem? h1)) e),h3⟩
 ·refine cf (I.there b hb) fun o e=>?_
  exact⟨o,hk b o (nR b hb) e⟩
theorem a8.allocJ(I:a8 P base H ρ ae ob h)(J:a8 P base H ρ ae ob h'){ob':Tr}{o:Obj}{x:O}{D:Addr}(hD:h.get? D=none)(he:h'.get? D=some o)(hob:∀i,ob'.get i=if i=ρ.length then some x else ob.get i)
  (hx:dJ P H (ρ++[D]) h' D x):a8 P base H (ρ++[D]) ae ob' h':=by
 have nR:D∉ρ:=fun q=>by obtain⟨o,e⟩:=I.there D q;rw[hD]at e;cases e
 have nF:D∉ae.map (·.1):=fun q=>by
  refine av (List.mem_map.mp q) fun p hp e=>?_
  refine av (I.frNs p hp) fun o e' _=>?_
  rw[e,hD]at e';cases e'
 refine{J with own:=?_,dup:=?_,there:=?_,rf:=?_}
 ·intro i y e
  rw[hob]at e
  by_cases q:i=ρ.length
  ·subst q
   rw[if_pos rfl]at e
   cases e
   exact⟨D,by simp,hx,fun _=>⟨fR I.keep hD,fun o e=>(by rw[I.frz _ _ e]at hD;cases hD),nF⟩⟩
  ·rw[if_neg q]at e
   refine dC (J.own i y e) fun a h1 h2 h3=>?_
   exact⟨a,cF.more _ _ h1,h2.mono (fun _ _ x=>x) .more (fun _ x=>x),h3⟩
 ·exact List.nodup_append.mpr ⟨I.dup,List.nodup_cons.mpr ⟨by simp,List.nodup_nil⟩,fun a ha b hb e=>by
   rw[List.mem_singleton.mp hb]at e
   exact nR (e▸ha)⟩
 ·intro a ha
  rcases List.mem_append.mp ha with q|q
  ·exact J.there a q
  ·rw[List.mem_singleton.mp q];exact⟨_,he⟩
 ·intro a ha
  rcases List.mem_append.mp ha with q|q
  ·exact J.rf a q
  ·rw[List.mem_singleton.mp q];exact nF
theorem a8.pushJ(I:a8 P base H ρ ae ob h)(J:a8 P base H ρ ae ob h'){o:Obj}{D:Addr}(hD:h.get? D=none)(he:h'.get? D=some o):a8 P base (H.and D o) ρ ae ob h':=by
 have nR:D∉ρ:=fun q=>by obtain⟨o,e⟩:=I.there D q;rw[hD]at e;cases e
 have nF:D∉ae.map (·.1):=fun q=>by
  refine av (List.mem_map.mp q) fun p hp e=>?_
  refine av (I.frNs p hp) fun o e' _=>?_
  rw[e,hD]at e';cases e'
 refine{J with frz:=?_,frNs:=fun p hp=>let ⟨o,e,f⟩:=J.frNs p hp;⟨o,e,p.2.mono HP.le f⟩,frNew:=?_,own:=?_}
 ·rintro a x (e|⟨rfl,rfl⟩)
  ·exact J.frz a x e
  ·exact he
 ·intro p hp
  refine⟨(J.frNew p hp).1,?_⟩
  rintro x (e|⟨e,rfl⟩)
  ·exact(J.frNew p hp).2 x e
  ·exact nF (List.mem_map.mpr ⟨p,hp,e⟩)
 ·intro i x e
  refine dC (J.own i x e) fun a h1 h2 h3=>?_
  refine⟨a,h1,h2.mono (fun _ _ x=>.inl x) .refl (fun _ x=>x),fun q=>⟨(h3 q).nb,?_,(h3 q).nf⟩⟩
  rintro y (e'|⟨e',rfl⟩)
  ·exact(h3 q).nH y e'
  ·exact nR (e'▸List.mem_of_getElem? h1)
end
theorem aJ.move{P:Pm}{cx:Cx}{H:HP}{ρ:List Addr}{σ:St}{ae:a6}{h h':Heap}(N:aJ P base cx H ρ σ ae h)(hk:∀b o,b≠cx.L→h.get? b=some o→h'.get? b=some o)(hn:∀m,h.Ns cx.L m→h'.Ns cx.L m):aJ P base cx H ρ σ ae h':=
 let ⟨m,mc,I,F,q⟩:=N.ns
 ⟨⟨m,mc,I.move hk (dq.mpr (hn m q)),F⟩,N.len,N.outer,N.self⟩
theorem jg{cx:Cx}{h h':Heap}{m:cq}(hn:h.Ns cx.L m)(F:Fr (iu h) cx.L h' m):∀m',h.Ns cx.L m'→h'.Ns cx.L m':=fun m' hm=>by
 obtain rfl:=lC hn hm
 exact F.ns
theorem g9{cx:Cx}{H:HP}{ρ:List Addr}{ae:a6}{s:Shared}{σ:St}{vs:List V}{rs:List Value}{k:Nat}{D:Addr}{h':Heap}{tk:Nat}{Q:V→St→Prop}(N:aJ (pm w T) base cx H ρ σ ae s.heap)
  (hk:∀b o,b≠cx.L→s.heap.get? b=some o→h'.get? b=some o) (hn:∀m,s.heap.Ns cx.L m→h'.Ns cx.L m) (hD:s.heap.get? D=none) (he:h'.get? D=some (aN rs k)) (hv:ak (pm w T) H ρ vs rs)
  (h:bS σ.ob (.list vs) fun v ob'=>Q v ⟨σ.fm,ob'⟩) :
  ∃v σ' ρ',aJ (pm w T) base cx H ρ' σ' ae h'∧aX base H ρ s H ρ' {s with heap:=h',toks:=tk}∧aj (pm w T) H ρ' v (.ref D)∧Q v σ':=by
 refine aM h fun y e h=>?_
 refine dT N.ns fun m mc I F q=>?_
 have J:=I.move hk (dq.mpr (hn m q))
 refine⟨_,⟨σ.fm,⟨σ.ob.tr.ins σ.ob.nx (.list vs),σ.ob.nx+1⟩⟩,ρ++[D],⟨⟨m,mc,I.allocJ J hD he ?_ (.list he (hv.mono (fun _ _ e=>e) .more)),F.mono (fun _ _ e=>e) .more⟩,by rw[List.length_append,←N.len];rfl,N.outer,N.self⟩,⟨fun _ _ e=>e,fun _ _ e=>.inl e,.more,rfl,rfl,rfl⟩,.ref ?_,h⟩
 ·rw[N.len]
  exact Tr.get_ins (.list vs) σ.ob.tr σ.ob.nx (by rw[e];rfl)
 ·rw[←N.len];exact List.getElem?_concat_length
theorem jb{cx:Cx}{H:HP}{ρ:List Addr}{ae:a6}{s:Shared}{σ:St}{o:Obj}{D:Addr}{h':Heap}{tk:Nat}(N:aJ (pm w T) base cx H ρ σ ae s.heap)
  (hk:∀b o,b≠cx.L→s.heap.get? b=some o→h'.get? b=some o) (hn:∀m,s.heap.Ns cx.L m→h'.Ns cx.L m) (hD:s.heap.get? D=none) (he:h'.get? D=some o) :
  aJ (pm w T) base cx (H.and D o) ρ σ ae h'∧aX base H ρ s (H.and D o) ρ {s with heap:=h',toks:=tk}:=by
 refine dT N.ns fun m mc I F q=>?_
 have J:=I.move hk (dq.mpr (hn m q))
 exact⟨⟨⟨m,mc,I.pushJ J hD he,F.mono HP.le .refl⟩,N.len,N.outer,N.self⟩,HP.le,fun a y e=>e.elim .inl fun⟨e,_⟩=>.inr (e▸fR I.keep hD),.refl,rfl,rfl,rfl⟩
theorem tN{h:Heap}{L D:Addr}(hl:∀p∈fj h [L],p.1 < D)(ne:D≠L):h.get? D=none:=by
 cases q:h.get? D with
 |none=>rfl
 |some o=>exact absurd (hl (D,o) (c8.mpr ⟨by simp[ne],q⟩)) (Nat.lt_irrefl _)
theorem v9{A:Around}{s:Shared}{x:Str}{t:Tok}{name:Str}{i:Bi}{pl:Sem Bool}{Q:Value×List Value→Shared→Prop}{EE:Value→Shared→Prop}(e:yW name=some i)(q:Q (.builtin i.name,[.str x t]) s):wpAny (model prog w) A (getMethod (.str x t) name pl) Q EE s:=by
 refine iV e (fun h e=>?_) fun _ e=>cH e fun h e=>?_
 ·rw[←af e]at q
  rw[bR.mp h]
  exact getMethod_builtin (typeIs_str _ _ _) PySem.F.plainAttrs_str PySem.F.slot_str_split PySem.F.type_str_split (fun a e=>by cases e) q
 ·rw[←af e]at q
  rw[bR.mp h]
  exact getMethod_builtin (typeIs_str _ _ _) PySem.F.plainAttrs_str PySem.F.slot_str_lstrip PySem.F.type_str_lstrip (fun a e=>by cases e) q
theorem sY{A:Around}{s:Shared}{a:Addr}{rs:List Value}{k:Nat}{name:Str}{i:Bi}{pl:Sem Bool}{Q:Value×List Value→Shared→Prop}{EE:Value→Shared→Prop}(ha:s.heap.get? a=some (aN rs k))(e:tI name=some i)(q:Q (.builtin i.name,[.ref a]) s):wpAny (model prog w) A (getMethod (.ref a) name pl) Q EE s:=by
 have hT:s.TypeIs (.ref a) "list":=⟨_,ha,rfl⟩
 have hT':∀b,Value.ref a=.ref b→∃o,s.heap.get? b=some o∧o.dict=none:=fun b e=>by cases e;exact⟨_,ha,rfl⟩
 refine iV e (fun h e=>?_) fun _ e=>iV e (fun h e=>?_) fun _ e=>cH e fun h e=>?_
 ·rw[←af e]at q
  rw[bR.mp h]
  exact getMethod_builtin hT PySem.F.plainAttrs_list PySem.F.slot_list_append PySem.F.type_list_append hT' q
 ·rw[←af e]at q
  rw[bR.mp h]
  exact getMethod_builtin hT PySem.F.plainAttrs_list PySem.F.slot_list_extend PySem.F.type_list_extend hT' q
 ·rw[←af e]at q
  rw[bR.mp h]
  exact getMethod_builtin hT PySem.F.plainAttrs_list PySem.F.slot_list_pop PySem.F.type_list_pop hT' q
theorem xI{P:Pm}{A:Around}{H:HP}{ρ:List Addr}{ae:a6}{ob:Tr}{s:Shared}{ov:V}{r:Value}{name:Str}{i:Bi}{pl:Sem Bool}{Q:Value×List Value→Shared→Prop}{EE:Value→Shared→Prop}
  (I:a8 P base H ρ ae ob s.heap) (hv:aj P H ρ ov r) (e:yL ob ov name=some i)
  (q:∀tk,Q (.builtin i.name,[r]) {s with toks:=tk}):wpAny (model prog w) A (getMethod r name pl) Q EE s:=by
 have q:=q s.toks
 refine dD e (fun x ex e=>hv.cS ex fun t _ er=>?_) fun _ e=>dD e (fun aU ed e=>cH e fun h e=>?_) fun _ e=>aA e fun vs es e=>lG I hv es fun a rs k er ha _=>?_
 ·rw[er]at q ⊢;exact v9 e q
 ·refine av (iT I hv ed) fun d rq1 D=>?_;subst rq1
  refine bq D.obj fun es k ho _=>?_
  rw[←af e]at q
  rw[bR.mp h]
  exact getMethod_builtin ⟨_,ho,rfl⟩ PySem.F.plainAttrs_dict PySem.F.slot_dict_get PySem.F.type_dict_get (fun a e=>by cases e;exact⟨_,ho,rfl⟩) q
 ·rw[er]at q ⊢;exact sY ha e q
theorem Iz(G:aY prog w T c K base){cx:Cx}{H:HP}{ρ:List Addr}{ae:a6}{σ:St}{s:Shared}{ov:V}{p:V×List V}{r:Value}{name:Str}{pl:Sem Bool}{Q:Value×List Value→Shared→Prop}{EE:Value→Shared→Prop}
  (N:aJ (pm w T) base cx H ρ σ ae s.heap) (hv:aj (pm w T) H ρ ov r) (e:JO c σ.ob.tr ov name=some p)
  (q:∀rg rf tk,aj (pm w T) H ρ p.1 rg→ak (pm w T) H ρ p.2 rf→Q (rg,rf) {s with toks:=tk}):wpAny (model prog w) cx.A (getMethod r name pl) Q EE s:=by
 refine bq N.inv fun m mc I F=>?_
 have X:=G.kin.keeps I.keep
 have meth:∀{C fs f v},aj (pm w T) H ρ v r→yQ σ.ob.tr v=some (C,fs)→c.CM C name=some (.fn f)→lk name fs=none→(∀tk,Q (.ref f,[r]) {s with toks:=tk})→wpAny (model prog w) cx.A (getMethod r name pl) Q EE s:=by
  intro C fs f v hv ei ec el q
  refine yP I hv ei fun a dx es k er A fr=>?_
  rw[er]at q ⊢
  have M:=G.cm _ _ _ ec
  exact method_fn X A (plainGet_of M.get).1 (plainGet_of M.get).2 M.attr M.fn (by show(lookIn name (dictOf es k)).map _=_;rw[lookIn_dict,qi fr el];rfl) (q s.toks)
 refine dD e (fun C eC e=>hv.cG eC fun er=>aA e fun f ef e=>?_) fun _ e=>dD e (fun k ek e=>hv.cM ek fun hv'=>aA e fun C en e=>aA e fun f ec e=>?_) fun _ e=>dD e (fun x ei e=>aA e fun f ec e=>cH e fun el e=>?_)
  fun _ e=>aA e fun i em e=>?_
 all_goals rw[←af e]at q
 ·have S:=G.cs _ _ _ ef
  refine av S.attr fun mc a1 a2=>?_
  rw[er]
  exact method_cls X S.get (cls_value X a1 a2 rfl (q _ _ _ .glob .nil))
 ·refine av ((G.nm _ _ en).inst) fun fs eT hno=>?_
  have hv'':=hv'
  rw[show(pm w T).T _=_ from eT]at hv''
  exact meth hv'' rfl (E5 ec) (hno _ _ (E5 ec)) fun tk=>q _ _ tk .glob (.cons (.named hv') .nil)
 ·exact meth hv ei (E5 ec) (jS el) fun tk=>q _ _ tk .glob (.cons hv .nil)
 ·exact xI I hv em fun tk=>q _ _ tk .blt (.cons hv .nil)
theorem mS{A:Around}{EE:Value→Shared→Prop}{s:Shared}{value slice:Expr}{o i:Value}{Ty id:String}{Q:Value→Shared→Prop}(hT:s.TypeIs o Ty)
  (hl:typeLookup (.type Ty) "__getitem__"=pure (some (.builtin id))) (hs:subscripted slice false o i=operate [o,i] (getItem o i)) (h:wpAny (model prog w) A (getItem o i) Q EE s) :
  wpAny (model prog w) A (subscriptTail value slice o i) Q EE s:=by
 unfold subscriptTail
 refine wpAny_bind ?_
 rw[getitemInPython_of_ne hT.not_modules]
 refine wpAny_bind (wpAny_specialOf hT hl ?_)
 have fin:wpAny (model prog w) A (subscripted slice false o i) (fun r s₃=>wpAny (model prog w) A (letTemporaryGo value o r >>= fun _=>pure r) Q EE s₃) EE s:=by
  rw[hs]
  exact wpAny_operating (wpAny_mono h (fun r s₃ bf=>wpAny_bind (wpAny_letTemporaryGo (wpAny_pure bf))) fun _ _ x=>x)
 first
  |exact wpAny_pure (wpAny_bind fin)
  |exact wpAny_bind (wpAny_pure (wpAny_bind fin))
  |exact wpAny_bind fin
theorem gi{slice:Expr}(h:gz slice=true)(o i:Value):subscripted slice false o i=operate [o,i] (getItem o i):=
 nN (b:=gz slice) (by cases slice <;> first|rfl|trivial) h
theorem IL{P:Pm}{H:HP}{ρ:List Addr}{vs:List V}{rs:List Value}{k:Nat}{v:V}(h:ak P H ρ vs rs)(e:sO vs k=some v):∃r,rs[k]?=some r∧aj P H ρ v r:=by
  induction vs generalizing rs k with
  |nil=>cases e
  | cons u vs ih=>
    refine h.cons' fun r l a b er=>?_
    rw[er]
    cases k with
    |zero=>exact⟨r,rfl,af e▸a⟩
    |succ k=>exact(ih b e:∃r,l[k]?=some r∧_)
theorem CP{l:List Int}{k:Nat}{x:Int}(e:Nj l k=some x):l[k]?=some x:=by
  induction l generalizing k with
  |nil=>cases e
  | cons y l ih=>cases k with
    |zero=>exact e
    |succ k=>exact ih e
theorem Ai{P:Pm}{H:HP}{ρ:List Addr}{x:Int}{Q:V→Prop}{vs:List V}{rs:List Value}{i:Int}(h:ak P H ρ vs rs)(p:hU vs x i Q)(h1:i≤x)(h2:x < i+vs.length):∃v r,rs[(x - i).toNat]?=some r∧aj P H ρ v r∧Q v:=by
  induction vs generalizing rs i with
  |nil=>exact absurd h2 (by rw[List.length_nil];lia)
  | cons v vs ih=>
    refine h.cons' fun r l a b er=>?_
    rw[er]
    by_cases e:x=i
    · rw[e,Int.sub_self];exact⟨v,r,rfl,a,p.1 e⟩
    · rw[List.length_cons]at h2
      refine dT (ih b p.2 (by lia) (by lia)) fun u r' g1 g2 g3=>?_
      have q:(x - i).toNat=(x - (i+1)).toNat+1:=by lia
      exact⟨u,r',by rw[q];exact g1,g2,g3⟩
theorem lZ{k n:Nat}(h:k < n):seqIndex? (Int.ofNat k) n=some k:=by
 unfold seqIndex?
 have h0:(0:Int)≤Int.ofNat k:=Int.natCast_nonneg k
 rw[if_neg (Int.not_lt.mpr h0)]
 have e:(decide (0≤Int.ofNat k)&&decide (Int.ofNat k < (n:Int)))=true:=Bool.and_eq_true_iff.mpr ⟨decide_eq_true h0,decide_eq_true (Int.ofNat_lt.mpr h)⟩
 exact if_pos e
theorem uC{l:List Int}{k:Nat}(h:k < l.length):l[k]?=some (aW l k):=by
  induction l generalizing k with
  |nil=>cases h
  | cons y l ih=>cases k with
    |zero=>rfl
    |succ k=>exact ih (Nat.lt_of_succ_lt_succ h)
theorem FX{i n:Nat}(h:By i n=true):i < n:=Nat.le_of_ble_eq_true h
theorem Gh{k:Bool}{xs:List Int}{kx:Bool}{x:Int}{Q:V→Prop}(h:itemI k xs kx x Q):∃j y,x=Int.ofNat j∧xs[j]?=some y∧xs.length≤1000∧Q (.int false y):=
 pn h (fun _ h=>aM h fun j ej h=>pn h (fun _ h=>aM h fun y e h=>bD h fun hf h=>⟨j,y,gM ej,CP e,Nat.le_of_ble_eq_true hf,h⟩)
  fun _ h=>c7 h fun h1 h=>c7 h fun h2 h=>⟨j,_,gM ej,uC (FX h1),Nat.le_of_ble_eq_true h2,h⟩)
  fun _ h=>c7 h fun h0 h=>c7 h fun h1 h=>c7 h fun h2 h=>⟨x.toNat,_,(Int.toNat_of_nonneg (of_decide_eq_true h0)).symm,uC (FX h1),Nat.le_of_ble_eq_true h2,h⟩
theorem tP{rs:List Value}{xs:List Int}{j:Nat}{y:Int}(h:IntsAre rs xs)(e:xs[j]?=some y):∃t,rs[j]?=some (.int y t):=by
  induction h generalizing j with
  |nil=>cases e
  | cons a t x ih=>cases j with
    |zero=>exact⟨t,by rw[←af e];rfl⟩
    |succ j=>exact ih e
theorem tK{ob:Tr}{key:V}{miss:Prop}{Q:V→Prop}{es:List (V×V)}(h:zd ob key miss Q es):oX (gH key es) Q miss:=by
  induction es with
  |nil=>exact h
  | cons p r ih=>
    have h:=pV h
    show oX (bX (bY key p.1) (some p.2) (gH key r)) Q miss
    cases q:bY key p.1 with
    |true=>rw[q]at h;exact h
    |false=>rw[q]at h;exact ih h
theorem sh{A:Around}{EE:Value→Shared→Prop}{s:Shared}{d:Addr}{rk v:Value}{Q:Value→Shared→Prop}{es:List DictEntry}{n:Nat}(ho:s.heap.get? d=some (dictOf es n))
  (h:wpAny (model prog w) A.in1 (dictGet d rk) (fun o s'=>∃v,o=some v∧Q v s') EE s):wpAny (model prog w) A (getItem (.ref d) rk) Q EE s:=by
 have hT:s.TypeIs (.ref d) "dict":=⟨_,ho,rfl⟩
 unfold getItem
 try with_reducible refine wpAny_holding ?_
 refine wpAny_bind (wpAny_sequenceKey hT (by decide) ?_)
 refine wpAny_bind (wpAny_callSpecial?_slot (name:=Str.ofString "__getitem__") hT slot_dict_getitem
  (wpAny_call_entry slot_dict_getitem hT entry_dict_getitem ?_ (args_dict_getitem _ _)))
 show wpAny _ _ (dictGet d rk >>= _) _ _ s
 refine wpAny_bind (wpAny_mono h (fun o s' hq=>?_) fun _ _ e=>e)
 refine av hq fun v rq1 q=>?_;subst rq1
 exact wpAny_pure ⟨v,rfl,wpAny_pure q⟩
theorem sx {cx:Cx} {H:HP} {ρ:List Addr} {ae:a6} {σ:St} {s:Shared} {o i:V} {ro ri:Value} {value slice:Expr} {Kq:V→Prop} {Q:Value→Shared→Prop} {EE:Value→Shared→Prop} {mm:Nat} (O:cx.Ok (mm+1))
    (N:aJ (pm w T) base cx H ρ σ ae s.heap) (hs:gz slice=true) (ho:aj (pm w T) H ρ o ro) (hi:aj (pm w T) H ρ i ri) (h:Et σ.ob.tr o i Kq)
    (q:∀v r tk,aj (pm w T) H ρ v r→Kq v→Q r {s with toks:=tk}):wpAny (model prog w) cx.A (subscriptTail value slice ro ri) Q EE s:=by
  refine bq N.inv fun m mc I F=>?_
  have lst:∀{ad:Addr} {rs:List Value} {k:Nat} {tb:Bool} {j:Nat} {t:Tok} {v:V} {r:Value},s.heap.get? ad=some ⟨.type (if tb then "tuple" else "list"),none,.seq rs.toArray k,#[]⟩→ro=.ref ad→ri=.int (Int.ofNat j) t→j≤1000→rs[j]?=some r→aj (pm w T) H ρ v r→Kq v→
      wpAny (model prog w) cx.A (subscriptTail value slice ro ri) Q EE s:=by
    intro ad rs k tb j t v r hob er ei j1 hx hv hk
    subst er ei
    have fin:=q v r s.toks hv hk
    have hlt:j < rs.length:=(List.getElem?_eq_some_iff.mp hx).1
    have b1:-(2 ^ 63:Int)≤Int.ofNat j:=by simp only [Int.ofNat_eq_natCast];lia
    have b2:Int.ofNat j < (2 ^ 63:Int):=by simp only [Int.ofNat_eq_natCast];lia
    cases tb with
    | true=>
      have hT:IsTup s.heap ad rs.toArray:=⟨_,hob,rfl,_,rfl⟩
      exact mS hT.typeIs slot_tuple_getitem.lookup (gi hs _ _) (getItem_tuple (j:=j) hT b1 b2 (by rw[List.size_toArray];exact lZ hlt) (by simpa using hx) fin)
    | false=>
      have hL:s.heap.IsList ad rs.toArray:=⟨_,hob,rfl,_,rfl⟩
      exact mS hL.typeIs slot_list_getitem.lookup (gi hs _ _) (wpAny_getItem_list hL (Int.natCast_nonneg j) b2 (by simpa using hx) fin)
  refine d8 h (fun p ep h=>aM h fun i' ei h=>hi.cI ei fun tj er=>?_) fun _ h=>d8 h (fun p es h=>iW I ho es fun ad rs k er hob hvs=>aM h fun x ei h=>hi.cI ei fun tj ej=>pn h (fun _ h=>aM h fun k ek h=>bD h fun hf h=>aM h fun v ev h=>?_) fun _ h=>bD h fun hf h=>?_)
    fun _ h=>aM h fun es ed h=>bD h fun hk h=>bD h fun ik h=>?_
  · refine MZ (Gh h) fun j y e hy hl hk=>?_
    rw[e]at er
    refine dD ep (fun p' ey e=>ho.cY ey fun a t eo ea=>?_) fun _ ew=>ho.cW ew fun rs a k b hx eo=>?_
    · rw[af e]at ea
      rw[ea]at hy
      unfold aF at hy
      rw[List.getElem?_map]at hy
      refine av (Option.map_eq_some_iff.mp hy) fun b g1 g2=>?_
      have hll:p.2.length=a.toList.length:=by rw[ea];exact List.length_map _
      have hlt:j < a.toList.length:=(List.getElem?_eq_some_iff.mp g1).1
      have fin:=q (.int false y) (.int y s.toks) (s.toks+1) .int hk
      have hz:a.toList.length≤1099511627776:=by rw[←hll];exact Nat.le_trans hl (by decide)
      have hb:((a.toList.getD (Int.ofNat j).toNat 0).toNat:Int)=y:=by
        show((a.toList.getD j 0).toNat:Int)=y
        rw[List.getD_eq_getElem?_getD,g1];exact g2
      rw[er,eo]
      refine mS (typeIs_bytes _ _ _) FB.slot_bytes_getitem.lookup (gi hs _ _) ?_
      have z:=fun u:Tok=>getItem_bytes (u:=u) (prog:=prog) (w:=w) (A:=cx.A) (E:=EE) (s:=s) (t:=t) (l:=a.toList) (i:=Int.ofNat j) (Q:=Q) hz (Int.natCast_nonneg j) (Int.ofNat_lt.mpr hlt) (by rw[hb];exact fin)
      rw[Array.toArray_toList]at z
      exact z _
    · refine cf (tP hx hy) fun t ht=>?_
      exact lst (tb:=false) (I.frz _ _ b) eo er (Nat.le_trans (Nat.le_of_lt (List.getElem?_eq_some_iff.mp hy).1) hl) ht .int hk
  · rw[gM ek]at ej
    refine av (IL hvs ev) fun r g1 g2=>?_
    exact lst hob er ej (Nat.le_of_ble_eq_true hf) g1 g2 h
  · refine kD h fun h1 h2 h3=>?_
    refine cf (Int.eq_ofNat_of_zero_le h1) fun j e=>?_
    have hk:=Nat.le_of_ble_eq_true hf
    refine dT (Ai hvs h3 h1 (by lia)) fun v r g1 g2 g3=>?_
    rw[e]at ej
    exact lst hob er ej (by lia) (by rw[e]at g1;simpa using g1) g2 g3
  · refine av (iT I ho ed) fun d rq1 D=>?_;subst rq1
    refine bq D.obj fun en k hob _=>?_
    refine mS ⟨_,hob,rfl⟩ slot_dict_getitem.lookup (gi hs _ _) (sh hob (v:=.none) ?_)
    refine jL rfl I D hk ik hi (by show cx.A.units+_ < _;have:=O.units;lia) fun tk o ho=>?_
    have g:=tK h
    cases q':gH i es with
    |none=>rw[q']at g;exact g.elim
    | some v=>
      rw[q']at g ho
      refine av ho fun r rq1 hr=>?_;subst rq1
      exact⟨r,rfl,q v r tk hr g⟩
theorem kg{A:Around}{EE:Value→Shared→Prop}{s:Shared}{value slice:Expr}{o i:Value}{ops:List Value}{Ty id:String}{Q:Value→Shared→Prop}(hT:s.TypeIs o Ty)
  (hl:typeLookup (.type Ty) "__getitem__"=pure (some (.builtin id))) (hs:subscripted slice false o i=operate ops (getItem o i)) (h:wpAny (model prog w) A (getItem o i) Q EE s) :
  wpAny (model prog w) A (subscriptTail value slice o i) Q EE s:=by
 unfold subscriptTail
 refine wpAny_bind ?_
 rw[getitemInPython_of_ne hT.not_modules]
 refine wpAny_bind (wpAny_specialOf hT hl ?_)
 have fin:wpAny (model prog w) A (subscripted slice false o i) (fun r s₃=>wpAny (model prog w) A (letTemporaryGo value o r >>= fun _=>pure r) Q EE s₃) EE s:=by
  rw[hs]
  exact wpAny_operating (wpAny_mono h (fun r s₃ bf=>wpAny_bind (wpAny_letTemporaryGo (wpAny_pure bf))) fun _ _ x=>x)
 first
  |exact wpAny_pure (wpAny_bind fin)
  |exact wpAny_bind (wpAny_pure (wpAny_bind fin))
  |exact wpAny_bind fin
theorem tE{α:Type}(l:List α):∀(n:Nat),ma l n=l.drop n:=by
 induction l with
 |nil=>intro n;rw[List.drop_nil];rfl
 |cons x r ih=>intro n;cases n with|zero=>rfl|succ n=>exact ih n
theorem uJ{α:Type}(l:List α):∀(n:Nat),l8 l n=l.take n:=by
 induction l with
 |nil=>intro n;rw[List.take_nil];rfl
 |cons x r ih=>intro n;cases n with|zero=>rfl|succ n=>exact congrArg (x::·) (ih n)
theorem D2{α:Type}(l:List α)(a:Nat):l.drop (min a l.length)=l.drop a:=by
 rcases Nat.le_total a l.length with h|h
 ·rw[Nat.min_eq_left h]
 ·rw[Nat.min_eq_right h,List.drop_length,List.drop_eq_nil_of_le h]
theorem gX{α:Type}(l:List α)(lo hi:Option Nat):cut l lo hi=(l.drop (min (lo.getD 0) l.length)).take (min (hi.getD l.length) l.length - min (lo.getD 0) l.length):=by
  have key (a b:Nat):(l.drop (min a l.length)).take (min b l.length - min a l.length)=(l.drop a).take (b - a):=by
    rw[D2]
    rcases Nat.le_total b l.length with hb|hb
    · rw[Nat.min_eq_left hb]
      rcases Nat.le_total a l.length with ha|ha
      · rw[Nat.min_eq_left ha]
      · rw[List.drop_eq_nil_of_le ha,List.take_nil,List.take_nil]
    · have q:(l.drop a).length=l.length - a:=List.length_drop
      rw[Nat.min_eq_right hb,List.take_of_length_le (by rw[q];lia),List.take_of_length_le (by rw[q];lia)]
  rw[key]
  have all (a:Nat):(l.drop a).take (l.length - a)=l.drop a:=List.take_of_length_le (by rw[List.length_drop];exact Nat.le_refl _)
  cases lo with
  | none=>cases hi with
    |none=>exact(all 0).symm
    |some b=>exact uJ l b
  | some a=>cases hi with
    |none=>exact(tE l a).trans (all a).symm
    |some b=>show l8 (ma l a) (b - a)=_;rw[uJ,tE];rfl
theorem xm{P:Pm}{H:HP}{ρ:List Addr}{vs:List V}{rs:List Value}(n:Nat)(h:ak P H ρ vs rs):ak P H ρ (vs.drop n) (rs.drop n):=by
  induction n generalizing vs rs with
  |zero=>exact h
  | succ n ih=>cases vs with
    |nil=>exact h.nil' fun e=>e▸.nil
    |cons v vs=>exact h.cons' fun _ _ _ b e=>e▸ih b
theorem vP{P:Pm}{H:HP}{ρ:List Addr}{vs:List V}{rs:List Value}(n:Nat)(h:ak P H ρ vs rs):ak P H ρ (vs.take n) (rs.take n):=by
  induction n generalizing vs rs with
  |zero=>exact .nil
  | succ n ih=>cases vs with
    |nil=>exact h.nil' fun e=>e▸.nil
    |cons v vs=>exact h.cons' fun _ _ a b e=>e▸.cons a (ih b)
theorem tT(lo:Option Nat)(n:Nat):(match gJ lo with
    |none=>if(1:Int) > 0 then(0:Int)else(n:Int) - 1
    |some i=>if(1:Int) > 0 then max 0 (min (if i < 0 then i+n else i) n)else max (-1) (min (if i < 0 then i+n else i) (n - 1)))=((min (lo.getD 0) n:Nat):Int):=by
  cases lo with
  |none=>show(if(1:Int) > 0 then(0:Int)else _)=_;rw[if_pos (by decide),Option.getD,Nat.zero_min];rfl
  | some k=>
    have e:¬(Int.ofNat k < 0):=Int.not_lt.mpr (Int.natCast_nonneg k)
    show(if(1:Int) > 0 then max 0 (min (if Int.ofNat k < 0 then Int.ofNat k+n else Int.ofNat k) n)else _)=_
    rw[if_pos (by decide),if_neg e]
    exact(Int.max_eq_right (Int.le_min.mpr ⟨Int.natCast_nonneg k,Int.natCast_nonneg n⟩)).trans (by show min (k:Int) (n:Int)=((min k n:Nat):Int);lia)
theorem uw(hi:Option Nat)(n:Nat):(match gJ hi with
    |none=>if(1:Int) > 0 then(n:Int)else(-1)
    |some i=>if(1:Int) > 0 then max 0 (min (if i < 0 then i+n else i) n)else max (-1) (min (if i < 0 then i+n else i) (n - 1)))=((min (hi.getD n) n:Nat):Int):=by
  cases hi with
  |none=>show(if(1:Int) > 0 then(n:Int)else _)=_;rw[if_pos (by decide),Option.getD,Nat.min_self]
  | some k=>
    have e:¬(Int.ofNat k < 0):=Int.not_lt.mpr (Int.natCast_nonneg k)
    show(if(1:Int) > 0 then max 0 (min (if Int.ofNat k < 0 then Int.ofNat k+n else Int.ofNat k) n)else _)=_
    rw[if_pos (by decide),if_neg e]
    exact(Int.max_eq_right (Int.le_min.mpr ⟨Int.natCast_nonneg k,Int.natCast_nonneg n⟩)).trans (by show min (k:Int) (n:Int)=((min k n:Nat):Int);lia)
theorem z8(lo hi:Option Nat)(n:Nat):sliceBounds (gJ lo) (gJ hi) none n=(((min (lo.getD 0) n:Nat):Int),((min (hi.getD n) n:Nat):Int),1):=by
 rw[←tT,←uw];rfl
theorem xY(rs:List Value)(lo hi:Option Nat):slicePick rs.toArray (gJ lo) (gJ hi) none=(cut rs lo hi).toArray:=by
 rw[kmk_pick_nat rs.toArray (by rw[List.size_toArray];exact z8 lo hi rs.length),gX]
theorem Ac{P:Pm}{H:HP}{ρ:List Addr}{vs:List V}{rs:List Value}(lo hi:Option Nat)(h:ak P H ρ vs rs):ak P H ρ (cut vs lo hi) (cut rs lo hi):=by
 rw[gX,gX,a9 h]
 exact vP _ (xm _ h)
theorem Gq{v:V}{Kq:Bd→Prop}{P:Pm}{H:HP}{ρ:List Addr}{r:Value}(h:J1 v Kq)(hv:aj P H ρ v r):∃p,IsPart r (gJ (yz p))∧Kq p:=
 aM h fun p ep h=>hv.cI ep fun t er=>pn h (fun _ h=>aM h fun k ek h=>bD h fun _ h=>⟨some (true,k),by rw[er,gM ek];exact .int _ _,h⟩)
  fun _ h=>c7 h fun h0 h=>⟨some (false,p.2.toNat),by
   have z:=Int.toNat_of_nonneg (of_decide_eq_true h0)
   rw[er]
   conv=>lhs;rw[←z]
   exact .int _ _,h⟩
theorem zp(S:dX prog w T base c.R E n){cx:Cx}{x:Option Expr}{σ:St}{Kq:Bd→St→Prop}{H:HP}{ρ:List Addr}{ae:a6}{s:Shared}{Q':Value→Shared→Prop}{EE:Value→Shared→Prop}(O:cx.Ok n)
    (h:(Eu E x cx.sc).run σ Kq) (N:aJ (pm w T) base cx H ρ σ ae s.heap) (X:f5 prog w base c.R cx ae H s EE)
    (a:∀p r σ' H' ρ' s',aJ (pm w T) base cx H' ρ' σ' ae s'.heap→aX base H ρ s H' ρ' s'→IsPart r (gJ (yz p))→Kq p σ'→Q' r s'):wpAny (model prog w) cx.A (evalPart x cx.env) Q' EE s:=by
  cases x with
  |none=>exact evalPart_none_step (a none _ σ H ρ s N .refl .none h)
  | some e=>
    refine evalPart_some_step (S.ex cx _ _ _ O h _ _ _ _ _ _ N X fun eN cJ ai aB aE s₁ aC ay aR ao=>?_)
    refine av (Gq ao aR) fun p hp ao=>?_
    exact a _ _ _ _ _ _ aC ay hp ao
theorem tc{rs:List Value}{xs:List Int}(lo hi:Option Nat)(h:IntsAre rs xs):IntsAre (cut rs lo hi) (cut xs lo hi):=by
  have dr:∀{rs:List Value} {xs:List Int} (n:Nat),IntsAre rs xs→IntsAre (rs.drop n) (xs.drop n):=by
    intro rs xs n h
    induction n generalizing rs xs with
    |zero=>exact h
    | succ n ih=>cases h with
      |nil=>exact .nil
      |cons a t x=>exact ih x
  have tk:∀{rs:List Value} {xs:List Int} (n:Nat),IntsAre rs xs→IntsAre (rs.take n) (xs.take n):=by
    intro rs xs n h
    induction n generalizing rs xs with
    |zero=>exact .nil
    | succ n ih=>cases h with
      |nil=>exact .nil
      |cons a t x=>exact .cons _ _ (ih x)
  rw[gX,gX,h.length]
  exact tk _ (dr _ h)
theorem iJ{P:Pm}{H:HP}{ρ:List Addr}{vs:List V}{rs:List Value}{l:List (Bool×Int)}(h:ak P H ρ vs rs)(e:jF vs=some l):IntsAre rs (ph l):=by
 induction vs generalizing rs l with
 |nil=>exact h.nil' fun er=>er▸af e▸.nil
 |cons v vs ih=>exact aA e fun p ep e=>aA e fun q eq e=>h.cons' fun r l a b er=>a.cI ep fun t ea=>er▸ea▸af e▸.cons _ _ (ih b eq)
theorem wW{G:Prop}{P:Pm}{h:Heap}{ae:a6}{H:HP}{ρ:List Addr}{ob:Tr}{v:V}{r:Value}{p:Bool×List Int}(I:a8 P base H ρ ae ob h)(hv:aj P H ρ v r)(e:HE ob v=some p)
  (g:∀a rs k,r=.ref a→h.get? a=some (aN rs k)→IntsAre rs p.2→G):G:=
 dD e (fun q ew e=>hv.cW ew fun rs a k b hx er=>g a rs k er (I.frz _ _ b) (af e▸hx))
  fun _ e=>aA e fun vs es e=>aA e fun l el e=>lG I hv es fun a rs k er ha hvs=>g a rs k er ha (af e▸iJ hvs el)
theorem qt{cx:Cx}{H:HP}{ρ:List Addr}{ae:a6}{s:Shared}{σ:St}{rs:List Value}{xs:List Int}{k:Bool}(N:aJ (pm w T) base cx H ρ σ ae s.heap)(hx:IntsAre rs xs) :
  aJ (pm w T) base cx (H.and s.heap.objs.size (aN rs 0)) ρ σ ae (s.heap.push (aN rs 0))∧aX base H ρ s (H.and s.heap.objs.size (aN rs 0)) ρ {s with heap:=s.heap.push (aN rs 0)}∧aj (pm w T) (H.and s.heap.objs.size (aN rs 0)) ρ (.irow k xs) (.ref s.heap.objs.size):=
 ⟨N.push _,N.later _,.irow HP.new hx⟩
theorem mj(lo hi:Option Nat)(n:Nat):PySem.Builtin.Str.strSliceIndices (gJ lo) (gJ hi) 1 n=sliceRange ((min (lo.getD 0) n:Nat):Int) ((min (hi.getD n) n:Nat):Int) 1:=by
 rw[←tT,←uw];rfl
theorem u6(a b:Nat):sliceRange (a:Int) (b:Int) 1=(List.range (b - a)).map (a+·):=by
 unfold sliceRange
 simp only [show(1:Int) > 0 by decide,if_true]
 have e:(if(a:Int) < b then((b:Int) - a+1 - 1) / 1 else 0).toNat=b - a:=by
  rw[Int.ediv_one]
  by_cases q:(a:Int) < b
  ·rw[if_pos q];lia
  ·rw[if_neg q];lia
 rw[e]
 apply List.map_congr_left
 intro k _
 lia
theorem Cz(l:List Nat)(a:Nat):∀n,((List.range n).map (a+·)).filterMap (fun i=>l[i]?)=(l.drop a).take n:=by
  intro n
  induction n with
  |zero=>simp
  | succ n ih=>
    rw[List.range_succ,List.map_append,List.filterMap_append,ih,List.take_add_one,List.getElem?_drop]
    simp only [List.map_cons,List.map_nil,List.filterMap_cons,List.filterMap_nil]
    cases l[a+n]? <;> rfl
theorem AM(x:Str)(lo hi:Option Nat):Txt.slice x (gJ lo) (gJ hi)=⟨(cut x.cps.toList lo hi).toArray⟩:=by
 have hx:x.length=x.cps.toList.length:=by simp[Str.length]
 have key:(PySem.Builtin.Str.strSliceIndices (gJ lo) (gJ hi) 1 x.length).filterMap (x.cps[·]?)=cut x.cps.toList lo hi:=by
  rw[mj,u6,gX,←Cz,hx]
  simp
 unfold Txt.slice
 show(if(_&&(PySem.Builtin.Str.strSliceIndices (gJ lo) (gJ hi) 1 x.length).length==x.length)=true then x else _)=_
 rw[beq_self_eq_true,Bool.true_and]
 by_cases h:((PySem.Builtin.Str.strSliceIndices (gJ lo) (gJ hi) 1 x.length).length==x.length)=true
 ·rw[if_pos h]
  have hl:(PySem.Builtin.Str.strSliceIndices (gJ lo) (gJ hi) 1 x.length).length=x.length:=by simpa using h
  rw[mj,u6]at hl
  simp only [List.length_map,List.length_range]at hl
  have:cut x.cps.toList lo hi=x.cps.toList:=by
   rw[gX,←hx]
   have h0:min (lo.getD 0) x.length=0:=by lia
   have h1:min (hi.getD x.length) x.length=x.length:=by lia
   rw[h0,h1,List.drop_zero,Nat.sub_zero,hx,List.take_length]
  rw[this]
 ·rw[if_neg h,key]
theorem I6{α:Type}{l:List α}{lo hi:Option Nat}{x:α}(h:x∈cut l lo hi):x∈l:=by
 rw[gX]at h
 exact List.mem_of_mem_drop (List.mem_of_mem_take h)
theorem Be{x:Str}{lo hi:Option Nat}(h:PyData.strOk x=true):PyData.strOk (⟨(cut x.cps.toList lo hi).toArray⟩:Str)=true:=by
 unfold PyData.strOk at h ⊢
 rw[←Array.all_toList,List.all_eq_true]at h ⊢
 exact fun y hy=>h y (I6 hy)
theorem y7(o:Option Nat):gJ o=o.map Int.ofNat:=by cases o <;> rfl
theorem AU{cx:Cx}{H:HP}{ρ:List Addr}{ae:a6}{σ:St}{s:Shared}{b:Array UInt8}{t:Tok}{vl vu:Value}{S:Addr}{value:Expr}{el eu:Option Expr}{p:Pos}{lo hi:Option Nat}{kk:Bool}{Q:V→St→Prop}{Q':Value→Shared→Prop}{EE:Value→Shared→Prop}
  (N:aJ (pm w T) base cx H ρ σ ae s.heap) (hslice:Heap.IsSliceOf s.heap S vl vu .none) (pl:IsPart vl (gJ lo)) (pu:IsPart vu (gJ hi)) (hf:bN (aF b).length=true) (h:Q (.bytes kk (cut (aF b) lo hi)) σ) (a:dN w T base cx ae H ρ s Q Q') :
  wpAny (model prog w) cx.A (subscriptTail value (.Slice el eu none p) (.bytes b t) (.ref S)) Q' EE s:=by
 have hl:(aF b).length=b.size:=by unfold aF;rw[List.length_map,Array.length_toList]
 have hsz:b.size≤sizeLine:=by rw[←hl];exact eJ hf
 refine kg (typeIs_bytes _ _ _) FB.slot_bytes_getitem.lookup rfl (getItem_meets (typeIs_bytes _ _ _) (by decide) FB.slot_bytes_getitem FB.entry_bytes_getitem (FB.args_bytes_getitem_2 _ _) (KBc.meets_slice2 b t _ pl pu)
  ⟨hslice,Nat.le_trans (KBc.size_picked_le b _ _) hsz,fun t' k=>?_⟩)
 have e:aF (KBy.picked b (gJ lo) (gJ hi))=cut (aF b) lo hi:=by
  have z:aF (KBy.picked b (gJ lo) (gJ hi))=_:=KBc.ints_picked (b:=b) (ks:=aF b) rfl (gJ lo) (gJ hi)
  rw[z,gX,y7,y7]
  cases lo <;> cases hi <;> simp only [Option.map,Option.elim,Option.getD,Int.ofNat_eq_natCast,clipAt_nat,Nat.min_self,Nat.zero_min]
 have q:aj (pm w T) H ρ (.bytes kk (aF (KBy.picked b (gJ lo) (gJ hi)))) (.bytes (KBy.picked b (gJ lo) (gJ hi)) t'):=.bytes
 rw[e]at q
 exact a _ _ σ H ρ _ N .toks q h
theorem pQ{cx:Cx}{H:HP}{ρ:List Addr}{ae:a6}{σ:St}{s:Shared}{ad:Addr}{rs:List Value}{k:Nat}{xs:List Int}{vl vu:Value}{S:Addr}{value:Expr}{el eu:Option Expr}{p:Pos}{lo hi:Option Nat}{kb:Bool}{Q:V→St→Prop}{Q':Value→Shared→Prop}{EE:Value→Shared→Prop}
  (N:aJ (pm w T) base cx H ρ σ ae s.heap) (hslice:Heap.IsSliceOf s.heap S vl vu .none) (pl:IsPart vl (gJ lo)) (pu:IsPart vu (gJ hi)) (hob:s.heap.get? ad=some (aN rs k)) (hx:IntsAre rs xs) (hl:xs.length≤1000) (h:Q (.irow kb (cut xs lo hi)) σ) (a:dN w T base cx ae H ρ s Q Q') :
  wpAny (model prog w) cx.A (subscriptTail value (.Slice el eu none p) (.ref ad) (.ref S)) Q' EE s:=by
 have hL:s.heap.IsList ad rs.toArray:=⟨_,hob,rfl,_,rfl⟩
 refine kg hL.typeIs list_getitem_lookup rfl (wpAny_getItem_list_slice hL hslice pl pu .none (by simp) ?_ (by rw[List.size_toArray,hx.length];exact Nat.le_trans hl (by rw[sizeLine_eq];decide)))
 rw[xY]
 refine kD (qt (k:=kb) N (tc lo hi hx)) fun aI aG bu=>?_
 exact a _ _ σ _ ρ _ aI aG bu h
theorem A5{cx:Cx}{H:HP}{ρ:List Addr}{ae:a6}{σ:St}{s:Shared}{ad:Addr}{rs:List Value}{k:Nat}{vs:List V}{vl vu:Value}{S:Addr}{value:Expr}{el eu:Option Expr}{p:Pos}{lo hi:Option Nat}{Q:V→St→Prop}{Q':Value→Shared→Prop}{EE:Value→Shared→Prop}
  (N:aJ (pm w T) base cx H ρ σ ae s.heap) (hslice:Heap.IsSliceOf s.heap S vl vu .none) (pl:IsPart vl (gJ lo)) (pu:IsPart vu (gJ hi)) (hob:s.heap.get? ad=some (aN rs k)) (hvs:ak (pm w T) H ρ vs rs) (hf:bN vs.length=true) (h:bS σ.ob (.list (cut vs lo hi)) fun v ob=>Q v ⟨σ.fm,ob⟩) (a:dN w T base cx ae H ρ s Q Q') :
  wpAny (model prog w) cx.A (subscriptTail value (.Slice el eu none p) (.ref ad) (.ref S)) Q' EE s:=by
 have hL:s.heap.IsList ad rs.toArray:=⟨_,hob,rfl,_,rfl⟩
 refine kg hL.typeIs list_getitem_lookup rfl (wpAny_getItem_list_slice hL hslice pl pu .none (by simp) ?_ (by rw[List.size_toArray,←a9 hvs];exact eJ hf))
 rw[xY]
 refine nU (gN (rs:=cut rs lo hi) N (Ac lo hi hvs) h) fun v σ' H' ρ' aI aG bu aK=>?_
 exact a v _ σ' H' ρ' _ aI aG bu aK
theorem AV{A:Around}{s:Shared}{x:Str}{t:Tok}{vl vu:Value}{lo hi:Option Nat}{Q':Value→Shared→Prop}{EE:Value→Shared→Prop}(pl:IsPart vl (gJ lo))(pu:IsPart vu (gJ hi))(hf:bN x.length=true)
  (q:∀(h':Heap) (t':Tok) (k:Nat),(∀b o,s.heap.get? b=some o→h'.get? b=some o)→Q' (.str ⟨(cut x.cps.toList lo hi).toArray⟩ t') {s with heap:=h',toks:=k}) :
  ItemOn (model prog w) A EE (.str x t) (.ref s.heap.objs.size) Q' {s with heap:=s.heap.push {cls:=.type "slice",data:=.fields #[vl,vu,.none]}}:=by
 have hP:KeptH fun h'=>∀b o,s.heap.get? b=some o→h'.get? b=some o:=fun h' ob hk b o e=>Heap.get?_push_of_some _ (hk b o e)
 rw[←AM]at q
 cases lo <;> cases hi <;> cases pl <;> cases pu
 ·exact SBH.sliceItem_nn hP (fun _ _ e=>e) q (eJ hf)
 ·exact SBH.sliceItem_ns hP (fun _ _ e=>e) q (eJ hf)
 ·exact SBH.sliceItem_sn hP (fun _ _ e=>e) q (eJ hf)
 ·exact SBH.sliceItem_ss hP (fun _ _ e=>e) q (eJ hf)
theorem B0{cx:Cx}{H:HP}{ρ:List Addr}{ae:a6}{σ:St}{s:Shared}{o:V}{ro vl vu:Value}{value:Expr}{el eu:Option Expr}{p:Pos}{lo hi:Bd}{Q:V→St→Prop}{Q':Value→Shared→Prop}{EE:Value→Shared→Prop}
  (N:aJ (pm w T) base cx H ρ σ ae s.heap) (ho:aj (pm w T) H ρ o ro) (pl:IsPart vl (gJ (yz lo))) (pu:IsPart vu (gJ (yz hi))) (h:DI σ.ob o lo hi fun v ob=>Q v ⟨σ.fm,ob⟩) (a:dN w T base cx ae H ρ s Q Q') :
  wpAny (model prog w) cx.A (subscriptTail value (.Slice el eu none p) ro (.ref s.heap.objs.size)) Q' EE {s with heap:=s.heap.push {cls:=.type "slice",data:=.fields #[vl,vu,.none]}}:=by
 refine bq N.inv fun m mc I F=>?_
 have hslice:=Heap.IsSliceOf.new s.heap vl vu .none
 have up:∀b o,s.heap.get? b=some o→(s.heap.push {cls:=.type "slice",data:=.fields #[vl,vu,.none]}).get? b=some o:=fun b o e=>Heap.get?_push_of_some _ e
 have N':=N.heap up
 have a':dN w T base cx ae H ρ {s with heap:=s.heap.push {cls:=.type "slice",data:=.fields #[vl,vu,.none]}} Q Q':=fun v r σ' H' ρ' s' aI aG=>a v r σ' H' ρ' s' aI ⟨aG.le,aG.new,aG.grows,aG.gens,aG.drawn,aG.os⟩
 refine d8 h (fun q e h=>ho.cY e fun b t er eb=>c7 h fun hf h=>?_) fun _ h=>d8 h (fun q e h=>ho.cW e fun rs ad k x hx er=>c7 h fun hf h=>?_) fun _ h=>d8 h (fun x e h=>ho.cK e fun t hx er=>bD h fun hf h=>?_)
  fun _ h=>aM h fun vs es h=>bD h fun hf h=>lG I ho es fun ad rs k er hob hvs=>pn h (fun _ h=>?_) fun _ h=>aM h fun l el h=>?_
 all_goals rw[er]
 ·rw[eb]at hf h;exact AU N' hslice pl pu hf h a'
 ·exact pQ N' hslice pl pu (up _ _ (I.frz _ _ x)) hx (Nat.le_of_ble_eq_true hf) h a'
 ·refine dT (AV (prog:=prog) (w:=w) (A:=cx.A) (EE:=EE) (t:=t) (Q':=Q') pl pu hf fun h' t' k hk=>a _ _ σ H ρ _ (N.heap hk) .heap (.str (Be hx)) h) fun Ty id g1 g2 g3=>?_
  exact kg g2 g1 rfl g3
 ·exact A5 N' hslice pl pu (up _ _ hob) hvs hf h a'
 ·have hx:=iJ hvs el
  exact pQ N' hslice pl pu (up _ _ hob) hx (by rw[←hx.length,←a9 hvs];exact Nat.le_of_ble_eq_true hf) h a'
theorem gT{l:List Env}{ae frs':a6}(k:∀p∈ae,p∈frs')(h:cz l ae):cz l frs':=⟨fun env he=>
 let ⟨h1,L,φ,h2,h3,h4⟩:=h.1 env he;⟨h1,L,φ,h2,k _ h3,h4⟩,fun q hq=>k _ (h.2 q hq)⟩
theorem nk{l:List Env}{p:Addr×Fp}{ae:a6}(h:cz l ae):cz l (p::ae):=⟨fun env he=>
 let ⟨h1,L,φ,h2,h3,h4⟩:=h.1 env he;⟨h1,L,φ,h2,.tail _ h3,h4⟩,fun q hq=>.tail _ (h.2 q hq)⟩
theorem aJ.enter{P:Pm}{cx:Cx}{H:HP}{ρ:List Addr}{σ:St}{ae:a6}{h h':Heap}(N:aJ P base cx H ρ σ ae h){φ:Fp}(hn:∃o,h'.get? h.objs.size=some o∧φ.φ H o)(k:∀b o,h.get? b=some o→h'.get? b=some o):aJ P base cx H ρ σ ((h.objs.size,φ)::ae) h':=
 let ⟨m,mc,I,F⟩:=N.inv
 ⟨⟨m,mc,(I.enter2 hn k).perm (List.Perm.cons _ List.perm_middle.symm),F⟩,N.len,nk N.outer,N.self.imp id fun⟨ψ,h1,h2⟩=>⟨ψ,.tail _ h1,h2⟩⟩
structure f7(cx:Cx)(ae:a6):Prop where
 outer:cz cx.outer ae
 self:cx.L0=cx.L∨∃φ,(cx.L0,φ)∈ae∧dj φ
theorem aJ.home{P:Pm}{cx:Cx}{H:HP}{ρ:List Addr}{σ:St}{ae:a6}{h:Heap}(N:aJ P base cx H ρ σ ae h):f7 cx ae:=⟨N.outer,N.self⟩
theorem f7.more{cx:Cx}{ae:a6}{p:Addr×Fp}(x:f7 cx ae):f7 cx (p::ae):=⟨nk x.outer,x.self.imp id fun⟨ψ,h1,h2⟩=>⟨ψ,.tail _ h1,h2⟩⟩
theorem aJ.iter{P:Pm}{cx:Cx}{H:HP}{ρ:List Addr}{σ:St}{ae:a6}{h h':Heap}{J:Addr}{φ φ':Fp}(N:aJ P base cx H ρ σ ((J,φ)::ae) h)(hm:f7 cx ae)(k:∀b o,b≠J→h.get? b=some o→h'.get? b=some o)(hJ:∃o,h'.get? J=some o∧φ'.φ H o):aJ P base cx H ρ σ ((J,φ')::ae) h':=
 let ⟨m,mc,I,F⟩:=N.inv
 ⟨⟨m,mc,((I.perm (List.Perm.cons _ List.perm_middle)).iter k hJ).perm (List.Perm.cons _ List.perm_middle.symm),F⟩,N.len,hm.more.outer,hm.more.self⟩
theorem aJ.past{P:Pm}{cx:Cx}{H:HP}{ρ:List Addr}{σ:St}{ae:a6}{h h':Heap}{J:Addr}{φ:Fp}(N:aJ P base cx H ρ σ ((J,φ)::ae) h)(hm:f7 cx ae)(k:∀b o,b≠J→h.get? b=some o→h'.get? b=some o):aJ P base cx H ρ σ ae h':=
 let ⟨m,mc,I,F⟩:=N.inv
 ⟨⟨m,mc,(I.perm (List.Perm.cons _ List.perm_middle)).past k,F⟩,N.len,hm.outer,hm.self⟩
theorem aJ.leave{P:Pm}{cx:Cx}{H:HP}{ρ:List Addr}{σ:St}{ae:a6}{h:Heap}{J:Addr}{φ:Fp}(N:aJ P base cx H ρ σ ((J,φ)::ae) h)(hm:f7 cx ae):aJ P base cx H ρ σ ae h:=N.past hm fun _ _ _ e=>e
end
end
section
section
variable {prog:Program}{w:World}{T:Nat→V}{base:Heap}{c:df}{K:Frag}{E:Ev}{n:Nat}
theorem ou{P:Pm}{H:HP}{ρ:List Addr}{vs ws:List V}{rs ts:List Value}(a:ak P H ρ vs rs)(b:ak P H ρ ws ts):ak P H ρ (bJ vs ws) (rs++ts):=by rw[rr];exact i4 a b
theorem Kd{x:Int}(h:RO x=true):x=0:=kF h fun n en h=>by rw[gM en,Nat.eq_of_beq_eq_true h];rfl
theorem Ol{x:Int}(h:VP x=true):x=1:=kF h fun n en h=>by rw[gM en,Nat.eq_of_beq_eq_true h];rfl
theorem wz{k:Bool}{x:Int}{p q:Prop}(h:Kk k x p q):(x=0∧p)∨(x=1∧q):=by
  cases k with
  |true=>exact pn (b:=RO x) h (fun e h=>.inl ⟨Kd e,h⟩) fun _ h=>bD h fun e h=>.inr ⟨Ol e,h⟩
  | false=>
    refine kD h fun e h1 h2=>?_
    exact e.elim (fun e=>.inl ⟨e,h1 e⟩) fun e=>.inr ⟨e,h2 e⟩
theorem zm{cx:Cx}{H:HP}{ρ:List Addr}{ae:a6}{σ:St}{s:Shared}{x y:V}{rx ry:Value}{Q:V→St→Prop}{Q':Value→Shared→Prop}{EE:Value→Shared→Prop}(N:aJ (pm w T) base cx H ρ σ ae s.heap)
  (hx:aj (pm w T) H ρ x rx) (hy:aj (pm w T) H ρ y ry) (h:Ml σ.ob x y fun v ob=>Q v ⟨σ.fm,ob⟩) (a:dN w T base cx ae H ρ s Q Q'):wpAny (model prog w) cx.A (binaryOp .Add rx ry) Q' EE s:=by
 refine bq N.inv fun m mc I F=>?_
 refine aM h fun p e1 h=>aM h fun q e2 h=>c7 h fun h1 h=>az h1 fun l1 l2=>wW I hx e1 fun ad rs j er ho hr=>wW I hy e2 fun bd ts j' es ho' hr'=>?_
 have z1:=Nat.le_of_ble_eq_true l1
 have z2:=Nat.le_of_ble_eq_true l2
 rw[←hr.length]at z1
 rw[←hr'.length]at z2
 rw[er,es]
 refine PySem.P.add_list (n:=j) (n2:=j') (items:=rs.toArray) (items2:=ts.toArray) ho ho' ?_ (by rw[List.size_toArray,List.size_toArray,sizeLine_eq];lia)
 rw[show rs.toArray++ts.toArray=(rs++ts).toArray from List.append_toArray ..]
 have hrs:IntsAre (rs++ts) (bJ p.2 q.2):=by rw[rr];exact hr.append hr'
 refine kD (qt (k:=aH p.1 q.1) N hrs) fun aI aG bu=>?_
 exact a _ _ ⟨σ.fm,σ.ob⟩ _ ρ _ aI aG bu h
theorem xF{P:Pm}{H:HP}{ρ:List Addr}{ob:Tr}{v:V}{r:Value}{p:Bool×List V}(hv:aj P H ρ v r)(e:kq ob v=some p)(b:p.1=true):aj P H ρ (.tup p.2) r:=by
 have no (vs:List V) (e:some (false,vs)=some p):False:=by rw[←af e]at b;cases b
 exact dD e (fun vs e1 e=>by rw[←af e];exact L6 e1▸hv) fun _ e=>dD e (fun vs _ e=>(no _ e).elim) fun _ e=>aA e fun i _ e=>dD e (fun vs _ e=>(no _ e).elim) fun _ e=>aA e fun u _ e=>aA e fun vs _ e=>(no _ e).elim
section
variable {cx:Cx}{H:HP}{ρ:List Addr}{ae:a6}{σ:St}{s:Shared}{Q:V→St→Prop}{Q':Value→Shared→Prop}{EE:Value→Shared→Prop}
theorem HY{x y:V}{rx ry:Value}{p q:Bool×List V}(N:aJ (pm w T) base cx H ρ σ ae s.heap)(hx:aj (pm w T) H ρ x rx)(hy:aj (pm w T) H ρ y ry)(e1:kq σ.ob.tr x=some p)(e2:kq σ.ob.tr y=some q)
  (h:OB σ.ob p.1 q.1 p.2 q.2 fun v ob=>Q v ⟨σ.fm,ob⟩) (a:dN w T base cx ae H ρ s Q Q'):wpAny (model prog w) cx.A (binaryOp .Add rx ry) Q' EE s:=by
 refine bq N.inv fun m mc I F=>?_
 refine bD h fun hf h=>az hf fun hf1 hf2=>iW I hx e1 fun ad rs k er ho hv=>iW I hy e2 fun bd ts k' es ho' hw=>?_
 have z1:=Nat.le_of_ble_eq_true hf1
 have z2:=Nat.le_of_ble_eq_true hf2
 rw[a9 hv]at z1
 rw[a9 hw]at z2
 refine pn h (fun t1 h=>bD h fun t2 h=>?_) fun t1 h=>bD h fun t2 h=>?_
 ·have tx:=xF hx e1 t1
  have ty:=xF hy e2 t2
  rw[t1]at ho
  rw[t2]at ho'
  rw[er]at tx ⊢
  rw[es]at ty ⊢
  refine dT N.ns fun m mc I F hns=>?_
  have hsz:rs.length+ts.length≤sizeLine:=by rw[sizeLine_eq];lia
  refine add_tuples (eW hns) iF ⟨_,ho,rfl,_,rfl⟩ ⟨_,ho',rfl,_,rfl⟩ (fun e=>?_) (fun e1 e2=>?_) (fun _ _ h' F' N'=>?_) hsz
  ·rw[e]at hv
   rw[List.length_eq_zero_iff.mp (a9 hv)]at h
   exact a _ _ σ H ρ s N .refl ty h
  ·rw[e2]at hw
   rw[List.length_eq_zero_iff.mp (a9 hw),rr,List.append_nil]at h
   exact a _ _ σ H ρ s N .refl tx h
  ·refine bC (jb (tk:=s.toks) N (kj (pre:=[_]) N') (jg hns F') gK (N' _ (.head _)).1) fun aI aG=>?_
   exact a _ _ σ _ ρ _ aI aG (.tup HP.new (ou (hv.mono HP.le .refl) (hw.mono HP.le .refl))) h
 ·rw[t1]at ho
  rw[cX t2]at ho'
  rw[er,es]
  refine PySem.P.add_list (n:=k) (n2:=k') (items:=rs.toArray) (items2:=ts.toArray) ho ho' ?_ (by rw[List.size_toArray,List.size_toArray,sizeLine_eq];lia)
  rw[show rs.toArray++ts.toArray=(rs++ts).toArray from List.append_toArray ..]
  refine nU (gN N (ou hv hw) h) fun v σ' H' ρ' N' L' R' h'=>?_
  exact a v _ σ' H' ρ' _ N' L' R' h'
theorem Gd{ad:Addr}{rs:List Value}{k:Nat}{x:Int}{u:Tok}(N:aJ (pm w T) base cx H ρ σ ae s.heap)(ho:s.heap.get? ad=some (aN rs k))(hf:rs.length≤200)(hx:x=0∨x=1)
  (q:∀D h',(∀b o,b≠cx.L→s.heap.get? b=some o→h'.get? b=some o)→(∀m,s.heap.Ns cx.L m→h'.Ns cx.L m)→s.heap.get? D=none→h'.get? D=some (aN (if x=1 then rs else[]) 0)→Q' (.ref D) {s with heap:=h'}):wpAny (model prog w) cx.A (binaryOp .Mult (.ref ad) (.int x u)) Q' EE s:=by
 refine dT N.ns fun m mc I F hns=>?_
 refine KMa.mul (ws:=if x=1 then rs else[]) (eW hns) iF ⟨_,ho,rfl,_,rfl⟩ ?_ ?_ ?_ ?_ fun D h' F' N' hl=>q D h' (kj (pre:=[_]) N') (jg hns F') (tN hl (N' _ (.head _)).2.1) (N' _ (.head _)).1
 ·rcases hx with rfl|rfl <;> decide
 ·rcases hx with rfl|rfl <;> decide
 ·rcases hx with rfl|rfl
  ·simp
  ·simp;lia
 ·rcases hx with rfl|rfl <;> simp
theorem Hn{x y:V}{rx ry:Value}{p:Bool×List V}(N:aJ (pm w T) base cx H ρ σ ae s.heap)(hx:aj (pm w T) H ρ x rx)(hy:aj (pm w T) H ρ y ry)(e1:kq σ.ob.tr x=some p)(b1:p.1=false)
  (h:PU p.2 y σ Q) (a:dN w T base cx ae H ρ s Q Q'):wpAny (model prog w) cx.A (binaryOp .Mult rx ry) Q' EE s:=by
 refine bq N.inv fun m mc I F=>?_
 refine bD h fun hf h=>aM h fun i ei h=>hy.cI ei fun t ey=>iW I hx e1 fun ad rs k er ho hv=>?_
 have hf:=Nat.le_of_ble_eq_true hf
 rw[a9 hv]at hf
 rw[b1]at ho
 rw[er,ey]
 refine pn h (fun _ h=>(wz h).elim (fun⟨e,h⟩=>?_) fun⟨e,h⟩=>?_) fun _ h=>aM h fun l el h=>c7 h fun h1 h=>?_
 ·refine Gd N ho hf (.inl e) fun D h' k1 k2 k3 k4=>?_
  rw[e,if_neg (by decide)]at k4
  refine pN (g9 (tk:=s.toks) N k1 k2 k3 k4 .nil h) fun v σ' ρ' aI aG bu aK=>?_
  exact a v _ σ' H ρ' _ aI aG bu aK
 ·refine Gd N ho hf (.inr e) fun D h' k1 k2 k3 k4=>?_
  rw[if_pos e]at k4
  refine pN (g9 (tk:=s.toks) N k1 k2 k3 k4 hv h) fun v σ' ρ' aI aG bu aK=>?_
  exact a v _ σ' H ρ' _ aI aG bu aK
 ·have hi:=iJ hv el
  have hx01:i.2=0∨i.2=1:=iV h1 (fun e _=>.inl (eq_of_beq e)) fun _ e=>.inr (eq_of_beq e)
  refine Gd N ho hf hx01 fun D h' k1 k2 k3 k4=>?_
  refine bC (jb (tk:=s.toks) N k1 k2 k3 k4) fun aI aG=>?_
  refine a _ _ σ _ ρ _ aI aG (.irow HP.new ?_) h
  unfold gA
  rcases hx01 with e|e
  ·rw[e];exact .nil
  ·rw[e];exact hi
theorem Mh{op:Operator}{x y:V}{rx ry:Value}(N:aJ (pm w T) base cx H ρ σ ae s.heap)
  (hx:aj (pm w T) H ρ x rx) (hy:aj (pm w T) H ρ y ry) (h:EC op x y σ Q) (a:dN w T base cx ae H ρ s Q Q'):wpAny (model prog w) cx.A (binaryOp op rx ry) Q' EE s:=by
 have pl {op:Operator} (h:Cb op x y (fun v=>Q v σ)):wpAny (model prog w) cx.A (binaryOp op rx ry) Q' EE s:=Hx h hx hy fun v r t' hv hk=>a v r σ H ρ _ N .toks hv hk
 cases op with
 |Add=>exact d8 h (fun p e1 h=>d8 h (fun q e2 h=>HY N hx hy e1 e2 h a) fun _ h=>zm N hx hy h a) fun _ h=>pn h (fun _ h=>zm N hx hy h a) fun _ h=>pl h
 |Mult=>exact d8 h (fun p e1 h=>bD h fun b h=>Hn N hx hy e1 (cX b) h a) fun _ h=>pl h
 |_=>exact pl h
end
theorem gI{o:Expr}(hb:sk o=true)(name:Str)(env:Env)(whole:Sem Value):attributeBase o name env whole=whole:=by
  cases o with
  | Call f as kw p=>
    cases f with
    | Name=>cases as with
      |cons=>rfl
      |nil=>cases hb
    |_=>rfl
  |_=>first|rfl|cases hb
theorem j7(o:Expr)(name:Str)(pos:Pos)(env:Env):eval (.Attribute o name pos) env=(do
  let ov ←attributeBase o name env (eval o env)
  standAt pos.atName
  let r ←holding [ov] (getAttr ov name true)
  letTemporaryGo o ov r
  pure r):=rfl
theorem jU(o:Expr)(name:Str)(apos pos:Pos)(as:List Expr)(env:Env):eval (.Call (.Attribute o name apos) as [] pos) env=(do
  let ov ←attributeBase o name env (eval o env)
  standAt apos.atName
  methodCall o name apos pos env ov (as.length+0) (backTo pos (starEach as env)) []):=rfl
theorem sq{A:Around}{EE:Value→Shared→Prop}{s:Shared}{env:Env}{o:Expr}{name:Str}{pos:Pos}{Q:Value→Shared→Prop}(hb:sk o=true)
  (h:wpAny (model prog w) A (eval o env) (fun ov s₁=>wpAny (model prog w) A (getAttr ov name true) Q EE s₁) EE s):wpAny (model prog w) A (eval (.Attribute o name pos) env) Q EE s:=by
 refine Attribute_any_ h ?_
 rw[j7,gI hb]
theorem jJ{A:Around}{EE:Value→Shared→Prop}{s:Shared}{env:Env}{o:Expr}{name:Str}{apos pos:Pos}{as:List Expr}{Q:Value→Shared→Prop}(hb:qT o as apos pos=true)(hp:bH d4 as=true)
  (h:∀pl:Sem Bool,wpAny (model prog w) A (eval o env) (fun ov s₁=>wpAny (model prog w) A (getMethod ov name pl) (fun fx s₂=>wpAny (model prog w) A (callWith pos fx.1 fx.2 (backTo pos (starEach as env)) []) Q EE s₂) EE s₁) EE s) :
  wpAny (model prog w) A (eval (.Call (.Attribute o name apos) as [] pos) env) Q EE s:=by
 refine bC (fw hb) fun h1 hb=>?_
 refine bC (fw hb) fun h2 hb=>?_
 refine MethodCall_ (pl:=do return (←importBound o env).getD true) (h _) ?_
 rw[jU,gI h1]
 have bN:methodCallForm (as.length+0) (backTo pos (starEach as env)) []=true:=by
  unfold methodCallForm
  have z:(backTo pos (starEach as env)).all (!·.1)=true:=by
   have:=jl (pos:=pos) (env:=env) hp
   rw[List.all_eq_not_any_not]
   simp only [Bool.not_not]
   rw[this];rfl
  rw[z]
  simp
  exact Nat.le_of_ble_eq_true h2
 unfold methodCall calleeOf methodCallPos
 rw[bN]
 simp only [Bool.not_true,Bool.false_or,hb,if_true,pure_bind]
end
end
section
section
variable {prog:Program}{w:World}{T:Nat→V}{base:Heap}{c:df}{K:Frag}{E:Ev}{n:Nat}
theorem a8.adopt{P:Pm}{h:Heap}{H:HP}{ρ:List Addr}{ae:a6}{ob ob':Tr}{d:Addr}{φ:Fp}{x:O}(I:a8 P base H ρ ((d,φ)::ae) ob h)(hob:∀i,ob'.get i=if i=ρ.length then some x else ob.get i)
  (hx:dJ P H (ρ++[d]) h d x):a8 P base H (ρ++[d]) ae ob' h:=by
 have J:=I.leave
 have nR:d∉ρ:=fun q=>I.rf d q (.head _)
 have nF:d∉ae.map (·.1):=by
  have:=I.frDup
  rw[List.map_cons,List.nodup_cons]at this
  exact this.1
 have⟨nb,nH⟩:=I.frNew _ (.head _)
 refine av (I.frNs _ (.head _)) fun o ho _=>?_
 refine{J with own:=?_,dup:=?_,there:=?_,rf:=?_}
 ·intro i y e
  rw[hob]at e
  by_cases q:i=ρ.length
  ·subst q
   rw[if_pos rfl]at e
   cases e
   exact⟨d,by simp,hx,fun _=>⟨nb,nH,nF⟩⟩
  ·rw[if_neg q]at e
   refine dC (J.own i y e) fun a h1 h2 h3=>?_
   exact⟨a,cF.more _ _ h1,h2.mono (fun _ _ x=>x) .more (fun _ x=>x),h3⟩
 ·exact List.nodup_append.mpr ⟨I.dup,List.nodup_cons.mpr ⟨by simp,List.nodup_nil⟩,fun a ha b hb e=>by
   rw[List.mem_singleton.mp hb]at e
   exact nR (e▸ha)⟩
 ·intro a ha
  rcases List.mem_append.mp ha with q|q
  ·exact J.there a q
  ·rw[List.mem_singleton.mp q];exact⟨_,ho⟩
 ·intro a ha
  rcases List.mem_append.mp ha with q|q
  ·exact J.rf a q
  ·rw[List.mem_singleton.mp q];exact nF
theorem aJ.adopt{P:Pm}{cx:Cx}{H:HP}{ρ:List Addr}{σ:St}{ae:a6}{h:Heap}{d:Addr}{φ:Fp}{x:O}{Q:V→St→Prop}(N:aJ P base cx H ρ σ ((d,φ)::ae) h)(hm:f7 cx ae)(hx:dJ P H (ρ++[d]) h d x)(q:za σ x Q) :
  ∃v σ',aJ P base cx H (ρ++[d]) σ' ae h∧aj P H (ρ++[d]) v (.ref d)∧Q v σ':=by
 refine aM q fun y e q=>?_
 refine bq N.inv fun m mc I F=>?_
 have I2:a8 P base H ρ ((d,φ)::(cx.L,a7 m)::(aP cx.cs mc++ae)) σ.ob.tr h:=I.perm ((List.Perm.cons _ List.perm_middle).trans (List.Perm.swap _ _ _))
 refine⟨_,⟨σ.fm,⟨σ.ob.tr.ins σ.ob.nx x,σ.ob.nx+1⟩⟩,⟨⟨m,mc,I2.adopt ?_ hx,F.mono (fun _ _ e=>e) .more⟩,by rw[List.length_append,←N.len];rfl,hm.outer,hm.self⟩,.ref ?_,q⟩
 ·rw[N.len]
  exact Tr.get_ins x σ.ob.tr σ.ob.nx (by rw[e];rfl)
 ·rw[←N.len];exact List.getElem?_concat_length
structure Pn(P:Pm)(H:HP)(ρ:List Addr)(l:List (V×V))(rs:List (Value×Value)):Prop where
 k:ak P H ρ (l.map (·.1)) (rs.map (·.1))
 v:ak P H ρ (l.map (·.2)) (rs.map (·.2))
noncomputable def gS(env:Env)(pos:Pos):List Expr→List Expr→List (Sem Value×Sem Value)
  |[],_=>[]
  | k::ks,l=>match l with
    |[]=>[]
    |v::vs=>(eval k env,do let x ←eval v env;standAt pos;pure x)::gS env pos ks vs
theorem Dw{env:Env}{pos:Pos}{os:List (Option Expr)}{ks:List Expr}(vs:List Expr)(h:kK os=some ks) :
    (evalEachOpt os env).zip ((evalEach vs env).map fun v=>do let x ←v;standAt pos;pure x)=(gS env pos ks vs).map fun p=>(some p.1,p.2):=by
  induction os generalizing ks vs with
  |nil=>rw[←af h];rfl
  | cons o r ih=>
    refine aA h fun e eo h=>aA h fun l el h=>?_
    rw[eo,←af h]
    cases vs with
    |nil=>rfl
    |cons v vs=>exact congrArg (_::·) (ih vs el)
theorem DX(S:dX prog w T base c.R E n){cx:Cx}{pos:Pos}(O:cx.Ok n){EE:Value→Shared→Prop}{ae:a6}(ks:List Expr):∀(vs:List Expr) σ Q,mU E cx.sc ks vs σ Q→∀H ρ s (Q':List (Value×Value)→Shared→Prop),aJ (pm w T) base cx H ρ σ ae s.heap→f5 prog w base c.R cx ae H s EE→
    (∀l rs σ' H' ρ' s',aJ (pm w T) base cx H' ρ' σ' ae s'.heap→aX base H ρ s H' ρ' s'→Pn (pm w T) H' ρ' l rs→Q l σ'→Q' rs s')→wpAny (model prog w) cx.A (evalPairs (gS cx.env pos ks vs)) Q' EE s:=by
  induction ks with
  |nil=>exact fun vs σ Q h H ρ s Q' N X a=>bD h fun _ h=>evalPairs_nil (a _ _ _ _ _ _ N .refl ⟨.nil,.nil⟩ h)
  | cons k ks ih=>
    intro vs σ Q h H ρ s Q' N X a
    cases vs with
    |nil=>exact h.elim
    | cons v vs=>
      show wpAny _ _ (evalPairs ((eval k cx.env,_)::gS cx.env pos ks vs)) _ _ _
      (with_reducible refine evalPairs_cons ?_)
      refine S.ex cx _ _ _ O h _ _ _ _ _ _ N X fun eN cJ ai aB aE s₁ aC ay aR ao=>?_
      refine wpAny_bind ?_
      refine S.ex cx _ _ _ O ao _ _ _ _ _ _ aC (X.later ay) fun kT dH aw aT bt s₂ aI aG bu aK=>wpAny_bind (wpAny_standAt (wpAny_pure ?_))
      refine ih vs _ _ aK _ _ _ _ aI (X.later (ay.trans aG)) fun l rs bK f9 c0 s₃ bZ cw fk bf=>?_
      exact a ((eN,kT)::l) _ _ _ _ _ bZ ((ay.trans aG).trans cw) ⟨.cons (aR.mono (aG.trans cw).le (aG.trans cw).grows) fk.k,.cons (bu.mono cw.le cw.grows) fk.v⟩ bf
noncomputable def lD(P:Pm)(H:HP)(ρ:List Addr)(aU:List (V×V))(o:Obj):Prop:=∃es n,o=dictOf es n∧cu P H ρ aU es
theorem Ep{k v:V}(l:List (V×V)):(gf k v l).length≤l.length+1:=by
  induction l with
  |nil=>exact Nat.le_refl _
  | cons p r ih=>
    show(bX (bY k p.1) ((p.1,v)::r) (p::gf k v r)).length≤_
    cases bY k p.1 with
    |true=>exact Nat.le_succ _
    |false=>exact Nat.succ_le_succ ih
theorem AS{cx:Cx}{EE:Value→Shared→Prop}{ae:a6}{H:HP}{ρ:List Addr}{σ:St}{d:Addr}(hm:f7 cx ae)(hu:cx.A.units < cLine)(low:(d==sysModules)=false){A':Around}(hA:A'.units=cx.A.units)(l:List (V×V)):∀(rs:List (Value×Value)) (acc es:List (V×V)) (s:Shared) (Q:PUnit→Shared→Prop),
    sI acc l=some es→Pn (pm w T) H ρ l rs→bG acc→aJ (pm w T) base cx H ρ σ ((d,h9 (lD (pm w T) H ρ acc))::ae) s.heap→acc.length+l.length≤15→
    (∀h' tk,bG es→aJ (pm w T) base cx H ρ σ ((d,h9 (lD (pm w T) H ρ es))::ae) h'→Q PUnit.unit {s with heap:=h',toks:=tk})→
    wpAny (model prog w) A' (forIn rs PUnit.unit fun(x:Value×Value) (_:PUnit)=>(do dictSet d x.1 x.2;pure (ForInStep.yield PUnit.unit):Sem (ForInStep PUnit))) Q EE s:=by
  induction l with
  | nil=>
    intro rs acc es s Q e R ap N _ q
    rw[←af e]at q
    cases rs with
    |nil=>rw[List.forIn_nil];exact wpAny_pure (q _ s.toks ap N)
    |cons _ _=>exact R.k.nil' fun e=>nomatch e
  | cons p l ih=>
    intro rs acc es s Q e R ap N hl q
    cases rs with
    |nil=>exact R.k.cons' fun _ _ _ _ e=>nomatch e
    | cons r rs=>
      refine cH e fun hb e=>az hb fun ik ok=>R.k.cons' fun _ _ k1 k2 ek=>R.v.cons' fun _ _ v1 v2 ev=>?_
      refine bC (List.cons.inj ek) fun rq0 rq1=>?_;subst rq0;subst rq1
      refine bC (List.cons.inj ev) fun rq0 rq1=>?_;subst rq0;subst rq1
      refine bq N.inv fun m mc I F=>?_
      obtain⟨o,ho,Q1,Vr,rfl,hr⟩:=I.frNs (d,h9 (lD (pm w T) H ρ acc)) (List.mem_cons_of_mem _ (List.mem_append_right _ (.head _)))
      have D:c9 (pm w T) H ρ s.heap d acc:=⟨⟨_,_,ho,hr⟩,low,ap⟩
      rw[List.length_cons]at hl
      rw[List.forIn_cons]
      refine wpAny_bind (wpAny_bind (nV rfl I D ok ik k1 v1 (by lia) (by rw[sizeLine_eq];lia) fun h' tk D' hs=>wpAny_pure ?_))
      refine bq D'.obj fun es' n' b1 b2=>?_
      have N':aJ (pm w T) base cx H ρ σ ((d,h9 (lD (pm w T) H ρ (gf p.1 p.2 acc)))::ae) h':=N.iter hm (fun b o q1 e=>(hs.2 b q1).trans e) ⟨_,b1,es',n',rfl,b2⟩
      have:=Ep (k:=p.1) (v:=p.2) acc
      exact ih rs (gf p.1 p.2 acc) es {s with heap:=h',toks:=tk} Q e ⟨k2,v2⟩ D'.apart N' (by lia) fun h'' tk' a' N''=>q h'' tk' a' N''
theorem Iv{env:Env}{pos:Pos}{ks:List Expr}:∀{vs:List Expr},ks.length=vs.length→(gS env pos ks vs).length=ks.length:=by
  induction ks with
  |nil=>exact fun _=>rfl
  | cons k ks ih=>intro vs h;cases vs with
    |nil=>cases h
    |cons v vs=>exact congrArg (·+1) (ih (Nat.succ.inj h))
theorem Dx(G:aY prog w T c K base){h:Heap}(k:∀b o,base.get? b=some o→h.get? b=some o):(h.objs.size==sysModules)=false:=by
 refine cf G.low fun so hso=>?_
 exact beq_eq_false_iff_ne.mpr (Nat.ne_of_gt (Heap.lt_size (k _ _ hso)))
noncomputable abbrev T3:Obj:={cls:=.type "dict",data:=.dict #[]}
theorem uK{cx:Cx}{H:HP}{ρ:List Addr}{ae:a6}{s:Shared}{σ:St}(N:aJ (pm w T) base cx H ρ σ ae s.heap):aJ (pm w T) base cx H ρ σ ((s.heap.objs.size,h9 fun o=>o=dictOf [] 0)::ae) (s.heap.push T3):=
 N.enter ⟨_,Heap.get?_push_size _ rfl,rfl⟩ fun b o e=>Heap.get?_push_of_some _ e
theorem D3(G:aY prog w T c K base)(S:dX prog w T base c.R E n){cx:Cx}{p:Pos}{os:List (Option Expr)}{ks:List Expr}{vs:List Expr}(O:cx.Ok (n+1))(eo:kK os=some ks)(h0:gS cx.env p ks vs≠[])(hl:(gS cx.env p ks vs).length≤15)
  {σ:St} {Q:V→St→Prop} (h:mU E cx.sc ks vs σ fun l ai=>yX l ai Q) {H:HP} {ρ:List Addr} {ae:a6} {s:Shared} {Q':Value→Shared→Prop} {EE:Value→Shared→Prop} (N:aJ (pm w T) base cx H ρ σ ae s.heap) (X:f5 prog w base c.R cx ae H s EE) (a:dN w T base cx ae H ρ s Q Q') :
  wpAny (model prog w) cx.A (eval (.Dict os vs p) cx.env) Q' EE s:=by
 rw[arm_eval_Dict,Dw vs eo,dictDisplay_pairs _ h0 (by lia)]
 refine wpAny_bind (wpAny_standAt (wpAny_bind ?_))
 unfold subDict
 refine wpAny_bind (wpAny_alloc ?_)
 refine wpAny_bind (wpAny_holding ?_)
 rw[if_pos hl]
 have low:=Dx G N.keep
 have N':=uK N
 refine wpAny_bind ?_
 refine DX S O.less ks vs σ _ h H ρ _ _ N' (X.more.later (H:=H) (ρ:=ρ) (H':=H) (ρ':=ρ) ⟨fun _ _ e=>e,fun _ _ e=>.inl e,.refl,rfl,rfl,rfl⟩) fun l rs ai aB aE s₁ aC ay aR ao=>?_
 refine bD ao fun hb ao=>aM ao fun es ee ao=>?_
 have hb:=Nat.le_of_ble_eq_true hb
 refine wpAny_holding ?_
 have Q2:aJ (pm w T) base cx aB aE ai ((s.heap.objs.size,h9 (lD (pm w T) aB aE []))::ae) s₁.heap:=by
  refine bq aC.inv fun m mc I F=>?_
  refine av (I.frNs (s.heap.objs.size,h9 fun o=>o=dictOf [] 0) (by simp)) fun o ho hh=>?_
  exact aC.iter N.home (fun _ _ _ e=>e) ⟨o,ho,[],0,hh,.nil⟩
 refine wpAny_bind (AS N.home (by have:=O.units;lia) low rfl l rs [] es s₁ _ ee aR (List.Pairwise.nil) Q2 (by simpa using hb) fun h' tk ap aI=>wpAny_pure (wpAny_pure ?_))
 refine bq aI.inv fun m mc I F=>?_
 obtain⟨o,ho,es',n',rfl,hr⟩:=I.frNs (s.heap.objs.size,h9 (lD (pm w T) aB aE es)) (by simp)
 refine dT (aI.adopt N.home (.dict ho low ap (hr.mono (fun _ _ e=>e) .more)) ao) fun v σ' bZ fk Nn=>?_
 exact wpAny_pure<|a v _ σ' aB (aE++[s.heap.objs.size]) {s₁ with heap:=h',toks:=tk} bZ ⟨ay.le,ay.new,ay.grows.trans .more,ay.gens,ay.drawn,ay.os⟩ fk Nn
theorem Jg(G:aY prog w T c K base)(S:dX prog w T base c.R E n){cx:Cx}{p:Pos}{os:List (Option Expr)}{vs:List Expr}(O:cx.Ok (n+1)){σ:St}{Q:V→St→Prop}(h:(Gr E os vs cx.sc).run σ Q){H:HP}{ρ:List Addr}{ae:a6}{s:Shared}{Q':Value→Shared→Prop}{EE:Value→Shared→Prop}(N:aJ (pm w T) base cx H ρ σ ae s.heap)(X:f5 prog w base c.R cx ae H s EE)(a:dN w T base cx ae H ρ s Q Q') :
    wpAny (model prog w) cx.A (eval (.Dict os vs p) cx.env) Q' EE s:=by
  refine jO h fun ks eo h=>?_
  cases ks with
  | nil=>
    refine iN h fun e1 h=>?_
    have e0:os=[]:=by
      cases os with
      |nil=>rfl
      |cons x r=>exact aA eo fun e _ h=>aA h fun l _ h=>nomatch af h
    rw[e0,cU e1]
    (with_reducible refine wpAny_Dict_empty ?_)
    refine dT ((uK N).adopt N.home (.dict (Heap.get?_push_size _ rfl) (Dx G N.keep) .nil .nil) h) fun v σ' bZ fk Nn=>?_
    exact a v _ σ' H (ρ++[s.heap.objs.size]) _ bZ ⟨fun _ _ e=>e,fun _ _ e=>.inl e,.more,rfl,rfl,rfl⟩ fk Nn
  | cons k ks=>
    refine iN h fun hb h=>az hb fun h1 h2=>?_
    have h1:=Nat.eq_of_beq_eq_true h1
    have h2:=Nat.le_of_ble_eq_true h2
    have l:=Iv (env:=cx.env) (pos:=p) h1
    exact D3 G S O eo (fun e=>by rw[e]at l;cases l) (by rw[l];exact h2) h N X a
end
end
section
section
variable {prog:Program}{w:World}{T:Nat→V}{base:Heap}{c:df}{K:Frag}{E:Ev}{n:Nat}
theorem lF{P:Pm}{cx:Cx}{H:HP}{ρ:List Addr}{ae:a6}{ob:Tr}{h:Heap}{m mc:cq}{x:Str}{a:Addr}(I:a8 P base H ρ ((cx.L,a7 m)::(aP cx.cs mc++ae)) ob h)(ha:(x,a)∈cx.cs):∃o,h.get? a=some o∧o.data=.cell (mc x):=
 I.frNs (a,eE (mc x)) (.tail _ (List.mem_append_left _ (List.mem_map.mpr ⟨(x,a),ha,rfl⟩)))
theorem xy{P:Pm}{H:HP}{ρ:List Addr}{cx:Cx}{fm:List (Str×V)}{m mc:cq}{x:Str}{v:V}{r:Value}(F:jw P H ρ cx fm m mc)(hx:cx.sc.names.lookup x=some .local)(hd:(x==("__debug__":Str))=false)(hv:aj P H ρ v r) :
  jw P H ρ cx (put x v fm) (fun y=>if y=x then some r else m y) mc:=by
 intro y u e
 rw[D8]at e
 by_cases q:y=x
 ·rw[if_pos q]at e
  cases e
  subst q
  exact⟨hd,r,.inl ⟨hx,if_pos rfl⟩,hv⟩
 ·rw[if_neg q]at e
  obtain⟨h2,r',h3,h4⟩:=F y u e
  refine⟨h2,r',?_,h4⟩
  rcases h3 with⟨a,b⟩|b
  ·exact .inl ⟨a,(if_neg q).trans b⟩
  ·exact .inr b
theorem zK{P:Pm}{H:HP}{ρ:List Addr}{cx:Cx}{fm:List (Str×V)}{m mc:cq}{x:Str}{v:V}{r:Value}{a:Addr}(F:jw P H ρ cx fm m mc)(hx:cx.sc.names.lookup x=some .cell)(ha:cx.cl.lookup x=some a)(hd:(x==("__debug__":Str))=false)(hv:aj P H ρ v r) :
  jw P H ρ cx (put x v fm) m (fun y=>if y=x then some r else mc y):=by
 intro y u e
 rw[D8]at e
 by_cases q:y=x
 ·rw[if_pos q]at e
  cases e
  subst q
  exact⟨hd,r,.inr (.inl ⟨hx,⟨a,ha⟩,if_pos rfl⟩),hv⟩
 ·rw[if_neg q]at e
  obtain⟨h2,r',h3,h4⟩:=F y u e
  refine⟨h2,r',?_,h4⟩
  rcases h3 with b|⟨b,d,e⟩|b
  ·exact .inl b
  ·exact .inr (.inl ⟨b,d,(if_neg q).trans e⟩)
  ·exact .inr (.inr b)
theorem sX{P:Pm}{cx:Cx}{H:HP}{ρ:List Addr}{σ:St}{ae:a6}{h h':Heap}{m mc:cq}{x:Str}{v:V}{r:Value}(N:aJ P base cx H ρ σ ae h)(I:a8 P base H ρ ((cx.L,a7 m)::(aP cx.cs mc++ae)) σ.ob.tr h)(F:jw P H ρ cx σ.fm m mc)
  (hx:cx.sc.names.lookup x=some .local) (hd:(x==("__debug__":Str))=false) (hv:aj P H ρ v r) (hn:h'.Ns cx.L (fun y=>if y=x then some r else m y)) (hs:Heap.SameBut cx.L h h'):aJ P base cx H ρ ⟨put x v σ.fm,σ.ob⟩ ae h':=
 ⟨⟨_,mc,I.store hs (dq.mpr hn),xy F hx hd hv⟩,N.len,N.outer,N.self⟩
theorem qR{cs:List (Str×Addr)}{mc:cq}{x:Str}{a:Addr}(hm:(x,a)∈cs)(hn:(cs.map (·.1)).Nodup)(r:Option Value) :
  ∃l1 l2,aP cs mc=l1++(a,eE (mc x))::l2∧aP cs (fun y=>if y=x then r else mc y)=l1++(a,eE r)::l2:=by
 refine jr (List.append_of_mem hm) fun p q rq2=>?_;subst rq2
 refine⟨aP p mc,aP q mc,by simp[aP],?_⟩
 rw[List.map_append,List.map_cons,List.nodup_append]at hn
 refine kD hn fun _ h2 h3=>?_
 rw[List.nodup_cons]at h2
 have e1:∀(l:List (Str×Addr)),(∀y∈l,y.1≠x)→aP l (fun y=>if y=x then r else mc y)=aP l mc:=fun l hl=>by
  unfold aP
  apply List.map_congr_left
  intro y hy
  show(y.2,eE (if y.1=x then r else mc y.1))=_
  rw[if_neg (hl y hy)]
 have ep:=e1 p fun y hy e=>h3 y.1 (List.mem_map.mpr ⟨y,hy,rfl⟩) x (.head _) e
 have eq:=e1 q fun y hy e=>h2.1 (e▸List.mem_map.mpr ⟨y,hy,rfl⟩)
 unfold aP at ep eq ⊢
 rw[List.map_append,List.map_cons,ep,eq]
 show _++(a,eE (if x=x then r else mc x))::_=_
 rw[if_pos rfl]
theorem fX {cx:Cx} {H:HP} {ρ:List Addr} {σ:St} {ae:a6} {s:Shared} {x:Str} {v:V} {r:Value} {n:Nat} {Q:Unit→Shared→Prop} {EE:Value→Shared→Prop} (O:cx.Ok n) (N:aJ (pm w T) base cx H ρ σ ae s.heap) (hx:cg cx.sc x=true) (hv:aj (pm w T) H ρ v r)
    (q:∀h' tk,aJ (pm w T) base cx H ρ ⟨put x v σ.fm,σ.ob⟩ ae h'→Q () {s with heap:=h',toks:=tk}):wpAny (model prog w) cx.A (storeName cx.env x r) Q EE s:=by
  refine bC (n5 hx) fun hl hd=>?_
  refine dT N.ns fun m mc I F hn=>?_
  rcases hl with hl|hl
  · refine wpAny_storeName_local hl hn (fun h' hn' hs=>q h' _ (sX N I F hl hd hv hn' hs)) ?_
    show(cx.sc.kind==.class||_)=false
    rw[O.kind];rfl
  · refine cf (O.cells _ hl) fun a ha=>?_
    have hm:=O.kept _ _ hl ha
    refine av (lF I hm) fun o ho hdo=>?_
    refine wpAny_storeName_cell O.kind hl ha ⟨o,ho,hdo⟩ fun h' hv' hs=>q h' s.toks ?_
    refine bq (qR (mc:=mc) hm O.names (some r)) fun l1 l2 e1 e2=>?_
    refine⟨⟨m,fun y=>if y=x then some r else mc y,?_,zK F hl ha hd hv⟩,N.len,N.outer,N.self⟩
    rw[e1]at I
    rw[e2]
    have p:∀φ:Fp,(((cx.L,a7 m)::(l1++(a,φ)::l2++ae):a6)).Perm ((a,φ)::(cx.L,a7 m)::(l1++l2++ae)):=fun φ=>by
      have:((l1++(a,φ)::l2++ae:a6)).Perm ((a,φ)::(l1++l2++ae)):=by
        rw[List.append_assoc,List.append_assoc,List.cons_append]
        exact List.perm_middle
      exact(this.cons _).trans (List.Perm.swap ..)
    refine((I.perm (p _)).store hs ?_).perm (p _).symm
    refine av hv' fun o' ho' hd'=>?_
    exact⟨o',ho',hd'⟩
theorem gC{P:Pm}{H:HP}{ρ:List Addr}{vs:List V}{rs:List Value}{i:Nat}{r:Value}(h:ak P H ρ vs rs)(e:rs[i]?=some r):∃u,vs[i]?=some u∧aj P H ρ u r:=by
  induction vs generalizing rs i with
  |nil=>exact h.nil' fun er=>by rw[er]at e;cases e
  | cons v vs ih=>
    refine h.cons' fun _ l a b er=>?_
    rw[er]at e
    cases i with
    |zero=>exact⟨v,rfl,af e▸a⟩
    |succ i=>exact(ih b e:∃u,vs[i]?=some u∧_)
theorem yK(n:Nat):∀(i:Int),(GG n i).length=n:=by
 induction n with
 |zero=>exact fun _=>rfl
 |succ n ih=>exact fun i=>congrArg (·+1) (ih (i+1))
theorem G8(n:Nat):∀(i:Int) (j:Nat),j < n→(GG n i)[j]?=some (.int true (i+j)):=by
  induction n with
  |zero=>exact fun _ _ h=>absurd h (Nat.not_lt_zero _)
  | succ n ih=>
    intro i j h
    cases j with
    |zero=>show some (V.int true i)=_;rw[Int.ofNat_zero,Int.add_zero]
    |succ j=>exact(ih (i+1) j (Nat.lt_of_succ_lt_succ h)).trans (congrArg (fun x=>some (V.int true x)) (by lia))
theorem gc{iter:Expr}(h:j4 iter=true)(env:Env)(x:Value):foldedSetIterable iter env x=pure x:=
 nN (b:=j4 iter) (by cases iter <;> first|rfl|trivial) h
theorem oU(k:Nat):Builtin.Range.rangeSize 0 (Int.ofNat k) 1=(k:Int):=by
 unfold Builtin.Range.rangeSize
 simp
 lia
theorem vc{k:Nat}(h:k≤1000):Builtin.Range.small 0 (Int.ofNat k) 1=true:=by
 unfold Builtin.Range.small
 rw[oU]
 simp[Builtin.Range.rangeFitsLong]
 lia
structure Ff(prog:Program)(w:World)(T:Nat→V)(base:Heap)(cx:Cx)(H:HP)(ρ:List Addr)(s:Shared)(ae:a6)(fm:List (Str×V))(ob:bb)(vs:List V)(I:Addr)(fp:List Addr)(Pi:Nat→Value→Prop)(St:Nat→Heap→Prop)(h':Heap)(oI:Obj)(H':HP):Prop where
 walks:Walks prog w cx.A I fp [I] vs.length Pi St
 fp:∀b∈fp,b=I∨∃o,H' b o
 tells:∀i v,i < vs.length→Pi i v→∃u,vs[i]?=some u∧aj (pm w T) H' ρ u v
 there:∀i h,St i h→∃o,h.get? I=some o
 starts:St 0 h'
 now:aJ (pm w T) base cx H' ρ ⟨fm,ob⟩ ((I,h9 (·=oI))::ae) h'
 later:aX base H ρ s H' ρ {s with heap:=h'}
 new:I=s.heap.objs.size
 keep:∀b o,s.heap.get? b=some o→h'.get? b=some o
theorem As{xs:List Int}:∀{j:Nat},(cC xs)[j]?=(xs[j]?).map (V.int false):=by
 induction xs with
 |nil=>exact rfl
 |cons x r ih=>intro j;cases j with|zero=>rfl|succ j=>exact ih
theorem lM(xs:List Int):(cC xs).length=xs.length:=by
 induction xs with
 |nil=>rfl
 |cons x r ih=>exact congrArg (·+1) ih
theorem jG{P:Pm}{H:HP}{ρ:List Addr}{rs:List Value}{xs:List Int}(h:IntsAre rs xs):ak P H ρ (cC xs) rs:=by
 induction h with
 |nil=>exact .nil
 |cons _ _ _ ih=>exact .cons .int ih
theorem om{G:Prop}{cx:Cx}{H:HP}{ρ:List Addr}{ae:a6}{σ:St}{s:Shared}{v:V}{r:Value}{p:List V×bb}(N:aJ (pm w T) base cx H ρ σ ae s.heap)(R:aj (pm w T) H ρ v r)(eo:rh σ.ob v=some p)
  (g:∀ax rs k aT,r=.ref ax→s.heap.get? ax=some (aN rs k)→aJ (pm w T) base cx aT ρ ⟨σ.fm,p.2⟩ ae s.heap→aX base H ρ s aT ρ s→aT ax (aN rs k)→ak (pm w T) aT ρ p.1 rs→G):G:=by
 refine dT N.ns fun m mc I F hn=>?_
 refine dD eo (fun vs e1 e=>R.cL e1 fun rs ax k a b er=>?_) fun _ e=>aA e fun i ei e=>R.cR ei fun ax ha er=>dD e (fun vs e1 e=>(I.at (jq e1) ha).list' fun rs k t1 t2=>?_) fun _ e=>aA e fun u e1 e=>aA e fun vs e2 e=>(I.at (Cj e1) ha).frz' fun q=>q.cL e2 fun rs ax' k a b ea=>?_
 all_goals rw[←af e]at g
 ·exact g ax rs k H er (I.frz _ _ a) N .refl a b
 ·have fC:=I.freeze (v:=.list vs) (jq e1) rfl ha t1 (Tr.get_set (some (.frz (.list vs))) _ _ · (by rw[jq e1];rfl)) (.list HP.new (t2.mono HP.le .refl))
  exact g ax rs k _ er t1 ⟨⟨m,mc,fC,F.mono HP.le .refl⟩,N.len,N.outer,N.self⟩ ⟨fun _ _ e=>.inl e,fun b y e=>e.elim .inl fun⟨q,_⟩=>.inr (q▸(I.apart (jq e1) rfl ha).nb),.refl,rfl,rfl,rfl⟩ HP.new (t2.mono HP.le .refl)
 ·cases ea
  exact g ax rs k H er (I.frz _ _ a) N .refl a b
section
variable {cx:Cx}{H aT:HP}{ρ:List Addr}{ae:a6}{fm fm':List (Str×V)}{ob ob':bb}{s:Shared}{vs:List V}{ax:Addr}{rs:List Value}{k:Nat}{Q:Value→Shared→Prop}{EE:Value→Shared→Prop}
theorem eB{h:Heap}(o:Obj)(b:Addr)(o':Obj)(e:h.get? b=some o'):(h.push o).get? b=some o':=Heap.get?_push_of_some _ e
theorem vr{h:Heap}{a:Addr}{o:Obj}(e:h.get? a=some o):a≠h.objs.size:=Nat.ne_of_lt (Heap.lt_size e)
theorem C2{I a:Addr}{H:HP}{o:Obj}(h:H a o)(b:Addr)(hb:b∈[I,a]):b=I∨∃o,H b o:=by
 rcases List.mem_cons.mp hb with e|hb
 ·exact .inl e
 ·rw[List.mem_singleton.mp hb];exact .inr ⟨_,h⟩
theorem lN(hh:cx.A.handled=none)(t1:s.heap.get? ax=some (aN rs k))(aI:aJ (pm w T) base cx aT ρ ⟨fm,ob⟩ ae s.heap)(aG:aX base H ρ s aT ρ s)(hax:aT ax (aN rs k))(hv:ak (pm w T) aT ρ vs rs)
  (q:∀I fp Pi St h' oI H',Ff prog w T base cx H ρ s ae fm ob vs I fp Pi St h' oI H'→Q (.ref I) {s with heap:=h'}):wpAny (model prog w) cx.A (pyIter (.ref ax)) Q EE s:=by
 have hl:rs.toArray.size=vs.length:=by rw[List.size_toArray];exact(a9 hv).symm
 have W:=Walks.list (prog:=prog) (w:=w) hh s.heap.objs.size ax (vr t1) rs.toArray
 rw[hl]at W
 exact wpAny_pyIter_list (l:=ax) (items:=rs.toArray) ⟨_,t1,rfl,_,rfl⟩ (q _ _ _ _ _ _ aT ⟨W,C2 hax,fun i v hi hp=>gC hv (by rw[←List.getElem?_toArray];exact hp),fun i h st=>st.1.imp fun _ e=>e.1,⟨⟨_,Heap.get?_push_size _ rfl,rfl,rfl⟩,_,Heap.get?_push_of_some _ t1,rfl,_,rfl⟩,
  aI.enter ⟨_,Heap.get?_push_size _ rfl,rfl⟩ (eB _),⟨aG.le,aG.new,aG.grows,rfl,rfl,rfl⟩,rfl,eB _⟩)
theorem Co(hh:cx.A.handled=none)(t1:s.heap.get? ax=some (fJ rs))(N:aJ (pm w T) base cx H ρ ⟨fm,ob⟩ ae s.heap)(hax:H ax (fJ rs))(hv:ak (pm w T) H ρ vs rs)
  (q:∀I fp Pi St h' oI H',Ff prog w T base cx H ρ s ae fm ob vs I fp Pi St h' oI H'→Q (.ref I) {s with heap:=h'}):wpAny (model prog w) cx.A (pyIter (.ref ax)) Q EE s:=by
 have hl:rs.toArray.size=vs.length:=by rw[List.size_toArray];exact(a9 hv).symm
 have W:=Walks.tuple (prog:=prog) (w:=w) hh s.heap.objs.size ax (vr t1) rs.toArray
 rw[hl]at W
 exact wpAny_pyIter_tuple (t:=ax) (items:=rs.toArray) ⟨_,t1,rfl,_,rfl⟩ (q _ _ _ _ _ _ H ⟨W,C2 hax,fun i v hi hp=>gC hv (by rw[←List.getElem?_toArray];exact hp),fun i h st=>st.1.imp fun _ e=>e.1,⟨⟨_,Heap.get?_push_size _ rfl,rfl,rfl⟩,_,Heap.get?_push_of_some _ t1,rfl,_,rfl⟩,
  N.enter ⟨_,Heap.get?_push_size _ rfl,rfl⟩ (eB _),⟨fun _ _ e=>e,fun _ _ e=>.inl e,.refl,rfl,rfl,rfl⟩,rfl,eB _⟩)
theorem wC{b:Array UInt8}{t:Tok}(hh:cx.A.handled=none)(N:aJ (pm w T) base cx H ρ ⟨fm,ob⟩ ae s.heap)
  (q:∀I fp Pi St h' oI H',Ff prog w T base cx H ρ s ae fm ob (cC (aF b)) I fp Pi St h' oI H'→Q (.ref I) {s with heap:=h'}):wpAny (model prog w) cx.A (pyIter (.bytes b t)) Q EE s:=by
 have W:=KBw.walks (prog:=prog) (w:=w) hh s.heap.objs.size b t
 have hl:b.size=(cC (aF b)).length:=by rw[lM];unfold aF;rw[List.length_map,Array.length_toList]
 rw[hl]at W
 refine KBw.pyIter_bytes (q _ _ _ _ _ _ H ⟨W,fun b hb=>.inl (List.mem_singleton.mp hb),fun i v hi hp=>?_,fun i h st=>st.imp fun _ e=>e.1,⟨_,Heap.get?_push_size _ rfl,rfl,rfl⟩,
  N.enter ⟨_,Heap.get?_push_size _ rfl,rfl⟩ (eB _),⟨fun _ _ e=>e,fun _ _ e=>.inl e,.refl,rfl,rfl,rfl⟩,rfl,eB _⟩)
 refine bq hp fun ch u e1 e=>?_
 refine⟨.int false (ch.toNat:Int),?_,e▸.int⟩
 rw[As]
 unfold aF
 rw[List.getElem?_map,Array.getElem?_toList,e1]
 rfl
theorem vC{ra:Addr}{n:Nat}{t u v:Tok}(hh:cx.A.handled=none)(hr:s.heap.get? ra=some (jZ (Int.ofNat n) t u v))(hn:n≤1000)(N:aJ (pm w T) base cx H ρ ⟨fm,ob⟩ ae s.heap)
  (q:∀I fp Pi St h' oI H',Ff prog w T base cx H ρ s ae fm ob (GG n 0) I fp Pi St h' oI H'→Q (.ref I) {s with heap:=h'}):wpAny (model prog w) cx.A (pyIter (.ref ra)) Q EE s:=by
 have hrange:IsRange s.heap ra 0 (Int.ofNat n) 1 t u v:=hr
 refine wpAny_pyIter_range hrange (vc hn) ?_
 rw[oU n]
 have W:=Walks.range (prog:=prog) (w:=w) hh s.heap.objs.size 0 1 n
 have hl:n=(GG n 0).length:=(yK n 0).symm
 have W':Walks prog w cx.A s.heap.objs.size [s.heap.objs.size] [s.heap.objs.size] (GG n 0).length (fun i v=>∃t,v=.int (0+i*1) t) (fun i h=>IsRangeIter h s.heap.objs.size (0+(i:Nat)*1) ((n:Int) - (i:Nat)) 1):=hl▸W
 refine q _ _ _ _ _ _ H ⟨W',fun b hb=>.inl (List.mem_singleton.mp hb),fun i v hi ⟨t,e⟩=>?_,fun i h st=>⟨_,st⟩,(by simpa using Heap.get?_push_size _ rfl),N.enter ⟨_,Heap.get?_push_size _ rfl,rfl⟩ (eB _),⟨fun _ _ e=>e,fun _ _ e=>.inl e,.refl,rfl,rfl,rfl⟩,rfl,eB _⟩
 refine⟨_,G8 n 0 i (by rw[yK]at hi;exact hi),?_⟩
 rw[e,Int.mul_one]
 exact .int
theorem yk {σ:St} {v:V} {r:Value} {p:List V×bb} (hh:cx.A.handled=none)
    (N:aJ (pm w T) base cx H ρ σ ae s.heap) (R:aj (pm w T) H ρ v r) (eo:rX σ.ob v=some p)
    (q:∀I fp Pi St h' oI H',Ff prog w T base cx H ρ s ae σ.fm p.2 p.1 I fp Pi St h' oI H'→Q (.ref I) {s with heap:=h'}):wpAny (model prog w) cx.A (pyIter r) Q EE s:=by
  refine bq N.inv fun m mc I F=>?_
  refine dD eo (fun vs e1 e=>?_) fun _ e=>om N R e fun ax rs k aT er t1 aI aG hax hv=>er▸lN hh t1 aI aG hax hv q
  rw[←af e]at q
  cases v with
  |rng k x=>exact R.rng' fun ra t u v a er=>aA e1 fun n en e=>wu en fun _ en=>cH e fun hn e=>by
                rw[←af e]at q
                rw[show x=Int.ofNat n from en]at a
                rw[er];exact vC hh (I.frz _ _ a) (Nat.le_of_ble_eq_true hn) N q
  |tup=>rw[←af e1]at q;exact R.tup' fun rs a h1 h2 er=>er▸Co hh (I.frz _ _ h1) N h1 h2 q
  |list=>rw[←af e1]at q;exact R.list' fun rs a k h1 h2 er=>er▸lN hh (I.frz _ _ h1) N .refl h1 h2 q
  |irow=>rw[←af e1]at q;exact R.irow' fun rs a k h1 h2 er=>er▸lN hh (I.frz _ _ h1) N .refl h1 (jG h2) q
  |bytes=>rw[←af e1]at q;exact R.bytes' fun b t er eb=>by rw[eb]at q;rw[er];exact wC hh N q
  |_=>cases e1
end
end
end
section
section
variable {prog:Program}{w:World}{T:Nat→V}{base:Heap}{c:df}{K:Frag}{E:Ev}{n:Nat}
theorem wg{all:List (Str×NameKind)}{l:List (Str×NameKind)}(h:kM all l=true):∀x∈l,x.2≠.free∧x.2≠.cell∧(x.2=.local→all.lookup x.1=some .local):=by
  induction l with
  |nil=>exact fun _ m=>absurd m List.not_mem_nil
  | cons p r ih=>
    obtain⟨y,k⟩:=p
    rw[List.forall_mem_cons]
    cases k with
    |«local»=>exact az (b:=kM all r) h fun a b=>⟨⟨fun e=>NameKind.noConfusion e,fun e=>NameKind.noConfusion e,fun _=>by rw[←fM];exact ix a⟩,ih b⟩
    |free=>cases h
    |cell=>cases h
    |_=>exact⟨⟨fun e=>NameKind.noConfusion e,fun e=>NameKind.noConfusion e,fun e=>NameKind.noConfusion e⟩,ih h⟩
theorem BU(e:Expr):oX (ft e) (fun p=>e=.Name p.1 p.2) True:=by cases e <;> first|rfl|trivial
theorem lL{α:Type}{q:Option α}{x:α}{e:Expr}{f:α→Expr}(h:oX q (fun p=>e=f p) True)(eq:q=some x):e=f x:=by cases eq;exact h
theorem dZ{e:Expr}{p}(h:ft e=some p):e=.Name p.1 p.2:=lL (f:=fun p=>.Name p.1 p.2) (BU e) h
theorem Ld{e:Expr}{p}(h:O1 e=some p):e=.Compare p.1 p.2.1 p.2.2.1 p.2.2.2:=lL (f:=fun p=>.Compare p.1 p.2.1 p.2.2.1 p.2.2.2) (by cases e <;> first|rfl|trivial) h
theorem C8{l:List Expr}{e}(h:x1 l=some e):l=[e]:=by
 cases l with
 |nil=>cases h
 |cons a r=>exact cH h fun b h=>by rw[cU b,af h]
theorem sy{k n i:Nat}(e:k=n+1 - i)(h:i < n):n+1 - (i+1) < k:=by
 rw[e,Nat.add_sub_add_right,Nat.succ_sub (Nat.le_of_lt h)]
 exact Nat.lt_succ_self _
theorem xB {G:Prop} {ops:List CmpOp} {rs:List Expr} {p} (h:H3 ops rs=some p) (k1:p.2.2=none→ops=[p.1]→rs=[p.2.1]→G) (k2:∀q,p.2.2=some q→ops=[p.1,q.1]→rs=[p.2.1,q.2]→G):G:=by
  cases ops with
  |nil=>cases h
  | cons op ops=>cases rs with
    |nil=>cases h
    | cons r rs=>cases ops with
      |nil=>exact cH (b:=ju rs) h fun a h=>by rw[←af h]at k1;exact k1 rfl rfl (by rw[cU a])
      | cons gk ops=>cases rs with
        |nil=>cases h
        |cons dH rs=>exact cH (b:=aH (ju ops) (ju rs)) h fun a h=>az a fun a b=>by rw[←af h]at k2;exact k2 _ rfl (by rw[cU a]) (by rw[cU b])
theorem Lr{op:CmpOp}(h:NS op=true):op=.NotEq:=by cases op <;> first|rfl|cases h
theorem NP{e:Expr}{q}(h:VY e=some q):∃p1 p2 p3,e=.Compare (.Name q.1 p1) [.NotEq] [.Name q.2 p2] p3:=
 aA h fun p ep h=>aA h fun a ea h=>aA h fun r er h=>cH h fun hb h=>az hb fun b1 b2=>aA h fun b eb h=>xB er (fun _ e1 e2=>⟨a.2,b.2,p.2.2.2,by rw[Ld ep,dZ ea,e1,Lr b2,e2,dZ eb,←af h]⟩)
  fun q e _ _=>by rw[e]at b1;cases b1
theorem G7{gens:List Comprehension}{p}(h:JZ gens=some p):∃px,gens=[⟨.Name p.1 px,p.2.1,p.2.2,0⟩]:=by
  cases gens with
  |nil=>cases h
  | cons g r=>
    obtain⟨tg,it,ifs,as⟩:=g
    exact cH h fun hb h=>az hb fun b1 b2=>aA h fun q eq h=>⟨q.2,by rw[cU b1,←af h,show as=0 from Kd b2,show tg=_ from dZ eq]⟩
theorem Cp{sc:Scope}(h:isFn sc=true):sc.kind=.function:=by
 unfold isFn at h
 cases e:sc.kind <;> rw[e]at h <;> first|rfl|cases h
noncomputable abbrev Cx.comp(cx:Cx)(csc:Scope)(C:Addr):Cx:={cx with sc:=csc,L:=C,cl:=[],fn:=none,cs:=[]}
theorem pI {csc:Scope} {env:Env} (h:∀x∈csc.names,x.2≠.free):relabel csc env=csc:=by
  unfold relabel
  have:csc.names.map (fun(n,k)=>if(k==NameKind.free&&env.scope.kind==.function&&env.kindOf n==some .cell)then(n,NameKind.cell)else(n,k))=csc.names:=by
    have:∀l:List (Str×NameKind),(∀x∈l,x.2≠NameKind.free)→l.map (fun(n,k)=>if(k==NameKind.free&&env.scope.kind==.function&&env.kindOf n==some .cell)then(n,NameKind.cell)else(n,k))=l:=by
      intro l
      induction l with
      |nil=>intro _;rfl
      | cons x r ih=>
        intro h
        have e:(x.2==NameKind.free)=false:=beq_eq_false_iff_ne.mpr (h x List.mem_cons_self)
        rw[List.map_cons,ih fun y m=>h y (List.mem_cons_of_mem _ m)]
        simp[e]
    exact this _ h
  rw[this]
theorem aJ.noFm{P:Pm}{cx:Cx}{H:HP}{ρ:List Addr}{fm:List (Str×V)}{ob:bb}{ae:a6}{h:Heap}(N:aJ P base cx H ρ ⟨fm,ob⟩ ae h):aJ P base cx H ρ ⟨[],ob⟩ ae h:=
 let ⟨m,mc,I,F⟩:=N.inv
 ⟨⟨m,mc,I,fun _ _ e=>by cases e⟩,N.len,N.outer,N.self⟩
theorem iA{m:cq}:dj (a7 m) where
 nf:=fun _ o ⟨es,ep,e,_⟩ vs q=>by rw[e]at q;cases q
 dat:=fun _ _ o o' e ⟨es,ep,h1,h2⟩=>⟨es,ep,e.trans h1,h2⟩
theorem f7.into{cx:Cx}{ae:a6}(x:f7 cx ae){csc:Scope}{C:Addr}{m mc:cq}:f7 (cx.comp csc C) ((cx.L,a7 m)::(aP cx.cs mc++ae)):=by
 refine⟨gT (fun _ h=>.tail _ (List.mem_append_right _ h)) x.outer,?_⟩
 ·refine .inr ?_
  rcases x.self with e|⟨φ,h1,h2⟩
  ·exact⟨a7 m,by show(cx.L0,_)∈_;rw[e];exact .head _,iA⟩
  ·exact⟨φ,.tail _ (List.mem_append_right _ h1),h2⟩
theorem aJ.permF{P:Pm}{cx:Cx}{H:HP}{ρ:List Addr}{σ:St}{ae frs':a6}{h:Heap}(N:aJ P base cx H ρ σ ae h)(p:ae.Perm frs'):aJ P base cx H ρ σ frs' h:=by
 refine bq N.inv fun m mc I F=>?_
 refine⟨⟨m,mc,I.perm ((List.Perm.append_left _ p).cons _),F⟩,N.len,gT (fun _ h=>p.mem_iff.mp h) N.outer,?_⟩
 ·exact N.self.imp id fun⟨φ,h1,h2⟩=>⟨φ,p.mem_iff.mp h1,h2⟩
theorem aJ.into{P:Pm}{cx:Cx}{H:HP}{ρ:List Addr}{fm:List (Str×V)}{ob:bb}{ae:a6}{h:Heap}{csc:Scope}{C:Addr}{m mc m':cq}(N:aJ P base cx H ρ ⟨fm,ob⟩ ae h)(I:a8 P base H ρ ((cx.L,a7 m)::(aP cx.cs mc++ae)) ob.tr h)
  {h':Heap} (hn:∃o,h'.get? C=some o∧xH m' o) (hC:h.objs.size=C) (k:∀b o,h.get? b=some o→h'.get? b=some o) :
  aJ P base (cx.comp csc C) H ρ ⟨[],ob⟩ ((cx.L,a7 m)::(aP cx.cs mc++ae)) h':=by
 subst hC
 exact⟨⟨m',fun _=>none,I.enter hn k,fun _ _ e=>by cases e⟩,N.len,N.home.into.outer,N.home.into.self⟩
theorem Cx.Ok.comp{cx:Cx}{k:Nat}(O:cx.Ok k){csc:Scope}{C:Addr}(hk:csc.kind=.function)(hp:∀x∈csc.names,x.2≠.cell):(cx.comp csc C).Ok k:=
 ⟨O.frames,O.handled,hk,O.kind0,O.depth,O.units,fun x a _ e=>(by cases e),List.nodup_nil,fun x e=>(by
  have q:csc.names.lookup x=some .cell:=e
  refine bq (List.lookup_eq_some_iff.mp q) fun l1 l2 q _=>?_
  exact absurd rfl (hp (x,.cell) (by rw[q];exact List.mem_append_right _ (.head _)))),fun l _ e=>(by
  have q:csc.names.lookup l.key=some .cell:=e
  refine bq (List.lookup_eq_some_iff.mp q) fun l1 l2 q _=>?_
  exact absurd rfl (hp (l.key,.cell) (by rw[q];exact List.mem_append_right _ (.head _))))⟩
noncomputable abbrev iI(rs:List Value):Obj:=aN rs rs.length
noncomputable def F8(T:Nat→V)(w:World)(base:Heap)(E:Ev)(elt:Expr)(x:Str)(cc:Cx)(D I:Addr)(rest:a6)(vs:List V)(St:Nat→Heap→Prop)(QQ:List V→bb→Prop)(aT:HP)(aE:List Addr)(s₁:Shared)(k:Nat)(s':Shared):Prop:=
  ∃ i ob' H' ρ' oI rs ys,k=vs.length+1 - i∧i≤vs.length∧St i s'.heap∧(u4 E elt cc.sc [] x (vs.drop i) ob' fun zs ob''=>QQ (ys++zs) ob'')∧
    aJ (pm w T) base cc H' ρ' ⟨[],ob'⟩ ((D,h9 (·=iI rs))::(I,h9 (·=oI))::rest) s'.heap∧rs.length=i∧ak (pm w T) H' ρ' ys rs∧aX base aT aE s₁ H' ρ' s'
section
variable {cx cc:Cx}{elt:Expr}{x:Str}{C D I:Addr}{rest:a6}{vs:List V}{fp:List Addr}{Pi:Nat→Value→Prop}{Sw:Nat→Heap→Prop}{QQ:List V→bb→Prop}{aT:HP}{aE:List Addr}{s₁:Shared}{EE:Value→Shared→Prop}
theorem AO{H' iZ:HP}{ρ' jK:List Addr}{eM:St}{rs:List Value}{ys:List V}{y:V}{r:Value}{i:Nat}{oI':Obj}{ao:Heap}{ob':bb}{sJ:Shared}(O':cc.Ok n)(eA:cc.A=cx.A)(hm:f7 cc rest)(W:Walks prog w cx.A I fp [I] vs.length Pi Sw)(hfp:∀b∈fp,b=I∨∃o,H' b o)(hf:vs.length≤1000)
  (hl:rs.length=i) (lt:i < vs.length) (hB:Sw (i+1) ao) (hI':ao.get? I=some oI') (aC:aJ (pm w T) base cc H' ρ' ⟨[],ob'⟩ ((I,h9 (·=oI'))::(D,h9 (·=iI rs))::rest) ao)
  (hv:ak (pm w T) H' ρ' ys rs) (kU:u4 E elt cc.sc [] x (vs.drop (i+1)) eM.ob fun zs ob''=>QQ (ys++y::zs) ob'')
  (kW:aJ (pm w T) base cc iZ jK eM ((I,h9 (·=oI'))::(D,h9 (·=iI rs))::rest) sJ.heap) (hM:∀a o,H' a o→iZ a o) (Vs:cF ρ' jK) (LL:∀h tk,aX base aT aE s₁ iZ jK {sJ with heap:=h,toks:=tk}) (sL:aj (pm w T) iZ jK y r) :
  wpAny (model prog w) cx.A (call (.builtin "list.append") [.ref D,r]) (fun _ Q3=>∃m,m < vs.length+1 - i∧F8 T w base E elt x cc D I rest vs Sw QQ aT aE s₁ m Q3) EE sJ:=by
 refine bq kW.inv fun Np Q4 lR xQ=>?_
 refine av (lR.frNs (D,h9 (·=iI rs)) (List.mem_cons_of_mem _ (List.mem_append_right _ (.tail _ (.head _))))) fun oD hoD eD=>?_
 rw[show oD=iI rs from eD]at hoD
 refine append_at hoD (fun fE kX Q5=>?_) (by rw[List.size_toArray,hl,sizeLine_eq];lia)
 have pO:aJ (pm w T) base cc iZ jK ⟨[],eM.ob⟩ ((D,h9 (·=iI (rs++[r])))::(I,h9 (·=oI'))::rest) fE:=
  (aJ.noFm (fm:=eM.fm) (kW.permF (List.Perm.swap _ _ _))).iter hm.more (fun b o q e=>(kX.2 b q).trans e) ⟨_,Q5,by show _=aN (rs++[r]) (rs++[r]).length;rw[List.length_append];simp[iI,aN,PySem.W.listOf]⟩
 refine⟨_,sy rfl lt,i+1,eM.ob,iZ,jK,oI',rs++[r],ys++[y],rfl,lt,?_,?_,pO,by rw[List.length_append,hl];rfl,i4 (hv.mono hM Vs) (.cons sL .nil),LL _ _⟩
 ·refine bq pO.inv fun _ _ Gu _=>?_
  refine bq aC.inv fun _ _ dB _=>?_
  refine W.frame _ _ _ hB fun b hb o e=>(hfp b hb).elim (fun q=>?_) fun⟨y,hy⟩=>?_
  ·refine av (Gu.frNs (I,h9 (·=oI')) (List.mem_cons_of_mem _ (List.mem_append_right _ (.tail _ (.head _))))) fun o' e' z=>?_
   rw[q]at e ⊢
   rw[hI']at e
   rw[←af e,←show o'=oI' from z];exact e'
  ·rw[dB.frz _ _ hy]at e
   rw[←af e]
   exact Gu.frz _ _ (hM _ _ hy)
 ·simp only [List.append_assoc,List.singleton_append]
  exact kU
theorem Bn(S:dX prog w T base c.R E n){iter:Expr}{px pos:Pos}{s₃:Shared}{ob:bb}{oI:Obj}{RR:Result→Shared→Prop}{csc:Scope}(hc:cc=cx.comp csc C)(hf:vs.length≤1000)(O':cc.Ok n)(hx':cg cc.sc x=true)(hm:f7 cc rest)
  (W:Walks prog w cx.A I fp [I] vs.length Pi Sw) (hfp:∀b∈fp,b=I∨∃o,aT b o) (tells:∀i v,i < vs.length→Pi i v→∃u,vs[i]?=some u∧aj (pm w T) aT aE u v) (there:∀i h,Sw i h→∃o,h.get? I=some o)
  (st:Sw 0 s₃.heap) (h:u4 E elt cc.sc [] x vs ob QQ) (bZ:aJ (pm w T) base cc aT aE ⟨[],ob⟩ ((D,h9 (·=iI []))::(I,h9 (·=oI))::rest) s₃.heap) (L:aX base aT aE s₁ aT aE s₃)
  (fin:∀H' ρ' ob' rs ys s',aJ (pm w T) base cc H' ρ' ⟨[],ob'⟩ ((D,h9 (·=iI rs))::rest) s'.heap→ak (pm w T) H' ρ' ys rs→aX base aT aE s₁ H' ρ' s'→QQ ys ob'→RR (.ok .next) s') :
  codeAny (model prog w) cx.A (.compLoop (.ListComp elt [⟨.Name x px,iter,[],0⟩] csc pos) 0 (.ref I) (.ref D) cc.env) RR s₃:=by
 refine codeAny_compLoop_tests (F8 T w base E elt x cc D I rest vs Sw QQ aT aE s₁) ?_ (vs.length+1) ⟨0,ob,aT,aE,oI,[],[],rfl,Nat.zero_le _,st,h,bZ,rfl,.nil,L⟩
 rintro k s' ⟨i,ob',H',ρ',oI,rs,ys,rfl,hi,hst',h',N',hl,hv,L'⟩
 have hfp':∀b∈fp,b=I∨∃o,H' b o:=fun b hb=>(hfp b hb).imp id fun⟨o,e⟩=>⟨o,L'.le _ _ e⟩
 rcases Nat.lt_or_eq_of_le hi with lt|ei
 ·refine W.item i s' _ _ lt hst' fun v ao tk Q6 hB gL=>?_
  refine av (tells i v lt Q6) fun u hu R=>?_
  have R:=R.mono L'.le L'.grows
  refine cf (there _ _ hB) fun oI' hI'=>?_
  have aC:aJ (pm w T) base cc H' ρ' ⟨[],ob'⟩ ((I,h9 (·=oI'))::(D,h9 (·=iI rs))::rest) ao:=(N'.permF (List.Perm.swap _ _ _)).iter hm.more (fun b o q e=>gL b o (fun z=>q (List.mem_singleton.mp z)) e) ⟨oI',hI',rfl⟩
  have hd:vs.drop i=u::vs.drop (i+1):=by
   rw[List.drop_eq_getElem_cons lt,Option.some.inj ((List.getElem?_eq_getElem lt).symm.trans hu)]
  rw[hd]at h'
  subst hc
  (with_reducible refine wpAny_assign_Name ?_)
  refine fX (s:={s' with heap:=ao,toks:=tk}) O' aC hx' R fun aK zB aI=>?_
  refine wpAny_tests_nil ?_
  rw[if_pos rfl]
  refine S.ex0 (cx.comp csc C) elt _ _ O' h' H' ρ' _ _ _ _ aI fun y r eM iZ jK sJ kW hM sL kU=>?_
  exact AO O' rfl hm W hfp' hf hl lt hB hI' aC hv kU kW hM.le hM.grows (fun h tk=>(L'.trans .heap).trans (hM.trans .heap)) sL
 ·rw[ei]at hst'
  refine W.done s' _ _ hst' fun ao tk hk=>?_
  rw[ei,List.drop_length]at h'
  have h':QQ (ys++[]) ob':=h'
  rw[List.append_nil]at h'
  exact fin H' ρ' ob' rs ys {s' with heap:=ao,toks:=tk} ((N'.permF (List.Perm.swap _ _ _)).past hm.more fun b o q e=>hk b o (fun z=>q (List.mem_singleton.mp z)) e) hv (L'.trans .heap) h'
end
theorem Ja{cx:Cx}{m mc:cq}{ae:a6}(p q:Addr×Fp):((cx.L,a7 m)::(aP cx.cs mc++(p::q::ae)):a6).Perm (p::q::(cx.L,a7 m)::(aP cx.cs mc++ae)):=by
 have p1:(aP cx.cs mc++(p::q::ae):a6).Perm (p::(aP cx.cs mc++(q::ae))):=List.perm_middle
 have p2:(aP cx.cs mc++(q::ae):a6).Perm (q::(aP cx.cs mc++ae)):=List.perm_middle
 exact(p1.cons _).trans ((List.Perm.swap _ _ _).trans (List.Perm.cons _ ((p2.cons _).trans (List.Perm.swap _ _ _))))
theorem Ew{cx:Cx}{csc:Scope}{C D:Addr}{m mc:cq}{H aT H':HP}{ρ aE ρ':List Addr}{ae:a6}{s s₁ s':Shared}{ob':bb}{fm:List (Str×V)}{rs:List Value}{ys:List V}{Q:V→St→Prop}{Q':Value→Shared→Prop}{EE:Value→Shared→Prop}(hm:f7 cx ae)(ay:aX base H ρ s aT aE s₁)(fY:jw (pm w T) aT aE cx fm m mc)
  (N':aJ (pm w T) base (cx.comp csc C) H' ρ' ⟨[],ob'⟩ ((D,h9 (·=iI rs))::(cx.L,a7 m)::(aP cx.cs mc++ae)) s'.heap) (hv:ak (pm w T) H' ρ' ys rs) (L':aX base aT aE s₁ H' ρ' s') (h':bS ob' (.list ys) fun v o=>Q v ⟨fm,o⟩) (a:dN w T base cx ae H ρ s Q Q') :
  compPost (model prog w) cx.A EE none Q' (.ref D) C (.ok .next) s':=by
 refine bq N'.inv fun Np Q4 lR xQ=>?_
 refine av (lR.frNs (C,a7 Np) (.head _)) fun oC hoC hnC=>?_
 show ∃m,Heap.Ns s'.heap C m∧∀h',Heap.SameBut C s'.heap h'→_
 refine⟨Np,dq.mp ⟨oC,hoC,hnC⟩,fun fE kX=>?_⟩
 have Gu:a8 (pm w T) base H' ρ' ((D,h9 (·=iI rs))::(cx.L,a7 m)::(aP cx.cs mc++ae)) ob'.tr fE:=a8.past (lR.perm (List.Perm.swap _ _ _)) fun b o q e=>(kX.2 b q).trans e
 refine av (Gu.frNs (D,h9 (·=iI rs)) (.head _)) fun oD hoD eD=>?_
 rw[show oD=iI rs from eD]at hoD
 have pO:aJ (pm w T) base cx H' ρ' ⟨fm,ob'⟩ ((D,h9 (·=iI rs))::ae) fE:=⟨⟨m,mc,Gu.perm ((List.Perm.swap _ _ _).trans (List.Perm.cons _ List.perm_middle.symm)),fY.mono L'.le L'.grows⟩,N'.len,hm.more.outer,hm.more.self⟩
 refine dT (pO.adopt hm (x:=.list ys) (.list hoD (hv.mono (fun _ _ e=>e) .more)) h') fun v σ' Vt Vu Vv=>?_
 exact a v _ σ' H' (ρ'++[D]) _ Vt (ay.trans ⟨L'.le,L'.new,L'.grows.trans .more,L'.gens,L'.drawn,L'.os⟩) Vu Vv
theorem DK(S:dX prog w T base c.R E n){cx:Cx}{pos px:Pos}{elt iter:Expr}{x:Str}{csc:Scope}(O:cx.Ok n)(hit:j4 iter=true)(hx:cg csc x=true)
  {σ:St} {Q:V→St→Prop} (h:(E7 E elt iter x csc cx.sc).run σ Q) {H:HP} {ρ:List Addr} {ae:a6} {s:Shared} {Q':Value→Shared→Prop} {EE:Value→Shared→Prop} (N:aJ (pm w T) base cx H ρ σ ae s.heap) (X:f5 prog w base c.R cx ae H s EE) (a:dN w T base cx ae H ρ s Q Q') :
  wpAny (model prog w) cx.A (eval (.ListComp elt [⟨.Name x px,iter,[],0⟩] csc pos) cx.env) Q' EE s:=by
 refine iN h fun hb h=>az hb fun hk hp=>?_
 have hk:=Cp hk
 have hp:=wg hp
 have hfree:∀y∈csc.names,y.2≠.free:=fun y m=>(hp y m).1
 have hcell:∀y∈csc.names,y.2≠.cell:=fun y m=>(hp y m).2.1
 rw[eval_ListComp]
 refine wpAny_comprehension_free (use:=none) rfl (gc hit cx.env) (closureFor_none hfree) hk (fun y m e=>(hp y m).2.2 e) ?_
 refine S.ex cx iter σ _ O h _ _ _ _ _ _ N X fun eN cJ ai aB aE s₁ aC ay aR ao=>aM ao fun p eo ao=>bD ao fun hf ao=>?_
 refine yk O.handled aC aR eo fun I fp Pi St aK oI aT Z=>?_
 refine wpAny_newObj_type (wpAny_newFunctionEnv hcell (by intro y hy;exact absurd hy List.not_mem_nil) (fun bf Nq Nr=>?_) hk)
 rw[pI hfree]
 have hD:(aK.push {cls:=.type "list",dict:=none,data:=.seq ([]:List Value).toArray}).get? aK.objs.size=some (iI []):=Heap.get?_push_size _ rfl
 have vf:∀b o,(aK.push {cls:=.type "list",dict:=none,data:=.seq ([]:List Value).toArray}).get? b=some o→bf.get? b=some o:=fun b o e=>Nr.extBut b o (vr e) (eB _ _ _ e)
 have aI:=Z.now.enter ⟨_,hD,rfl⟩ (φ:=h9 (·=iI [])) (eB _)
 refine bq aI.inv fun m mc fC fY=>?_
 have bZ:=(aI.into fC (dq.mpr Nq) rfl vf (csc:=csc)).permF (Ja _ _)
 have st:=Z.walks.frame _ _ _ Z.starts fun b _ o e=>vf _ _ (eB _ _ _ e)
 have loop:=Bn (s₃:={s₁ with heap:=bf,toks:=s₁.toks+([]:List (Str×Value)).length}) (RR:=compPost (model prog w) cx.A EE none Q' (.ref aK.objs.size) _) (elt:=elt) (iter:=iter) (px:=px) (pos:=pos) (s₁:={s₁ with heap:=aK}) S rfl (Nat.le_of_ble_eq_true hf) (O.comp hk hcell) hx aC.home.into Z.walks Z.fp Z.tells Z.there st ao bZ .heap
  fun H' ρ' ob' rs ys s' N' hv L' q=>Ew aC.home (ay.trans Z.later) fY N' hv L' q a
 exact codeAny_compStart_list loop (Z.walks.self 0 _ _ _ st loop)
theorem tm{y:Str}{all:List (Str×NameKind)}{l:List (Str×NameKind)}(h:fK y all l=true):∀x∈l,(x.2=.free→x.1=y)∧x.2≠.cell∧(x.2=.local→all.lookup x.1=some .local):=by
  induction l with
  |nil=>exact fun _ m=>absurd m List.not_mem_nil
  | cons p r ih=>
    obtain⟨z,k⟩:=p
    rw[List.forall_mem_cons]
    cases k with
    |«local»=>exact az (b:=fK y all r) h fun a b=>⟨⟨fun e=>NameKind.noConfusion e,fun e=>NameKind.noConfusion e,fun _=>by rw[←fM];exact ix a⟩,ih b⟩
    |free=>exact az (b:=fK y all r) h fun a b=>⟨⟨fun _=>bR.mp a,fun e=>NameKind.noConfusion e,fun e=>NameKind.noConfusion e⟩,ih b⟩
    |cell=>cases h
    |_=>exact⟨⟨fun e=>NameKind.noConfusion e,fun e=>NameKind.noConfusion e,fun e=>NameKind.noConfusion e⟩,ih h⟩
theorem uN {csc:Scope} {env:Env} {y:Str} {ad:Addr} (hc:env.cells.lookup y=some ad) (h:∀x∈csc.names,x.2=.free→x.1=y) (hy:(y,NameKind.free)∈csc.names):∃cl,closureFor csc env=pure cl∧cl.lookup y=some ad:=by
  have hco:cellOf env y=pure ad:=by unfold cellOf;rw[hc]
  have key:∀(l:List (Str×NameKind)) (cs:List (Str×Addr)),(∀x∈l,x.2=NameKind.free→x.1=y)→∃cl,(forIn l cs fun(x:Str×NameKind) (cs:List (Str×Addr))=>(match x with
      |(name,kind)=>if(kind==NameKind.free)=true then do let r ←cellOf env name;pure (ForInStep.yield ((name,r)::cs))else pure (ForInStep.yield cs):Sem _))=pure cl∧(cs.lookup y=some ad∨(y,NameKind.free)∈l→cl.lookup y=some ad):=by
    intro l
    induction l with
    |nil=>intro cs _;exact⟨cs,rfl,fun q=>q.elim id fun q=>by cases q⟩
    | cons x r ih=>
      intro cs h
      obtain⟨z,k⟩:=x
      rw[List.forIn_cons]
      by_cases e:k=.free
      · subst e
        have ez:z=y:=h _ List.mem_cons_self rfl
        subst ez
        refine av (ih ((z,ad)::cs) fun u m=>h u (List.mem_cons_of_mem _ m)) fun cl e1 e2=>?_
        refine⟨cl,?_,fun _=>e2 (.inl (by simp))⟩
        have:((NameKind.free==NameKind.free)=true):=rfl
        simp only [this,if_true,hco]
        exact e1
      · have e':(k==NameKind.free)=false:=beq_eq_false_iff_ne.mpr e
        refine av (ih cs fun u m=>h u (List.mem_cons_of_mem _ m)) fun cl e1 e2=>?_
        refine⟨cl,?_,fun q=>e2 (q.imp id fun q=>?_)⟩
        · simp only [e',Bool.false_eq_true,if_false]
          exact e1
        · rcases List.mem_cons.mp q with q|q
          · cases q;exact absurd rfl e
          · exact q
  refine av (key csc.names [] h) fun cl e1 e2=>?_
  refine⟨cl,?_,e2 (.inr hy)⟩
  unfold closureFor
  exact(congrArg (fun(z:Sem (List (Str×Addr)))=>z >>= fun cs=>pure cs) e1).trans (pure_bind _ _)
theorem wt(o:Int)(xs:List Int):o6 o xs=xs.filter (· != o):=by
 induction xs with
 |nil=>rfl
 |cons x r ih=>rw[List.filter_cons,←ih];show bX (x==o) (o6 o r) (x::o6 o r)=if(!(x==o))=true then _ else _;cases x==o <;> rfl
noncomputable def VS(o:Int)(v:Value):Bool:=match v with
 |.int i _=>i != o
 |_=>true
theorem ti{o:Int}{rs:List Value}{xs:List Int}(h:IntsAre rs xs):IntsAre (rs.filter (VS o)) (xs.filter (· != o)):=by
  induction h with
  |nil=>exact .nil
  | cons a t x ih=>
    rw[List.filter_cons,List.filter_cons]
    show IntsAre (if(a != o)=true then _ else _) (if(a != o)=true then _ else _)
    cases a != o with
    |true=>exact .cons _ _ ih
    |false=>exact ih
theorem AY{Q7 Q8:List Value}(h:Paired Eq Q7 Q8):Q7=Q8:=by
 induction h with
 |nil=>rfl
 |cons e _ ih=>rw[e,ih]
theorem jy{env:Env}{y:Str}(hk:env.scope.kind=.function)(hc:env.kindOf y=some .cell){names:List (Str×NameKind)}(h:names.lookup y=some .free) :
    (names.map fun(n,k)=>if(k==NameKind.free&&env.scope.kind==.function&&env.kindOf n==some .cell)then(n,NameKind.cell)else(n,k)).lookup y=some .cell:=by
  induction names with
  |nil=>cases h
  | cons p r ih=>
    obtain⟨n,k⟩:=p
    have one (k':NameKind) (l:List (Str×NameKind)):List.lookup y ((n,k')::l)=if y==n then some k' else List.lookup y l:=by rw[List.lookup_cons];cases y==n <;> rfl
    show List.lookup y ((if(k==NameKind.free&&env.scope.kind==.function&&env.kindOf n==some .cell)=true then(n,NameKind.cell)else(n,k))::_)=_
    rw[one]at h
    cases hy:y==n with
    | true=>
      rw[hy,if_pos rfl]at h
      rw[af h,←eq_of_beq hy,hk,hc,if_pos (by rfl),List.lookup_cons,beq_self_eq_true]
    | false=>
      rw[hy,if_neg Bool.false_ne_true]at h
      rw[←apply_ite (fun b=>(n,b)),one,hy,if_neg Bool.false_ne_true]
      exact ih h
theorem sR{rs:List Value}{xs:List Int}{i:Nat}{v:Value}(h:IntsAre rs xs)(e:rs[i]?=some v):∃a t,v=.int a t:=by
  induction h generalizing i with
  |nil=>cases e
  | cons a t x ih=>cases i with
    |zero=>exact⟨a,t,(af e).symm⟩
    |succ i=>exact ih e
theorem AK (S:dX prog w T base c.R E n) {cx:Cx} {pos px p1 p2 p3:Pos} {elt iter:Expr} {x ve y:Str} {csc:Scope} (O:cx.Ok n) (hit:j4 iter=true) (hx:cg csc x=true)
    {σ:St} {Q:V→St→Prop} (h:(tD E elt iter x ve y csc cx.sc).run σ Q) {H:HP} {ρ:List Addr} {ae:a6} {s:Shared} {Q':Value→Shared→Prop} {EE:Value→Shared→Prop} (N:aJ (pm w T) base cx H ρ σ ae s.heap) (X:f5 prog w base c.R cx ae H s EE) (a:dN w T base cx ae H ρ s Q Q') :
    wpAny (model prog w) cx.A (eval (.ListComp elt [⟨.Name x px,iter,[.Compare (.Name ve p1) [.NotEq] [.Name y p2] p3],0⟩] csc pos) cx.env) Q' EE s:=by
  refine jO h fun q eq h=>iN h fun hb h=>az hb fun hb1 hb2=>az hb1 fun hk hp=>az hb2 fun e1 hb3=>az hb3 fun e2 e3=>iN h fun hb hh=>az hb fun hy1 hy2=>?_
  have e1:=bR.mp e1
  have e2:=bR.mp e2
  obtain⟨Vw,V8⟩:=q
  have e2:x=Vw:=e2
  subst e1 e2
  rw[dZ eq]
  have hk:=Cp hk
  have hp:=tm hp
  have hcell:∀z∈csc.names,z.2≠.cell:=fun z m=>(hp z m).2.1
  have hy1:=nW hy1
  have hy2:=iw hy2
  rw[fM]at hy1 hy2
  refine cf (O.cells y hy2) fun ad had=>?_
  have hmem:(y,NameKind.free)∈csc.names:=by
    refine bq (List.lookup_eq_some_iff.mp hy1) fun l1 l2 q _=>?_
    rw[q];exact List.mem_append_right _ (.head _)
  refine av (uN (env:=cx.env) had (fun z m e=>(hp z m).1 e) hmem) fun cl hcl hcy=>?_
  refine bC (n5 hx) fun hxl hxd=>?_
  have hxl:csc.names.lookup x=some .local:=by
    rcases hxl with q|q
    · exact q
    · refine bq (List.lookup_eq_some_iff.mp q) fun l1 l2 q _=>?_
      exact absurd rfl (hcell (x,.cell) (by rw[q];exact List.mem_append_right _ (.head _)))
  rw[eval_ListComp]
  refine wpAny_comprehension_free (use:=none) rfl (gc hit cx.env) hcl hk (fun z m e=>(hp z m).2.2 e) ?_
  refine S.ex cx iter σ _ O hh _ _ _ _ _ _ N X fun eN cJ ai aB aE s₁ aC ay aR ao=>?_
  refine aM ao fun p er ao=>aM ao fun u ey ao=>aM ao fun ko eo ao=>c7 ao fun hf ao=>?_
  obtain⟨o,xs,hxp⟩:∃o xs,o=ko.2∧xs=p.2:=⟨_,_,rfl,rfl⟩
  have hf:=Nat.le_of_ble_eq_true hf
  refine bq aC.inv fun m mc dB de=>?_
  obtain⟨hyd,ry,hna,hry⟩:=de y _ ey
  refine wW dB aR er fun ax rs k' era ho hxs=>hry.cI eo fun ty ery=>?_
  rw[ery]at hna
  rw[←hxp.1,←hxp.2]at ao
  rw[←hxp.2]at hf hxs
  rw[←hxp.1]at hna
  rw[era]
  have hmc:mc y=some (.int o ty):=by
    refine hna.elim (fun⟨q,_⟩=>?_) fun q=>q.elim (fun⟨_,_,q⟩=>?_) fun⟨q,_⟩=>?_
    · have q:cx.sc.names.lookup y=some .local:=q
      rw[hy2]at q;cases q
    · exact q
    · have q:cx.sc.names.lookup y=some .free:=q
      rw[hy2]at q;cases q
  refine av (lF dB (O.kept _ _ hy2 had)) fun oc hoc hdc=>?_
  rw[hmc]at hdc
  have ne:ax≠s₁.heap.objs.size:=fun e=>by
    have:=Heap.lt_size ho
    rw[e]at this;exact absurd this (Nat.lt_irrefl _)
  have W:=Walks.list (prog:=prog) (w:=w) O.handled s₁.heap.objs.size ax ne rs.toArray
  have hl:rs.toArray.size=xs.length:=by rw[List.size_toArray];exact hxs.length
  rw[hl]at W
  have up:∀(o:Obj) b o',s₁.heap.get? b=some o'→(s₁.heap.push o).get? b=some o':=fun o b o' e=>Heap.get?_push_of_some _ e
  have lts:∀b o',s₁.heap.get? b=some o'→b∉[s₁.heap.objs.size]:=fun b o' e q=>by
    rw[List.mem_singleton.mp q]at e
    exact absurd (Heap.lt_size e) (Nat.lt_irrefl _)
  refine wpAny_pyIter_list (l:=ax) (items:=rs.toArray) ⟨_,ho,rfl,_,rfl⟩ ?_
  refine comp_block_walkC (RR:=fun acc C=>compPost (model prog w) cx.A EE none Q' acc C) W (by rw[sizeLine_eq];lia) (VS o) Eq hcell hk hxl ⟨⟨_,Heap.get?_push_size _ rfl,rfl,rfl⟩,_,Heap.get?_push_of_some _ ho,rfl,_,rfl⟩ ?_ ⟨?_,?_⟩ ?_
  · intro b hb
    rw[Heap.size_push]
    rcases List.mem_cons.mp hb with rfl|hb
    · exact Nat.lt_succ_self _
    · rw[List.mem_singleton.mp hb];exact Nat.lt_succ_of_lt (Heap.lt_size ho)
  · intro C i v s₃ Bv E' _ hv hn hm KR _
    refine jr (sR hxs (by simpa using hv)) fun iv tv rq2=>?_;subst rq2
    refine wpAny_tests_one ?_
    (with_reducible refine wpAny_isTrue_Compare1 ?_ rfl)
    (with_reducible refine wpAny_Name ?_ hxd)
    refine wpAny_loadName_local (v:=_) hk (lookup_relabel_local hxl) hn hm ?_
    (with_reducible refine wpAny_Name ?_ hyd)
    refine wpAny_loadName_cell (c:=ad) (v:=.int o ty) hk (jy (env:=cx.env) O.kind hy2 hy1) hcy ⟨oc,KR _ _ (lts _ _ hoc) (up _ _ _ hoc),hdc⟩ ?_
    (with_reducible refine ne_int ?_)
    (with_reducible refine wpAny_truthy_bool ?_)
    exact⟨rfl,_,_,rfl,fun _ _ e=>e⟩
  · intro C i v s₃ Bv E' _ hv _ hn hm KR _
    (with_reducible refine wpAny_Name ?_ hxd)
    refine wpAny_loadName_local (v:=_) hk (lookup_relabel_local hxl) hn hm ?_
    exact⟨rfl,_,_,rfl,fun _ _ e=>e⟩
  · intro D C h' tk m' ys vs hD hC hDC hn hl' hpl hlen hP hF hk'
    refine⟨m',hn,fun h'' hs''=>?_⟩
    have hDs:s₁.heap.get? D=none:=by
      cases q:s₁.heap.get? D with
      |none=>rfl
      |some o'=>rw[up _ _ _ q]at hD;cases hD
    have keep:∀b o',s₁.heap.get? b=some o'→h''.get? b=some o':=fun b o' e=>by
      refine(hs''.2 b fun q=>?_).trans (hk' _ _ (lts _ _ e) (up _ _ _ e))
      rw[←q,up _ _ _ e]at hC;cases hC
    refine cf hpl fun nD hDo=>?_
    have hDo:h''.get? D=some {cls:=.type "list",data:=.seq ys nD}:=(hs''.2 D hDC).trans hDo
    refine bC (jb (tk:=tk) aC (fun b o' _ e=>keep b o' e) (fun m hm=>let ⟨o,e,f⟩:=dq.mpr hm;dq.mp ⟨o,keep _ _ e,f⟩) hDs hDo) fun pO Nt=>?_
    have evs:vs=rs:=by
      refine List.ext_getElem? fun j=>?_
      by_cases hj:j < vs.length
      · have:=hP j vs[j] (List.getElem?_eq_getElem hj)
        rw[List.getElem?_eq_getElem hj]
        simpa using this.symm
      · rw[List.getElem?_eq_none (by lia),List.getElem?_eq_none (by rw[hxs.length];lia)]
    have eys:=AY hF
    rw[evs]at eys
    have hints:IntsAre ys.toList (o6 o xs):=by
      rw[←eys,wt]
      exact ti hxs
    refine a (.irow false (o6 o xs)) _ ai _ aE _ pO (ay.trans Nt) (.irow (rs:=ys.toList) (n:=nD) ?_ hints) ao
    show aB.and D _ D (aN ys.toList nD)
    rw[show aN ys.toList nD={cls:=.type "list",data:=.seq ys nD} by simp[aN,PySem.W.listOf]]
    exact HP.new
theorem I5(S:dX prog w T base c.R E n){cx:Cx}{pos:Pos}{elt:Expr}{gens:List Comprehension}{csc:Scope}(O:cx.Ok n)
  {σ:St} {Q:V→St→Prop} (h:(OE E elt gens csc cx.sc).run σ Q) {H:HP} {ρ:List Addr} {ae:a6} {s:Shared} {Q':Value→Shared→Prop} {EE:Value→Shared→Prop} (N:aJ (pm w T) base cx H ρ σ ae s.heap) (X:f5 prog w base c.R cx ae H s EE) (a:dN w T base cx ae H ρ s Q Q') :
  wpAny (model prog w) cx.A (eval (.ListComp elt gens csc pos) cx.env) Q' EE s:=by
 refine jO h fun p ep h=>?_
 refine cf (G7 ep) fun px e=>?_
 rw[e]
 refine iN h fun hb h=>az hb fun hit hx=>OC h (fun ei h=>?_) fun _ h=>jO h fun e1 ee h=>jO h fun q eq h=>?_
 ·rw[cU ei];exact DK S O hit hx h N X a
 ·refine Tv (NP eq) fun p1 p2 p3 e=>?_
  rw[C8 ee,e];exact AK S O hit hx h N X a
end
end
section
section
variable {prog:Program}{w:World}{T:Nat→V}{base:Heap}{c:df}{K:Frag}{E:Ev}{n:Nat}
theorem Jw{α:Type}(x:Str)(v:α)(l:List (Str×α)):(put x v l).length≤l.length+1:=by
  induction l with
  |nil=>exact Nat.le_refl _
  | cons p r ih=>
    show(bX (aS x p.1) ((p.1,v)::r) (p::put x v r)).length≤_
    cases aS x p.1 with
    |true=>exact Nat.le_succ _
    |false=>exact Nat.succ_le_succ ih
noncomputable def d9(prog:Program)(w:World)(T:Nat→V)(base:Heap)(R:Addr→Prop)(cx:Cx)(e:Expr)(a:cb V):Prop:=
 ∀σ Q,a.run σ Q→∀H ρ ae s Q' EE,aJ (pm w T) base cx H ρ σ ae s.heap→f5 prog w base R cx ae H s EE→dN w T base cx ae H ρ s Q Q'→wpAny (model prog w) cx.A (eval e cx.env) Q' EE s
theorem d9.bad{R:Addr→Prop}{cx:Cx}{e:Expr}:d9 prog w T base R cx e .bad:=fun _ _ h=>h.elim
theorem d9.b{R:Addr→Prop}{cx:Cx}{e:Expr}{b:Bool}{a:cb V}(k:b=true→d9 prog w T base R cx e a):d9 prog w T base R cx e (bA b a):=fun σ Q h=>iN h fun eb h=>k eb σ Q h
theorem d9.o{R:Addr→Prop}{cx:Cx}{e:Expr}{α:Type}{o:Option α}{f:α→cb V}(k:∀x,o=some x→d9 prog w T base R cx e (f x)):d9 prog w T base R cx e (oA o f):=fun σ Q h=>jO h fun x eo h=>k x eo σ Q h
theorem d9.x{R:Addr→Prop}{cx:Cx}{e:Expr}{α:Type}{o:Option α}{f:α→cb V}{a:cb V}(k:∀x,o=some x→d9 prog w T base R cx e (f x))(l:o=none→d9 prog w T base R cx e a):d9 prog w T base R cx e (oX o f a):=fun σ Q h=>Ke h (fun x eo h=>k x eo σ Q h) fun eo h=>l eo σ Q h
theorem Pr{P:Pm}{H:HP}{ρ:List Addr}{v:V}{r:Value}{σ:St}{Q:V→St→Prop}(q:QP Q v σ)(R:aj P H ρ v r):∃v',aj P H ρ v' r∧Q v' σ:=
 d8 q (fun x e q=>aA e fun p ep e=>cH e fun _ e=>R.cI ep fun t er=>q.1.elim (fun h=>⟨.int true 0,by rw[er,af e,h];exact .int,q.2.1 h⟩) fun h=>⟨.int true 1,by rw[er,af e,h];exact .int,q.2.2 h⟩) fun _ q=>⟨v,R,q⟩
theorem rQ{R:Addr→Prop}{cx:Cx}{e:Expr}{p:Pos}{a:cb V}(x:d9 prog w T base R cx e a):d9 prog w T base R cx e (mF c p a):=by
  refine .x (fun t _=>?_) fun _=>x
  intro σ Q h H ρ ae s Q' EE N X an
  cases t with
  | int=>
    refine av h fun J h1 h2=>?_
    refine x σ _ h1 H ρ ae s Q' EE N X fun v r σ' H' ρ' s' N' L' R' q=>?_
    obtain⟨rfl,k,y,rfl,hj⟩:=q
    exact R'.int' fun t e=>an (.int false y) _ _ _ _ _ N' L' (e▸.int) (h2 y hj)
  | bool=>
    refine av h fun J h1 h2=>?_
    refine x σ _ h1 H ρ ae s Q' EE N X fun v r σ' H' ρ' s' N' L' R' q=>?_
    obtain⟨rfl,k,y,rfl,hj⟩:=q
    exact R'.bool' fun e=>an (.bool false y) _ _ _ _ _ N' L' (e▸.bool) (h2 y hj)
  | str=>
    refine av h fun J h1 h2=>?_
    refine x σ _ h1 H ρ ae s Q' EE N X fun v r σ' H' ρ' s' N' L' R' q=>?_
    obtain⟨rfl,k,y,rfl,hj⟩:=q
    exact R'.str' fun t hs e=>an (.str false y) _ _ _ _ _ N' L' (e▸.str hs) (h2 y hj)
  | bit=>
    refine x σ _ h H ρ ae s Q' EE N X fun v r σ' H' ρ' s' N' L' R' q=>?_
    refine av (Pr q R') fun v' hv hq=>?_
    exact an v' _ _ _ _ _ N' L' hv hq
  |_=>exact x σ _ h H ρ ae s Q' EE N X an
theorem EB{t:Option JT}{cx:Cx}{H:HP}{ρ:List Addr}{ae:a6}{σ:St}{s:Shared}{o i:V}{ro ri:Value}{value slice:Expr}{Kq:V→Prop}{Q:Value→Shared→Prop}{EE:Value→Shared→Prop}{mm:Nat}(O:cx.Ok (mm+1))
  (N:aJ (pm w T) base cx H ρ σ ae s.heap) (hs:gz slice=true) (ho:aj (pm w T) H ρ o ro) (hi:aj (pm w T) H ρ i ri) (h:J0 t (Et σ.ob.tr o i) Kq)
  (q:∀v r tk,aj (pm w T) H ρ v r→Kq v→Q r {s with toks:=tk}):wpAny (model prog w) cx.A (subscriptTail value slice ro ri) Q EE s:=by
 rcases t with _|(_|_|_|_|_|_)
 case some.itemI=>
  refine av h fun J h1 h2=>?_
  exact sx O N hs ho hi h1 fun v r tk hv hk=>aM hk fun p ep hk=>hv.cI ep fun t er=>q (.int false _) _ tk (er▸.int) (h2 _ hk)
 case some.itemS=>
  refine av h fun J h1 h2=>?_
  exact sx O N hs ho hi h1 fun v r tk hv hk=>aM hk fun p ep hk=>hv.cS ep fun t hz er=>q (.str false _) _ tk (er▸.str hz) (h2 _ hk)
 all_goals exact sx O N hs ho hi h q
noncomputable def sG(prog:Program)(w:World)(T:Nat→V)(base:Heap)(c:df)(E:Ev)(n:Nat):Prop:=
 ∀(cx:Cx) f g gas lsc lpos fpos gp gpos p,cx.Ok (n+1)→d9 prog w T base c.R cx (.Call (.Name f fpos) [.Lambda ⟨[],[],none,[],[],none,[]⟩ (.Call (.Name g gp) gas [] gpos) lsc lpos] [] p) (zy c E f g gas lsc lpos cx.sc)
theorem HX{e:Expr}{p}(h:J3 e=some p):e=.Call p.1 p.2.1 p.2.2.1 p.2.2.2:=lL (f:=fun p=>.Call p.1 p.2.1 p.2.2.1 p.2.2.2) (by cases e <;> first|rfl|trivial) h
theorem Mn{e:Expr}{p}(h:Qa e=some p):e=.Lambda p.1 p.2.1 p.2.2.1 p.2.2.2:=lL (f:=fun p=>.Lambda p.1 p.2.1 p.2.2.1 p.2.2.2) (by cases e <;> first|rfl|trivial) h
theorem yt{e:Expr}{p}(h:Dr e=some p):e=.Attribute p.1 p.2.1 p.2.2:=lL (f:=fun p=>.Attribute p.1 p.2.1 p.2.2) (by cases e <;> first|rfl|trivial) h
theorem Ei{e:Expr}{p}(h:qX e=some p):e=.Slice p.1 p.2.1 p.2.2.1 p.2.2.2:=lL (f:=fun p=>.Slice p.1 p.2.1 p.2.2.1 p.2.2.2) (by cases e <;> first|rfl|trivial) h
theorem Jc(e:Expr):oX (sF e) (fun p=>∃a b,e=.Tuple p a b) True:=by cases e <;> first|exact⟨_,_,rfl⟩|trivial
theorem rY{e:Expr}{p}(h:sF e=some p):∃a b,e=.Tuple p a b:=by have q:=Jc e;rw[h]at q;exact q
theorem wO{e:Expr}(h:qX e=none):gz e=true:=nN (b:=mE (qX e)) (by cases e <;> first|rfl|trivial) (by rw[h];rfl)
theorem BX{a:Arguments}(h:DP a=true):a=⟨[],[],none,[],[],none,[]⟩:=by
 obtain⟨x1,x2,x3,x4,x5,x6,x7⟩:=a
 exact az h fun a b=>az a fun a1 a2=>az b fun b c=>az b fun b1 b2=>az c fun c d=>az d fun d e=>by
  rw[cU (l:=x1) a1,cU (l:=x2) a2,cU (l:=x4) b1,cU (l:=x7) b2,cU (l:=x5) c,jS (o:=x3) d,jS (o:=x6) e]
theorem n9{e:Expr}{p}(h:qP e=some p):∃pos,e=.Call (.Name p.1 p.2.1) p.2.2 [] pos:=
 aA h fun q eq h=>aA h fun x ex h=>cH h fun b h=>⟨q.2.2.2,by rw[HX eq,dZ ex,cU b,←af h]⟩
theorem A4{as:List Expr}{q:Str×List Expr×Scope×Pos}(h:Ge as=some q):∃gp gpos,as=[.Lambda ⟨[],[],none,[],[],none,[]⟩ (.Call (.Name q.1 gp) q.2.1 [] gpos) q.2.2.1 q.2.2.2]:=
 aA h fun e ee h=>aA h fun p ep h=>cH h fun b h=>aA h fun c ec h=>by
  refine cf (n9 ec) fun pos e'=>?_
  exact⟨c.2.1,pos,by rw[C8 ee,Mn ep,BX b,e',←af h]⟩
section
variable {cx:Cx}
theorem IG(G:aY prog w T c K base)(S:dX prog w T base c.R E n)(HD:sG prog w T base c E n){f:Expr}{p:Pos}{as:List Expr}(O:cx.Ok (n+1)):d9 prog w T base c.R cx (.Call f as [] p) (Kz c E f as p cx.sc):=by
 have O':=O.less
 refine .b fun hp=>.x (fun q eq=>.x (fun q e=>?_) fun _=>?_) fun _=>.o fun q eq=>.b fun hb=>?_
 ·refine jr (A4 e) fun gp gpos e=>?_
  rw[e,dZ eq]
  exact HD cx _ _ _ _ _ _ _ _ p O
 ·intro σ Q h H ρ ae s Q' EE N X a
  rw[dZ eq]
  refine Call_ ?_
  refine S.ex cx _ _ _ O' h _ _ _ _ _ _ N X fun eN cJ ai aB aE s₁ aC ay aR ao=>?_
  exact lU G S O' hp aR .nil ao aC (X.later ay) fun v r σ' H' ρ' s' N' L' R' q=>a v r σ' H' ρ' s' N' (ay.trans L') R' q
 ·intro σ Q h H ρ ae s Q' EE N X a
  rw[yt eq]
  refine jJ hb hp fun pl=>?_
  refine S.ex cx _ _ _ O' h _ _ _ _ _ _ N X fun eN cJ ai aB aE s₁ aC ay aR ao=>aM ao fun p e ao=>?_
  refine Iz G aC aR e fun rg rf tk hg hf=>?_
  exact lU (s:={s₁ with toks:=tk}) G S O' hp hg hf ao aC ((X.later ay).later (H:=aB) (ρ:=aE) .toks) fun v r σ' H' ρ' s' N' L' R' q=>a v r σ' H' ρ' s' N' ((ay.trans (.toks (tk:=tk))).trans L') R' q
theorem zU(G:aY prog w T c K base){x:Str}{p:Pos}{m:Nat}(O:cx.Ok m):d9 prog w T base c.R cx (.Name x p) (tw c x cx.sc):=by
 refine .b fun hg=>.o fun v e=>?_
 intro σ Q h H ρ ae s Q' EE N X a
 refine bC (iS hg) fun g1 g2=>?_
 refine dT G.g fun mg mb n1 n2 g3=>?_
 refine av (g3 x v e) fun r hr hm=>?_
 have q:Q' r s:=a v r σ H ρ s N .refl (hr _ _ _) h
 have n1:=n1.keeps N.keep
 have n2:=n2.keeps N.keep
 (with_reducible refine Name_function_global ?_ ?_ ?_ g2)
 ·exact O.kind
 ·exact g1
 ·exact hm.elim (fun hm=>by with_reducible exact loadGlobal_global n1 hm q) fun⟨hm,hb⟩=>by with_reducible exact loadGlobal_builtin n1 hm n2 hb q
theorem Ii(G:aY prog w T c K base){x:Str}{p:Pos}{m:Nat}(O:cx.Ok m):d9 prog w T base c.R cx (.Name x p) (Dh c x cx.sc):=by
 intro σ Q h H ρ ae s Q' EE N X a
 refine d8 h (fun v e h=>?_) fun _ h=>zU G O σ Q h H ρ ae s Q' EE N X a
 refine dT N.ns fun m mc I F hn=>?_
 obtain⟨h2,r,h3,h4⟩:=F x v e
 have q:Q' r s:=a v r σ H ρ s N .refl h4 h
 (with_reducible refine wpAny_Name ?_ h2)
 refine h3.elim (fun⟨h1,h3⟩=>?_) fun h3=>h3.elim (fun⟨h1,⟨ad,had⟩,h3⟩=>?_) fun⟨h1,h1',ad,o,had,hH,hd⟩=>?_
 ·(with_reducible refine wpAny_loadName_local ?_ ?_ hn h3 q)
  ·exact O.kind
  ·exact h1
 ·refine av (lF I (O.kept _ _ h1 had)) fun o ho hd=>?_
  exact wpAny_loadName_cell O.kind h1 had ⟨o,ho,by rw[hd,h3]⟩ q
 ·exact wpAny_loadName_free O.kind h1 had ⟨o,I.frz _ _ hH,hd⟩ q h1'
theorem lb{H:HP}{ρ:List Addr}{ae:a6}{σ:St}{s:Shared}{op:CmpOp}{x y:V}{rx ry:Value}{Q:V→St→Prop}{Q':Value→Shared→Prop}{EE:Value→Shared→Prop}{m:Nat}(O:cx.Ok (m+1))(N:aJ (pm w T) base cx H ρ σ ae s.heap)
  (hx:aj (pm w T) H ρ x rx) (hy:aj (pm w T) H ρ y ry) (h:jQ op x y σ Q) (a:∀k b tk,Q (.bool k b) σ→Q' (.bool b) {s with toks:=tk}):wpAny (model prog w) cx.A (compareOp op rx ry) Q' EE s:=
 aM h fun p e h=>by
  refine bq N.inv fun m mc I F=>?_
  exact GP rfl I (by have:=O.units;lia) e hx hy fun tk=>a p.1 p.2 tk h
theorem EV{k:Const}{q:Nat}{p:Pos}{R:Addr→Prop}:d9 prog w T base R cx (.Constant k q p) (yf k):=by
  cases k with
  | none=>
    intro σ Q h H ρ ae s Q' EE N X a
    (with_reducible rw[eval_Constant])
    exact wpAny_pure (a _ _ σ H ρ s N .refl .none h)
  | bool b=>
    intro σ Q h H ρ ae s Q' EE N X a
    (with_reducible rw[eval_Constant])
    exact wpAny_pure (a _ _ σ H ρ s N .refl .bool h)
  | int i=>
    intro σ Q h H ρ ae s Q' EE N X a
    (with_reducible refine wpAny_Constant_int ?_)
    exact a _ _ σ H ρ _ N .toks .int h
  | str x=>
    refine .b fun hs=>?_
    intro σ Q h H ρ ae s Q' EE N X a
    (with_reducible refine Constant_str ?_)
    exact a _ _ σ H ρ _ N .toks (.str (se hs)) h
  |_=>exact .bad
theorem BL(S:dX prog w T base c.R E n)(O:cx.Ok n){l r:Expr}{op:Operator}{p:Pos}:d9 prog w T base c.R cx (.BinOp l op r p) (KL E l op r cx.sc):=by
 intro σ Q h H ρ ae s Q' EE N X a
 (with_reducible refine wpAny_BinOp ?_)
 refine S.ex cx _ _ _ O h _ _ _ _ _ _ N X fun eN cJ ai aB aE s₁ aC ay aR ao=>?_
 refine S.ex cx _ _ _ O ao _ _ _ _ _ _ aC (X.later ay) fun kT dH aw aT bt s₂ aI aG bu aK=>?_
 exact Mh aI (aR.mono aG.le aG.grows) bu aK fun v r σ' H' ρ' s' N' L' R' q=>a v r σ' H' ρ' s' N' ((ay.trans aG).trans L') R' q
theorem Pb(S:dX prog w T base c.R E n)(O:cx.Ok n){op:UnaryOp}{x:Expr}{p:Pos}:d9 prog w T base c.R cx (.UnaryOp op x p) (Qj E op x cx.sc):=by
  cases op with
  | Not=>
    intro σ Q h H ρ ae s Q' EE N X a
    (with_reducible refine UnaryOp_ ?_)
    refine S.ex cx _ _ _ O h _ _ _ _ _ _ N X fun eN cJ ai aB aE s₁ aC ay aR ao=>?_
    (with_reducible refine not_of ?_)
    refine eZ aC aR ao fun b aw aT bt s₂ aI aG aK=>?_
    refine a (.bool true (!b)) _ aw aT bt s₂ aI (ay.trans aG) .bool ?_
    rw[zu]at aK;exact aK
  | USub=>
    intro σ Q h H ρ ae s Q' EE N X a
    (with_reducible refine UnaryOp_ ?_)
    refine S.ex cx _ _ _ O h _ _ _ _ _ _ N X fun eN cJ ai aB aE s₁ aC ay aR ao=>aM ao fun p ep ao=>aR.cI ep fun t er=>?_
    rw[er]
    (with_reducible refine neg_int ?_)
    exact a _ _ ai aB aE _ aC (ay.trans .toks) .int ao
  |_=>exact .bad
theorem Oe(S:dX prog w T base c.R E n)(O:cx.Ok n){t b o:Expr}{p:Pos}:d9 prog w T base c.R cx (.IfExp t b o p) (NU c E t b o p cx.sc):=by
 refine rQ ?_
 intro σ Q h H ρ ae s Q' EE N X a
 (with_reducible refine IfExp_ ?_)
 refine S.tr cx _ _ _ O h _ _ _ _ _ _ _ (.inl rfl) N X fun b ai aB aE s₁ aC ay ao=>?_
 cases b with
 |true=>exact S.ex cx _ _ _ O ao _ _ _ _ _ _ aC (X.later ay) fun kT dH aw aT bt s₂ aI aG bu aK=>a _ _ _ _ _ _ aI (ay.trans aG) bu aK
 |false=>exact S.ex cx _ _ _ O ao _ _ _ _ _ _ aC (X.later ay) fun kT dH aw aT bt s₂ aI aG bu aK=>a _ _ _ _ _ _ aI (ay.trans aG) bu aK
theorem Hi(S:dX prog w T base c.R E n)(O:cx.Ok (n+1)){l r:Expr}{op:CmpOp}{p:Pos}:d9 prog w T base c.R cx (.Compare l [op] [r] p) (CQ E l op r cx.sc):=by
 have O':=O.less
 refine .b fun hm=>?_
 have hm:=cX hm
 intro σ Q h H ρ ae s Q' EE N X a
 (with_reducible refine wpAny_Compare1 ?_ hm)
 refine S.ex cx _ _ _ O' h _ _ _ _ _ _ N X fun eN cJ ai aB aE s₁ aC ay aR ao=>?_
 refine S.ex cx _ _ _ O' ao _ _ _ _ _ _ aC (X.later ay) fun kT dH aw aT bt s₂ aI aG bu aK=>?_
 exact lb O aI (aR.mono aG.le aG.grows) bu aK fun k b tk q=>a _ _ aw aT bt _ aI ((ay.trans aG).trans (.toks (tk:=tk))) .bool q
theorem IC(S:dX prog w T base c.R E n)(O:cx.Ok (n+1)){l cJ dH:Expr}{iY gk:CmpOp}{p:Pos}:d9 prog w T base c.R cx (.Compare l [iY,gk] [cJ,dH] p) (Fe E l iY gk cJ dH cx.sc):=by
  have O':=O.less
  refine .b fun hm=>?_
  have hm:=cX hm
  intro σ Q h H ρ ae s Q' EE N X a
  (with_reducible refine Compare_chain ?_ hm)
  refine S.ex cx _ _ _ O' h _ _ _ _ _ _ N X fun eN cJ ai aB aE s₁ aC ay aR ao=>?_
  (with_reducible refine chain_link ?_)
  refine S.ex cx _ _ _ O' ao _ _ _ _ _ _ aC (X.later ay) fun kT dH aw aT bt s₂ aI aG bu aK=>?_
  refine lb O aI (aR.mono aG.le aG.grows) bu aK fun k b tk aK=>?_
  have o8:aJ (pm w T) base cx aT bt aw ae ({s₂ with toks:=tk}:Shared).heap:=aI
  have o9:=(ay.trans aG).trans (.toks (H:=aT) (ρ:=bt) (tk:=tk))
  refine jj o8 .bool aK fun b' hb bf=>?_
  cases b' with
  |false=>exact a _ _ _ _ _ _ o8 o9 hb bf
  | true=>
    refine chain_last ?_
    refine S.ex cx _ _ _ O' bf _ _ _ _ _ _ o8 (X.later o9) fun Vx Vy eM iZ jK sJ kW hM sL kU=>?_
    exact lb O kW (bu.mono hM.le hM.grows) sL kU fun k b tk q=>a _ _ _ _ _ _ kW ((o9.trans hM).trans (.toks (tk:=tk))) .bool q
theorem Jm(S:dX prog w T base c.R E n)(O:cx.Ok n){op:BoolOp}{l:List Expr}{p:Pos}:d9 prog w T base c.R cx (.BoolOp op l p) (D5 c E op l p cx.sc):=by
  rcases l with _|⟨x,_|⟨y,r⟩⟩
  · exact .bad
  · intro σ Q h H ρ ae s Q' EE N X a
    (with_reducible refine BoolOp_one ?_)
    exact S.ex cx _ _ _ O h _ _ _ _ _ _ N X a
  · refine rQ ?_
    cases op with
    | And=>
      intro σ Q h H ρ ae s Q' EE N X a
      (with_reducible refine BoolOp_and ?_)
      refine S.ex cx _ _ _ O h _ _ _ _ _ _ N X fun eN cJ ai aB aE s₁ aC ay aR ao=>jj aC aR ao fun b hb aK=>?_
      cases b with
      |true=>exact S.ex cx _ _ _ O aK _ _ _ _ _ _ aC (X.later ay) fun Q9 JF bK f9 c0 s₃ bZ cw fk bf=>a _ _ _ _ _ _ bZ (ay.trans cw) fk bf
      |false=>exact a _ _ _ _ _ _ aC ay hb aK
    | Or=>
      intro σ Q h H ρ ae s Q' EE N X a
      (with_reducible refine BoolOp_or ?_)
      refine S.ex cx _ _ _ O h _ _ _ _ _ _ N X fun eN cJ ai aB aE s₁ aC ay aR ao=>jj aC aR ao fun b hb aK=>?_
      cases b with
      |true=>exact a _ _ _ _ _ _ aC ay hb aK
      |false=>exact S.ex cx _ _ _ O aK _ _ _ _ _ _ aC (X.later ay) fun Q9 JF bK f9 c0 s₃ bZ cw fk bf=>a _ _ _ _ _ _ bZ (ay.trans cw) fk bf
theorem Le(S:dX prog w T base c.R E n)(O:cx.Ok n){es:List Expr}{q:Nat}{p:Pos}:d9 prog w T base c.R cx (.Tuple es q p) (Kj E es cx.sc):=by
 intro σ Q h H ρ ae s Q' EE N X a
 (with_reducible refine Tuple_ ?_)
 refine S.es cx _ _ _ O h _ _ _ _ _ _ _ N X fun vs rs ai aB aE s₁ aC ay aR ao=>bD ao fun hf ao=>?_
 have hl:rs.length≤sizeLine:=by rw[←a9 aR];exact eJ hf
 (with_reducible refine wpAny_newTuple ?_ hl)
 exact a _ _ ai _ aE _ (aC.push (fJ rs)) (ay.trans (aC.later _)) (.tup HP.new (aR.mono HP.le .refl)) ao
theorem Ly(S:dX prog w T base c.R E n)(O:cx.Ok n){es:List Expr}{p:Pos}:d9 prog w T base c.R cx (.List es p) (B8 E es cx.sc):=by
 intro σ Q h H ρ ae s Q' EE N X a
 (with_reducible refine List_ ?_)
 refine S.es cx _ _ _ O h _ _ _ _ _ _ _ N X fun vs rs ai aB aE s₁ aC ay aR ao=>bD ao fun hf ao=>?_
 have hl:rs.length≤sizeLine:=by rw[←a9 aR];exact eJ hf
 (with_reducible refine wpAny_newList ?_ hl)
 refine nU (gN aC aR ao) fun kT aw aT bt aI aG bu aK=>?_
 exact a _ _ _ _ _ _ aI (ay.trans aG) bu aK
theorem ID(G:aY prog w T c K base)(S:dX prog w T base c.R E n)(O:cx.Ok n){o:Expr}{name:Str}{p:Pos}:d9 prog w T base c.R cx (.Attribute o name p) (FZ c E o name cx.sc):=by
 refine .b fun hb=>?_
 intro σ Q h H ρ ae s Q' EE N X a
 refine sq hb ?_
 refine S.ex cx _ _ _ O h _ _ _ _ _ _ N X fun eN cJ ai aB aE s₁ aC ay aR ao=>?_
 exact xl G aC aR ao fun u ru tk hr hq=>a _ _ ai aB aE _ aC (ay.trans .toks) hr hq
theorem MQ(S:dX prog w T base c.R E n)(O:cx.Ok (n+1)){value slice:Expr}{p:Pos}:d9 prog w T base c.R cx (.Subscript value slice p) (JP c E value slice p cx.sc):=by
 have O':=O.less
 refine .x (fun q eq=>.b fun e=>?_) fun hs=>?_
 ·intro σ Q h H ρ ae s Q' EE N X a
  rw[Ei eq,jS e]
  (with_reducible refine Subscript_ ?_)
  refine S.ex cx _ _ _ O' h _ _ _ _ _ _ N X fun eN cJ ai aB aE s₁ aC ay aR ao=>?_
  refine wpAny_Slice ?_
  refine zp S O' ao aC (X.later ay) fun JG dH aw aT bt s₂ aI aG bu aK=>?_
  refine zp S O' aK aI (X.later (ay.trans aG)) fun WJ JF bK f9 c0 s₃ bZ cw fk bf=>?_
  refine evalPart_none_step ?_
  exact B0 bZ (aR.mono (fun a o e=>cw.le a o (aG.le a o e)) (aG.grows.trans cw.grows)) bu fk bf fun v r σ' H' ρ' s' N' L' R' q=>a v r σ' H' ρ' s' N' ((ay.trans (aG.trans cw)).trans L') R' q
 ·intro σ Q h H ρ ae s Q' EE N X a
  (with_reducible refine Subscript_ ?_)
  refine S.ex cx _ _ _ O' h _ _ _ _ _ _ N X fun eN cJ ai aB aE s₁ aC ay aR ao=>?_
  refine S.ex cx _ _ _ O' ao _ _ _ _ _ _ aC (X.later ay) fun kT dH aw aT bt s₂ aI aG bu aK=>?_
  exact EB O aI (wO hs) (aR.mono aG.le aG.grows) bu aK fun v r tk hv hk=>a v r aw aT bt _ aI ((ay.trans aG).trans .toks) hv hk
theorem PW(G:aY prog w T c K base)(S:dX prog w T base c.R E n)(HD:sG prog w T base c E n):∀(cx:Cx) e,cx.Ok (n+1)→d9 prog w T base c.R cx e (Fm c E e cx.sc):=by
  intro cx e O
  have O':=O.less
  cases e with
  |Constant=>exact EV
  |Name=>exact Ii G O
  |BinOp=>exact BL S O'
  |UnaryOp=>exact Pb S O'
  |IfExp=>exact Oe S O'
  | Compare=>
    refine .o fun p ep=>xB ep (fun e e1 e2=>?_) fun q e e1 e2=>?_
    · rw[e,e1,e2];exact Hi S O
    · rw[e,e1,e2];exact IC S O
  |BoolOp=>exact Jm S O'
  |Tuple=>exact Le S O'
  |List=>exact Ly S O'
  |Dict=>exact fun σ Q h H ρ ae s Q' EE N X a=>Jg G S O h N X a
  |Attribute=>exact ID G S O'
  |Call=>exact .b fun e=>by rw[cU e];exact rQ (IG G S HD O)
  |Subscript=>exact MQ S O
  |ListComp=>exact fun σ Q h H ρ ae s Q' EE N X a=>I5 S O.less h N X a
  |_=>exact .bad
end
end
end
section
section
variable {prog:Program}{w:World}{T:Nat→V}{base:Heap}{c:df}{K:Frag}{E:Ev}{n:Nat}
theorem IH(S:dX prog w T base c.R E n){cx:Cx}{e:Expr}{σ:St}{Kq:Bool→St→Prop}{H:HP}{ρ:List Addr}{ae:a6}{s:Shared}{Q':Bool→Shared→Prop}{EE:Value→Shared→Prop}{whole:Sem Value}(O:cx.Ok n)
  (he:PySem.isTrue e cx.env whole=(do let v ←whole;standAt e.pos;holding [v] (truthy v))) (hw:whole=eval e cx.env) (h:(CO E e cx.sc).run σ Kq)
  (N:aJ (pm w T) base cx H ρ σ ae s.heap) (X:f5 prog w base c.R cx ae H s EE) (a:FE w T base cx ae H ρ s Kq Q'):wpAny (model prog w) cx.A (PySem.isTrue e cx.env whole) Q' EE s:=by
 refine isTrue_plain ?_ he
 rw[hw]
 refine S.ex cx _ _ _ O h _ _ _ _ _ _ N X fun eN cJ ai aB aE s₁ aC ay aR ao=>?_
 exact eZ aC aR ao fun b aw aT bt s₂ aI aG aK=>a b aw aT bt s₂ aI (ay.trans aG) aK
noncomputable def nq(prog:Program)(w:World)(T:Nat→V)(base:Heap)(R:Addr→Prop)(cx:Cx)(e:Expr)(whole:Sem Value)(a:cb Bool):Prop:=
 ∀σ Kq,a.run σ Kq→∀H ρ ae s Q' EE,aJ (pm w T) base cx H ρ σ ae s.heap→f5 prog w base R cx ae H s EE→FE w T base cx ae H ρ s Kq Q'→wpAny (model prog w) cx.A (PySem.isTrue e cx.env whole) Q' EE s
section
variable {cx:Cx}{whole:Sem Value}
theorem nq.b{R:Addr→Prop}{e:Expr}{b:Bool}{a:cb Bool}(k:b=true→nq prog w T base R cx e whole a):nq prog w T base R cx e whole (bA b a):=fun σ Q h=>iN h fun eb h=>k eb σ Q h
theorem nq.o{R:Addr→Prop}{e:Expr}{α:Type}{o:Option α}{f:α→cb Bool}(k:∀x,o=some x→nq prog w T base R cx e whole (f x)):nq prog w T base R cx e whole (oA o f):=fun σ Q h=>jO h fun x eo h=>k x eo σ Q h
theorem Ab(S:dX prog w T base c.R E n)(O:cx.Ok n){op:BoolOp}{l:List Expr}{p:Pos}:nq prog w T base c.R cx (.BoolOp op l p) whole (Gj E op l p cx.sc):=by
  intro σ Kq h H ρ ae s Q' EE N X a
  cases l with
  | nil=>cases op with
    |And=>(with_reducible refine isTrue_and_nil ?_);exact a _ _ _ _ _ N .refl h
    |Or=>(with_reducible refine isTrue_or_nil ?_);exact a _ _ _ _ _ N .refl h
  | cons x r=>cases op with
    | And=>
      (with_reducible refine isTrue_and ?_)
      refine S.tr cx _ _ _ O h _ _ _ _ _ _ _ (.inl rfl) N X fun b ai aB aE s₁ aC ay ao=>?_
      cases b with
      |true=>exact S.tr cx _ _ _ O ao _ _ _ _ _ _ _ (.inr ⟨_,_,_,rfl⟩) aC (X.later ay) fun b aw aT bt s₂ aI aG aK=>a _ _ _ _ _ aI (ay.trans aG) aK
      |false=>exact a _ _ _ _ _ aC ay ao
    | Or=>
      (with_reducible refine isTrue_or ?_)
      refine S.tr cx _ _ _ O h _ _ _ _ _ _ _ (.inl rfl) N X fun b ai aB aE s₁ aC ay ao=>?_
      cases b with
      |true=>exact a _ _ _ _ _ aC ay ao
      |false=>exact S.tr cx _ _ _ O ao _ _ _ _ _ _ _ (.inr ⟨_,_,_,rfl⟩) aC (X.later ay) fun b aw aT bt s₂ aI aG aK=>a _ _ _ _ _ aI (ay.trans aG) aK
theorem Bf(S:dX prog w T base c.R E n)(O:cx.Ok (n+1)){l r:Expr}{op:CmpOp}{p:Pos}:nq prog w T base c.R cx (.Compare l [op] [r] p) whole (Dn E l op r cx.sc):=by
 have O':=O.less
 refine .b fun hm=>?_
 have hm:=cX hm
 intro σ Kq h H ρ ae s Q' EE N X a
 (with_reducible refine wpAny_isTrue_Compare1 ?_ hm)
 refine S.ex cx _ _ _ O' h _ _ _ _ _ _ N X fun eN cJ ai aB aE s₁ aC ay aR ao=>?_
 refine S.ex cx _ _ _ O' ao _ _ _ _ _ _ aC (X.later ay) fun kT dH aw aT bt s₂ aI aG bu aK=>?_
 refine lb O aI (aR.mono aG.le aG.grows) bu aK fun k b tk q=>?_
 have o8:aJ (pm w T) base cx aT bt aw ae ({s₂ with toks:=tk}:Shared).heap:=aI
 exact eZ o8 .bool q fun b bK f9 c0 s₃ bZ cw bf=>a _ _ _ _ _ bZ (((ay.trans aG).trans .toks).trans cw) bf
theorem Ag(S:dX prog w T base c.R E n)(O:cx.Ok (n+1)){l cJ dH:Expr}{iY gk:CmpOp}{p:Pos}:nq prog w T base c.R cx (.Compare l [iY,gk] [cJ,dH] p) whole (DQ E l iY gk cJ dH cx.sc):=by
  have O':=O.less
  refine .b fun hm=>?_
  have hm:=cX hm
  intro σ Kq h H ρ ae s Q' EE N X a
  (with_reducible refine isTrue_chain ?_ hm)
  refine S.ex cx _ _ _ O' h _ _ _ _ _ _ N X fun eN cJ ai aB aE s₁ aC ay aR ao=>?_
  (with_reducible refine test_link ?_)
  refine S.ex cx _ _ _ O' ao _ _ _ _ _ _ aC (X.later ay) fun kT dH aw aT bt s₂ aI aG bu aK=>?_
  refine lb O aI (aR.mono aG.le aG.grows) bu aK fun k b tk q=>?_
  have o8:aJ (pm w T) base cx aT bt aw ae ({s₂ with toks:=tk}:Shared).heap:=aI
  have o9:=(ay.trans aG).trans (.toks (H:=aT) (ρ:=bt) (tk:=tk))
  refine eZ o8 .bool q fun b bK f9 c0 s₃ bZ cw bf=>?_
  cases b with
  |false=>exact a _ _ _ _ _ bZ (o9.trans cw) bf
  | true=>
    refine test_last ?_
    refine S.ex cx _ _ _ O' bf _ _ _ _ _ _ bZ (X.later (o9.trans cw)) fun Vx Vy eM iZ jK sJ kW hM sL kU=>?_
    refine lb O kW ((bu.mono cw.le cw.grows).mono hM.le hM.grows) sL kU fun k b tk q=>?_
    have Ra:aJ (pm w T) base cx iZ jK eM ae ({sJ with toks:=tk}:Shared).heap:=kW
    exact eZ Ra .bool q fun b zA WK V9 Q3 pO Nt fE=>a _ _ _ _ _ pO ((((o9.trans cw).trans hM).trans .toks).trans Nt) fE
theorem Mw(S:dX prog w T base c.R E n){e:Expr}(O:cx.Ok (n+1))(hw:whole=eval e cx.env∨∃op l p,e=.BoolOp op l p):nq prog w T base c.R cx e whole (vJ E e cx.sc):=by
  have O':=O.less
  have plain {e:Expr} (hw:whole=eval e cx.env∨∃op l p,e=.BoolOp op l p) (ne:∀op l p,e≠.BoolOp op l p) (he:∀whole,PySem.isTrue e cx.env whole=(do let v ←whole;standAt e.pos;holding [v] (truthy v))):nq prog w T base c.R cx e whole (CO E e cx.sc):=
    fun σ Kq h H ρ ae s Q' EE N X a=>hw.elim (fun hw=>IH S O' (he _) hw h N X a) fun⟨_,_,_,hw⟩=>(ne _ _ _ hw).elim
  cases e with
  |BoolOp=>exact Ab S O'
  | UnaryOp op=>cases op with
    | Not=>
      intro σ Kq h H ρ ae s Q' EE N X a
      (with_reducible refine isTrue_not ?_)
      refine S.tr cx _ _ _ O' h _ _ _ _ _ _ _ (.inl rfl) N X fun b ai aB aE s₁ aC ay ao=>?_
      exact a _ _ _ _ _ aC ay (by rw[←zu];exact ao)
    |_=>exact fun _ _ h=>h.elim
  | Compare=>
    refine .o fun p ep=>xB ep (fun e e1 e2=>?_) fun q e e1 e2=>?_
    · rw[e,e1,e2];exact Bf S O
    · rw[e,e1,e2];exact Ag S O
  |Name=>exact plain hw (fun _ _ _ e=>Expr.noConfusion e) fun _=>rfl
  |Call=>exact plain hw (fun _ _ _ e=>Expr.noConfusion e) fun _=>rfl
  |Attribute=>exact plain hw (fun _ _ _ e=>Expr.noConfusion e) fun _=>rfl
  |_=>exact fun _ _ h=>h.elim
theorem N9(S:dX prog w T base c.R E n):∀(cx:Cx) e σ Kq,cx.Ok (n+1)→(vJ E e cx.sc).run σ Kq→∀whole H ρ ae s Q' EE,(whole=eval e cx.env∨∃op l p,e=.BoolOp op l p)→aJ (pm w T) base cx H ρ σ ae s.heap→f5 prog w base c.R cx ae H s EE→FE w T base cx ae H ρ s Kq Q'→
  wpAny (model prog w) cx.A (PySem.isTrue e cx.env whole) Q' EE s:=
 fun _ _ σ Kq O h _ H ρ ae s Q' EE hw N X a=>Mw S O hw σ Kq h H ρ ae s Q' EE N X a
end
theorem Qb(S:dX prog w T base c.R E n):∀(cx:Cx) l σ Q,cx.Ok (n+1)→(CK E l cx.sc).run σ Q→∀pos H ρ ae s Q' EE,aJ (pm w T) base cx H ρ σ ae s.heap→f5 prog w base c.R cx ae H s EE→Lq w T base cx ae H ρ s Q Q'→
    wpAny (model prog w) cx.A (spliced (backTo pos (starEach l cx.env))) Q' EE s:=by
  intro cx l σ Q O h pos H ρ ae s Q' EE N X a
  have O':=O.less
  cases l with
  |nil=>exact spliced_nil (a [] [] σ H ρ s N .refl .nil h)
  | cons e r=>
    refine iN h fun hs h=>?_
    rw[d7 e cx.env r (cX hs)]
    refine spliced_cons (x:=eval e cx.env) ?_
    refine S.ex cx _ _ _ O' h _ _ _ _ _ _ N X fun eN cJ ai aB aE s₁ aC ay aR ao=>?_
    refine S.es cx _ _ _ O' ao _ _ _ _ _ _ _ aC (X.later ay) fun kT dH aw aT bt s₂ aI aG bu aK=>?_
    exact a _ _ _ _ _ _ aI (ay.trans aG) (.cons (aR.mono aG.le aG.grows) bu) aK
theorem Di{e:Expr}(h:cV e=true){x:Str}{p:Pos}{k:Nat}{env:Env}:swapsWith e (some (.Name x p)) k env=pure false:=by
 exact nN (b:=cV e) (by cases e <;> first|rfl|trivial) h
theorem zN{e o:Expr}(h:cV e=true){x:Str}{p:Pos}{k:Nat}{env:Env}:swapsWith e (some (.Attribute o x p)) k env=pure false:=by
 exact nN (b:=cV e) (by cases e <;> first|rfl|trivial) h
theorem Am{e:Expr}(h:wc e=true){k:Nat}{env:Env}:swapsWith e none k env=pure false:=by
 exact nN (b:=wc e) (by cases e <;> first|rfl|trivial) h
end
end
section
section
variable {prog:Program}{w:World}{T:Nat→V}{base:Heap}{c:df}{K:Frag}{E:Ev}{n:Nat}
theorem aJ.turn{P:Pm}{cx:Cx}{H:HP}{ρ:List Addr}{fm:List (Str×V)}{ob:bb}{ae:a6}{h h':Heap}{i:Nat}{a:Addr}{x y:O}(N:aJ P base cx H ρ ⟨fm,ob⟩ ae h)(e:ob.tr.get i=some x)(hl:x.live=true)(ha:ρ[i]?=some a)
  (hs:∀b o,b≠a→b≠cx.L→h.get? b=some o→h'.get? b=some o) (hn:∀m,h.Ns cx.L m→h'.Ns cx.L m) (hy:dJ P H ρ h' a y) (ht:∃o,h'.get? a=some o):aJ P base cx H ρ ⟨fm,da ob i y⟩ ae h':=by
 refine dT N.ns fun m mc I F hn'=>?_
 exact⟨⟨m,mc,I.turn e hl ha hs (dq.mpr (hn m hn')) (Tr.get_set _ _ _ · (by rw[show ob.tr.get i=_ from e];rfl)) hy ht,F⟩,N.len,N.outer,N.self⟩
theorem aJ.apart{P:Pm}{cx:Cx}{H:HP}{ρ:List Addr}{fm:List (Str×V)}{ob:bb}{ae:a6}{h:Heap}{i:Nat}{a:Addr}{x:O}(N:aJ P base cx H ρ ⟨fm,ob⟩ ae h)(e:ob.tr.get i=some x)(hl:x.live=true)(ha:ρ[i]?=some a):a≠cx.L:=
 let ⟨_,_,I,_⟩:=N.inv;fun q=>(I.apart e hl ha).nf (by rw[q];exact .head _)
theorem CE(G:aY prog w T c K base){cx:Cx}{H:HP}{ρ:List Addr}{ae:a6}{σ:St}{s:Shared}{ov v:V}{r rv:Value}{name:Str}{Kq:St→Prop}{Q:Unit→Shared→Prop}{EE:Value→Shared→Prop}
  (N:aJ (pm w T) base cx H ρ σ ae s.heap) (hv:aj (pm w T) H ρ ov r) (hr:aj (pm w T) H ρ v rv) (h:vX c ov name v σ Kq)
  (q:∀σ' s',aJ (pm w T) base cx H ρ σ' ae s'.heap→aX base H ρ s H ρ s'→Kq σ'→Q () s'):wpAny (model prog w) cx.A (setAttr r name rv) Q EE s:=by
 refine dT N.ns fun m mc I F hn=>?_
 refine aM h fun i ei h=>aM h fun p ep h=>bD h fun ec h=>aM h fun fs ed h=>bD h fun hf h=>?_
 have ec:=EW ec
 have ed:=HL ed
 refine hv.cR ei fun a ha er=>(I.at (LJ ep) ha).inst' fun dx a1 a2=>(I.at ed a2).ns' fun es k b1 b2=>?_
 rw[er]
 have O:=G.cm _ _ _ ec
 have nL:dx≠cx.L:=N.apart (ob:=σ.ob) ed rfl a2
 have X:=G.kin.keeps I.keep
 have fp:=C3 (name:=name) (t:=s.toks+1) hr b2
 refine set_plain (ox:=instObj p.1 dx) (od:=some (dictOf es k)) X ⟨a1,rfl,rfl,b1⟩ O.set ?_
 refine osa_dict (s:={s with toks:=s.toks+1}) (pre:=[]) (od':=dictOf (putL name (PyData.keyHash w.params name) (.str name (s.toks+1)) rv es) (putN name es k)) (eW hn) (jc b1 nL) X ⟨a1,rfl,rfl,b1⟩ rfl O.over O.taker O.dict
  (by rw[lookIn_dict];exact AX b2) (fun p hp=>by cases hp) (fun p hp e=>(c8.mp (show(p.1,p.2)∈_ from hp)).1 (by rw[show p.1=dx from e];exact .head _)) (putName_dict ..) rfl ?_ fun h' F' N'=>?_
 ·rw[BG fp]
  have:(put name v fs).length≤fs.length+1:=Jw ..
  exact Nat.le_trans this (Nat.le_of_ble_eq_true hf)
 ·refine bC (i8 N') fun k1 k2=>?_
  exact q ⟨σ.fm,da σ.ob p.2 (.ns (put name v fs))⟩ _ (N.turn (fm:=σ.fm) (ob:=σ.ob) ed rfl a2 k2 (jg hn F') (.ns k1 fp) ⟨_,k1⟩) .heap h
theorem MR{cx:Cx}{H:HP}{ρ:List Addr}{ae:a6}{σ:St}{s:Shared}{ov key v:V}{r rk rv:Value}{Kq:St→Prop}{Q:Unit→Shared→Prop}{EE:Value→Shared→Prop}{mm:Nat}(O:cx.Ok (mm+1))
  (N:aJ (pm w T) base cx H ρ σ ae s.heap) (hv:aj (pm w T) H ρ ov r) (hk:aj (pm w T) H ρ key rk) (hr:aj (pm w T) H ρ v rv) (h:ET ov key v σ Kq)
  (q:∀σ' s',aJ (pm w T) base cx H ρ σ' ae s'.heap→aX base H ρ s H ρ s'→Kq σ'→Q () s'):wpAny (model prog w) cx.A (setItem r rk rv) Q EE s:=by
 refine dT N.ns fun m mc I F hn=>?_
 refine aM h fun i ei h=>aM h fun es eo h=>bD h fun hb h=>az hb fun h1 hb=>az hb fun h2 h3=>az h1 fun ik ok=>?_
 have eo:=MB eo
 refine hv.cR ei fun d ha er=>(I.at eo ha).dict' fun Q1 Vr a1 a2 a3 a4=>?_
 rw[er]
 have D:c9 (pm w T) H ρ s.heap d es:=⟨⟨_,_,a1,a4⟩,a2,a3⟩
 have hT:s.TypeIs (.ref d) "dict":=⟨_,a1,rfl⟩
 unfold setItem
 try with_reducible refine wpAny_holding ?_
 refine wpAny_bind (wpAny_sequenceKey hT (by decide) ?_)
 refine wpAny_bind (wpAny_callSpecial?_slot (name:=Str.ofString "__setitem__") hT slot_dict_setitem
  (wpAny_call_entry slot_dict_setitem hT entry_dict_setitem ?_ (args_dict_setitem _ _ _)))
 show wpAny _ _ (Builtin.Dict.notOrdered "__setitem__" ⟨[.ref d,rk,rv],[]⟩ >>= _) _ _ s
 refine wpAny_bind (wpAny_notOrdered_dict hT ?_)
 show wpAny _ _ (dictSet d rk rv >>= _) _ _ s
 refine wpAny_bind (nV rfl I D ok ik hk hr (by show cx.A.units+_ < _;have:=O.units;lia) (eJ h3) fun h' tk D' hs=>wpAny_pure ⟨.none,rfl,wpAny_pure ?_⟩)
 refine bq D'.obj fun es' k' b1 b2=>?_
 have nL:=N.apart (fm:=σ.fm) (ob:=σ.ob) eo rfl ha
 exact q ⟨σ.fm,da σ.ob i (.dict (gf key v es))⟩ _ (N.turn (fm:=σ.fm) (ob:=σ.ob) eo rfl ha (fun b o q1 _ e=>(hs.2 b q1).trans e) (fun m hm=>hm.sameBut hs nL.symm) (.dict b1 D'.low D'.apart b2) ⟨_,b1⟩) .heap h
noncomputable def fN(P:Nat→Shared→Prop)(k:Nat)(Q':Flow→Shared→Prop)(f:Flow)(s:Shared):Prop:=match f with
 |.next=>∃m,m < k∧P m s
 |.cont=>∃m,m < k∧P m s
 |.brk=>Q' .next s
 |.ret v=>Q' (.ret v) s
noncomputable def q6(T:Nat→V)(w:World)(base:Heap)(E:Ev)(x:Str)(body:List Stmt)(cx:Cx)(I:Addr)(ae:a6)(vs:List V)(Sw:Nat→Heap→Prop)(Q:Fl→St→Prop)(H:HP)(ρ:List Addr)(s:Shared)(k:Nat)(s':Shared):Prop:=
 ∃i σ' H' ρ' o,k=vs.length+1 - i∧i≤vs.length∧Sw i s'.heap∧q9 E x body cx.sc (vs.drop i) σ' Q∧aJ (pm w T) base cx H' ρ' σ' ((I,h9 (·=o))::ae) s'.heap∧aX base H ρ s H' ρ' s'
section
variable {cx:Cx}{x:Str}{body:List Stmt}{vs:List V}{Q:Fl→St→Prop}{H:HP}{ρ:List Addr}{ae:a6}{s:Shared}{Q':Flow→Shared→Prop}{EE:Value→Shared→Prop}{I:Addr}{fp:List Addr}{Pi:Nat→Value→Prop}{Sw:Nat→Heap→Prop}
theorem Af(S:dX prog w T base c.R E n)(O:cx.Ok n)(W:Walks prog w cx.A I fp [I] vs.length Pi Sw)(hm:f7 cx ae)(a:j3 w T base cx ae H ρ s Q Q'){i:Nat}{H':HP}{ρ':List Addr}{σ':St}{oI':Obj}{ao:Heap}{s₂:Shared}{k:Nat}(ek:k=vs.length+1 - i)(hfp':∀b∈fp,b=I∨∃o,H' b o)(lt:i < vs.length)(hB:Sw (i+1) ao)(hI':ao.get? I=some oI')(frz:∀b o,H' b o→ao.get? b=some o)
  (h':(E.ss body cx.sc).run σ' fun f ai=>AN f (q9 E x body cx.sc (vs.drop (i+1)) ai Q) (Q .next ai) (fun v=>Q (.ret v) ai)) (aI:aJ (pm w T) base cx H' ρ' σ' ((I,h9 (·=oI'))::ae) s₂.heap) (X':f5 prog w base c.R cx ae H' s₂ EE) (LL:aX base H ρ s H' ρ' s₂) :
  wpAny (model prog w) cx.A (execs body cx.env) (fN (q6 T w base E x body cx I ae vs Sw Q H ρ s) k Q') EE s₂:=by
 refine S.ss cx body _ _ O h' H' ρ' _ _ (fN (q6 T w base E x body cx I ae vs Sw Q H ρ s) k Q') EE aI X'.more fun f r bK f9 c0 s₃ bZ cw fk bf=>?_
 have pa:aX base H ρ s f9 c0 s₃:=LL.trans cw
 have vg:aJ (pm w T) base cx f9 c0 bK ae s₃.heap:=bZ.leave hm
 have nx (bf:q9 E x body cx.sc (vs.drop (i+1)) bK Q):∃m,m < k∧q6 T w base E x body cx I ae vs Sw Q H ρ s m s₃:=by
  refine⟨_,sy ek lt,i+1,bK,f9,c0,oI',rfl,lt,?_,bf,bZ,pa⟩
  refine bq bZ.inv fun _ _ pP _=>?_
  refine W.frame _ _ _ hB fun b hb o e=>(hfp' b hb).elim (fun q=>?_) fun⟨y,hy⟩=>?_
  ·refine av (pP.frNs (I,h9 (·=oI')) (.tail _ (List.mem_append_right _ (.head _)))) fun o' e' z=>?_
   rw[q]at e ⊢
   rw[hI']at e
   rw[←af e,←show o'=oI' from z];exact e'
  ·rw[frz _ _ hy]at e
   rw[←af e]
   exact pP.frz _ _ (cw.le _ _ hy)
 cases fk with
 |next=>exact nx bf
 |cont=>exact nx bf
 |brk=>exact a .next .next _ _ _ _ vg pa .next bf
 |ret q=>exact a _ _ _ _ _ _ vg pa (.ret q) bf
theorem Jq(S:dX prog w T base c.R E n){px:Pos}{σ:St}(O:cx.Ok n)
  (W:Walks prog w cx.A I fp [I] vs.length Pi Sw) (hfp:∀b∈fp,b=I∨∃o,H b o) (hP:∀i v,i < vs.length→Pi i v→∃u,vs[i]?=some u∧aj (pm w T) H ρ u v)
  (hI:∀i h,Sw i h→∃o,h.get? I=some o) (hx:cg cx.sc x=true) (h:q9 E x body cx.sc vs σ Q) {oI:Obj} (hst:Sw 0 s.heap) (N:aJ (pm w T) base cx H ρ σ ((I,h9 (·=oI))::ae) s.heap) (hm:f7 cx ae) (X:f5 prog w base c.R cx ae H s EE)
  (a:j3 w T base cx ae H ρ s Q Q') :
  codeAny (model prog w) cx.A (.forLoop (.Name x px) (.ref I) body [] cx.env) (fun r s'=>match r with|.ok f=>Q' f s'|.error e=>cameBackBy (model prog w) cx.A cx.env EE e s') s:=by
 refine codeAny_forLoop (q6 T w base E x body cx I ae vs Sw Q H ρ s) ?_ (vs.length+1) ⟨0,σ,H,ρ,oI,rfl,Nat.zero_le _,hst,h,N,.refl⟩
 refine fun k s' hL=>cps fun G kk=>?_
 refine R9 hL fun i σ' H' ρ' o ek hi hst' h' N' L'=>?_
 rcases Nat.lt_or_eq_of_le hi with lt|ei
 ·refine kk ?_
  refine W.item i s' _ _ lt hst' fun v ao tk hv hB hk=>?_
  refine av (hP i v lt hv) fun u hu R=>?_
  refine cf (hI _ _ hB) fun oI' hI'=>?_
  have aC:aJ (pm w T) base cx H' ρ' σ' ((I,h9 (·=oI'))::ae) ao:=N'.iter hm (fun b o q e=>hk b o (fun z=>q (List.mem_singleton.mp z)) e) ⟨oI',hI',rfl⟩
  (with_reducible refine wpAny_assign_Name ?_)
  refine fX (s:={s' with heap:=ao,toks:=tk}) O aC hx (R.mono L'.le L'.grows) fun aK zB aI=>?_
  rw[List.drop_eq_getElem_cons lt,Option.some.inj ((List.getElem?_eq_getElem lt).symm.trans hu)]at h'
  have frz:∀b o,H' b o→ao.get? b=some o:=fun b o y=>let ⟨_,_,dB,_⟩:=aC.inv;dB.frz _ _ y
  exact wpAny_mono (Af S O W hm a ek (fun b hb=>(hfp b hb).imp id fun⟨o,e⟩=>⟨o,L'.le _ _ e⟩) lt hB hI' frz h' (s₂:={s' with heap:=aK,toks:=zB}) aI ((X.later L').later (H:=H') (ρ:=ρ') .heap) (L'.trans .heap)) (fun f _ z=>by cases f <;> exact z) (X.later L').passes
 ·rw[ei]at hst' h'
  refine kk (W.done s' _ _ hst' fun ao tk hk=>?_)
  (with_reducible refine wpAny_execs_nil ?_)
  rw[List.drop_length]at h'
  exact a .next .next σ' H' ρ' _ (N'.past hm fun b o q e=>hk b o (fun z=>q (List.mem_singleton.mp z)) e) (L'.trans .heap) .next h'
end
end
end
section
section
variable {prog:Program}{w:World}{T:Nat→V}{base:Heap}{c:df}{K:Frag}{E:Ev}{n:Nat}
theorem L4{Bw:Int}{K:Nat→Prop}(m:Nat)(h0:0≤Bw)(hr:Dp m Bw K)(hlt:Bw < (m:Int)):∃k,Bw=Int.ofNat k∧k < m∧K k:=by
  induction m with
  |zero=>exact absurd hlt (Int.not_lt.mpr h0)
  | succ m ih=>
    refine bC hr fun g1 g2=>?_
    by_cases e:Bw=Int.ofNat m
    · exact⟨m,e,Nat.lt_succ_self _,g1 e⟩
    · refine dC (ih g2 (by simp only [Int.ofNat_eq_natCast]at e;lia)) fun k e1 e2 e3=>?_
      exact⟨k,e1,Nat.lt_succ_of_lt e2,e3⟩
theorem LV(S:dX prog w T base c.R E n){cx:Cx}{x:Str}{px p:Pos}{iter:Expr}{body:List Stmt}{σ:St}{Q:Fl→St→Prop}{H:HP}{ρ:List Addr}{ae:a6}{s:Shared}{Q':Flow→Shared→Prop}{EE:Value→Shared→Prop}(O:cx.Ok (n+1))
  (hx:cg cx.sc x=true) (hi:j4 iter=true) (h:(E.ex iter cx.sc).run σ fun v ai=>oE (J4 v) (fun n=>0≤n∧n < 8∧Dp 8 n fun k=>q9 E x body cx.sc (GG k 0) ai Q) (EF E x body v cx.sc ai Q)) (N:aJ (pm w T) base cx H ρ σ ae s.heap) (X:f5 prog w base c.R cx ae H s EE) (a:j3 w T base cx ae H ρ s Q Q') :
  wpAny (model prog w) cx.A (exec (.For (.Name x px) iter body [] p) cx.env) Q' EE s:=by
 have O':=O.less
 (with_reducible refine wpAny_For ?_ (gc hi _))
 refine S.ex cx _ _ _ O' h _ _ _ _ _ _ N X fun v r ai aB aE s₁ aC ay aR ao=>?_
 have go:∀{v:V} {vs:List V} {ob:bb},aj (pm w T) aB aE v r→rX ai.ob v=some (vs,ob)→q9 E x body cx.sc vs ⟨ai.fm,ob⟩ Q→wpAny (model prog w) cx.A (pyIter r) (fun it s'=>codeAny (model prog w) cx.A (.forLoop (.Name x px) it body [] cx.env) (fun r s'=>match r with|.ok f=>Q' f s'|.error e=>cameBackBy (model prog w) cx.A cx.env EE e s') s') EE s₁:=by
  intro v vs ob aR eo aK
  refine yk O.handled aC aR eo fun I fp Pi St h' oI H' Y=>?_
  exact Jq (s:={s₁ with heap:=h'}) S O' Y.walks Y.fp Y.tells Y.there hx aK Y.starts Y.now aC.home ((X.later ay).later Y.later) fun f r σ' H' ρ' s' N' L' R' q=>a f r σ' H' ρ' s' N' ((ay.trans Y.later).trans L') R' q
 refine d8 ao (fun Bw e ao=>?_) fun _ ao=>aM ao fun p eo ao=>go aR eo ao
 refine kD ao fun h1 h2 h3=>?_
 refine dC (L4 8 h1 h3 h2) fun k ek hk hq=>?_
 refine aA e fun q eq e=>cH e fun _ e=>aR.cQ eq fun ra t u v hr er=>go (v:=.rng true (Int.ofNat k)) (ob:=ai.ob) ?_ ?_ hq
 ·rw[show q.2=Int.ofNat k by rw[af e,ek]]at hr
  rw[er];exact .rng hr
 ·have f:bN k=true:=Nat.ble_eq_true_of_le (by lia)
  show oX (bO (bN k) (some (GG k 0))) (fun vs=>some (vs,ai.ob)) _=_
  rw[f];rfl
noncomputable def mN(T:Nat→V)(w:World)(base:Heap)(E:Ev)(t:Expr)(body:List Stmt)(cx:Cx)(ae:a6)(Q:Fl→St→Prop)(H:HP)(ρ:List Addr)(s:Shared)(k:Nat)(s':Shared):Prop:=
 ∃σ' H' ρ',(oM E t body cx.sc k).run σ' Q∧aJ (pm w T) base cx H' ρ' σ' ae s'.heap∧aX base H ρ s H' ρ' s'
theorem Gm (S:dX prog w T base c.R E n) {cx:Cx} {t:Expr} {p:Pos} {body:List Stmt} {σ:St} {Q:Fl→St→Prop} {H:HP} {ρ:List Addr} {ae:a6} {s:Shared} {Q':Flow→Shared→Prop} {EE:Value→Shared→Prop} (O:cx.Ok (n+1)) (k:Nat)
    (h:(oM E t body cx.sc k).run σ Q) (N:aJ (pm w T) base cx H ρ σ ae s.heap) (X:f5 prog w base c.R cx ae H s EE) (a:j3 w T base cx ae H ρ s Q Q'):wpAny (model prog w) cx.A (exec (.While t body [] p) cx.env) Q' EE s:=by
  have O':=O.less
  refine wpAny_While (codeAny_whileLoop (mN T w base E t body cx ae Q H ρ s) ?_ k ⟨σ,H,ρ,h,N,.refl⟩)
  rintro k s' ⟨σ',H',ρ',h',N',L'⟩
  cases k with
  |zero=>exact h'.elim
  | succ k=>
    have X':=X.later L'
    have h':(E.tr t cx.sc).run σ' fun g ai=>iE g ((E.ss body cx.sc).run ai fun r aw=>AN r ((oM E t body cx.sc k).run aw Q) (Q .next aw) (fun v=>Q (.ret v) aw)) (Q .next ai):=h'
    refine wpAny_mono (S.tr cx _ _ _ O' h' _ H' ρ' ae s' (fun b s₂=>iE b (wpAny (model prog w) cx.A (execs body cx.env) (fN (mN T w base E t body cx ae Q H ρ s) (k+1) Q') EE s₂) (Q' .next s₂)) EE (.inl rfl) N' X' fun b ai aB aE s₁ aC ay ao=>?_) (fun b s₂ z=>?_) X.passes
    · cases b with
      |false=>exact a .next .next _ _ _ _ aC (L'.trans ay) .next ao
      | true=>
        show wpAny (model prog w) cx.A (execs body cx.env) (fN (mN T w base E t body cx ae Q H ρ s) (k+1) Q') EE s₁
        refine S.ss cx _ _ _ O' ao _ _ _ _ _ _ aC (X'.later ay) fun f r aw aT bt s₂ aI aG bu aK=>?_
        have L:=(L'.trans ay).trans aG
        cases bu with
        |next=>exact⟨k,Nat.lt_succ_self _,aw,aT,bt,aK,aI,L⟩
        |cont=>exact⟨k,Nat.lt_succ_self _,aw,aT,bt,aK,aI,L⟩
        |brk=>exact a .next .next _ _ _ _ aI L .next aK
        |ret q=>exact a _ _ _ _ _ _ aI L (.ret q) aK
    · cases b with
      | false=>
        rw[if_neg (by decide)]
        exact wpAny_execs_nil z
      | true=>
        rw[if_pos rfl]
        exact wpAny_mono (show wpAny (model prog w) cx.A (execs body cx.env) (fN (mN T w base E t body cx ae Q H ρ s) (k+1) Q') EE s₂ from z) (fun f _ e=>by cases f <;> exact e) X.passes
end
end
section
section
variable {P:Pm}{base h h':Heap}{H:HP}{ρ:List Addr}{ae:a6}{ob:Tr}
theorem a8.iters{qs qs':a6}(I:a8 P base H ρ (qs++ae) ob h)(ha:qs'.map (·.1)=qs.map (·.1))(k:∀b o,b∉qs.map (·.1)→h.get? b=some o→h'.get? b=some o)(hJ:∀p∈qs',∃o,h'.get? p.1=some o∧p.2.φ H o):a8 P base H ρ (qs'++ae) ob h':=by
 have e:(qs'++ae).map (·.1)=(qs++ae).map (·.1):=by rw[List.map_append,List.map_append,ha]
 have old:∀a∈qs.map (·.1),base.get? a=none∧∀o,¬H a o:=fun a m=>by
  refine av (List.mem_map.mp m) fun p hp rq2=>?_;subst rq2
  exact I.frNew p (List.mem_append_left _ hp)
 have d:=I.frDup
 rw[List.map_append,List.nodup_append]at d
 have rq:∀a∈ρ,a∉qs.map (·.1):=fun a ha q=>I.rf a ha (by rw[List.map_append];exact List.mem_append_left _ q)
 refine⟨fun b o e=>k b o (fun q=>by rw[(old b q).1]at e;cases e) (I.keep b o e),fun b o e=>k b o (fun q=>(old b q).2 o e) (I.frz b o e),fun p hp=>?_,fun p hp=>?_,by rw[e];exact I.frDup,fun i o x=>?_,I.dup,fun a ha=>?_,fun a ha=>by rw[e];exact I.rf a ha⟩
 ·rcases List.mem_append.mp hp with hp|hp
  ·exact hJ p hp
  ·refine av (I.frNs p (List.mem_append_right _ hp)) fun o x z=>?_
   exact⟨o,k _ _ (fun q=>d.2.2 _ q _ (List.mem_map.mpr ⟨p,hp,rfl⟩) rfl) x,z⟩
 ·rcases List.mem_append.mp hp with hp|hp
  ·exact old _ (by rw[←ha];exact List.mem_map.mpr ⟨p,hp,rfl⟩)
  ·exact I.frNew p (List.mem_append_right _ hp)
 ·refine dC (I.own i o x) fun a h1 h2 h3=>?_
  exact⟨a,h1,h2.mono (fun _ _ x=>x) .refl (fun o e=>k a o (rq a (List.mem_of_getElem? h1)) e),fun l=>⟨(h3 l).nb,(h3 l).nH,by rw[e];exact(h3 l).nf⟩⟩
 ·refine cf (I.there a ha) fun o x=>?_
  exact⟨o,k a o (rq a ha) x⟩
theorem a8.pasts{qs:a6}(I:a8 P base H ρ (qs++ae) ob h)(k:∀b o,b∉qs.map (·.1)→h.get? b=some o→h'.get? b=some o):a8 P base H ρ ae ob h':=by
 have old:∀a∈qs.map (·.1),base.get? a=none∧∀o,¬H a o:=fun a m=>by
  refine av (List.mem_map.mp m) fun p hp rq2=>?_;subst rq2
  exact I.frNew p (List.mem_append_left _ hp)
 have d:=I.frDup
 rw[List.map_append,List.nodup_append]at d
 have rq:∀a∈ρ,a∉qs.map (·.1):=fun a ha q=>I.rf a ha (by rw[List.map_append];exact List.mem_append_left _ q)
 refine⟨fun b o e=>k b o (fun q=>by rw[(old b q).1]at e;cases e) (I.keep b o e),fun b o e=>k b o (fun q=>(old b q).2 o e) (I.frz b o e),fun p hp=>?_,fun p hp=>I.frNew p (List.mem_append_right _ hp),d.2.1,fun i o x=>?_,I.dup,fun a ha=>?_,fun a ha q=>I.rf a ha (by rw[List.map_append];exact List.mem_append_right _ q)⟩
 ·refine av (I.frNs p (List.mem_append_right _ hp)) fun o x z=>?_
  exact⟨o,k _ _ (fun q=>d.2.2 _ q _ (List.mem_map.mpr ⟨p,hp,rfl⟩) rfl) x,z⟩
 ·refine dC (I.own i o x) fun a h1 h2 h3=>?_
  exact⟨a,h1,h2.mono (fun _ _ x=>x) .refl (fun o e=>k a o (rq a (List.mem_of_getElem? h1)) e),fun l=>⟨(h3 l).nb,(h3 l).nH,fun q=>(h3 l).nf (by rw[List.map_append];exact List.mem_append_right _ q)⟩⟩
 ·refine cf (I.there a ha) fun o x=>?_
  exact⟨o,k a o (rq a ha) x⟩
theorem a8.enters{qs:a6}(I:a8 P base H ρ ae ob h)(k:∀b o,h.get? b=some o→h'.get? b=some o)(hn:(qs.map (·.1)).Nodup)(hf:∀p∈qs,h.get? p.1=none∧∃o,h'.get? p.1=some o∧p.2.φ H o):a8 P base H ρ (qs++ae) ob h':=by
 have J:=I.keeps k
 have fresh:∀a∈qs.map (·.1),h.get? a=none:=fun a m=>by
  refine av (List.mem_map.mp m) fun p hp rq2=>?_;subst rq2
  exact(hf p hp).1
 have nf:∀a∈qs.map (·.1),a∉ae.map (·.1):=fun a m q=>by
  refine av (List.mem_map.mp q) fun p hp rq2=>?_;subst rq2
  refine av (I.frNs p hp) fun o e _=>?_
  rw[fresh _ m]at e;cases e
 refine⟨J.keep,J.frz,fun p hp=>?_,fun p hp=>?_,?_,fun i o e=>?_,J.dup,J.there,fun a ha z=>?_⟩
 ·rcases List.mem_append.mp hp with hp|hp
  ·exact(hf p hp).2
  ·exact J.frNs p hp
 ·rcases List.mem_append.mp hp with hp|hp
  ·have f:=(hf p hp).1
   exact⟨fR I.keep f,fun o e=>by rw[I.frz _ _ e]at f;cases f⟩
  ·exact J.frNew p hp
 ·rw[List.map_append,List.nodup_append]
  exact⟨hn,J.frDup,fun a ha b hb e=>nf a ha (e▸hb)⟩
 ·refine dC (J.own i o e) fun a h1 h2 h3=>?_
  refine⟨a,h1,h2,fun l=>⟨(h3 l).nb,(h3 l).nH,fun z=>?_⟩⟩
  rw[List.map_append]at z
  rcases List.mem_append.mp z with z|z
  ·refine cf (I.there a (List.mem_of_getElem? h1)) fun o' e'=>?_
   rw[fresh a z]at e';cases e'
  ·exact(h3 l).nf z
 ·rw[List.map_append]at z
  rcases List.mem_append.mp z with z|z
  ·refine cf (I.there a ha) fun o' e'=>?_
   rw[fresh a z]at e';cases e'
  ·exact J.rf a ha z
theorem a8.drops{qs:a6}(I:a8 P base H ρ (qs++ae) ob h):a8 P base H ρ ae ob h:=by
 induction qs with
 |nil=>exact I
 |cons q r ih=>exact ih I.leave
end
section
variable {prog:Program}{w:World}{T:Nat→V}{base:Heap}{c:df}{K:Frag}{E:Ev}{n:Nat}
noncomputable def pl(l:List (Addr×Obj)):a6:=l.map fun p=>(p.1,h9 (·=p.2))
theorem og(l:List (Addr×Obj)):(pl l).map (·.1)=l.map (·.1):=by simp[pl,Function.comp]
theorem ip{α:Type}(a:α)(l m r:List α):(a::(l++(m++r))).Perm (m++(a::(l++r))):=by
 have p1:(l++(m++r)).Perm (m++(l++r)):=by
  rw[←List.append_assoc,←List.append_assoc]
  exact List.Perm.append_right _ List.perm_append_comm
 exact(p1.cons a).trans List.perm_middle.symm
theorem aJ.iters{P:Pm}{cx:Cx}{H:HP}{ρ:List Addr}{σ:St}{ae:a6}{h h':Heap}{l:List (Addr×Obj)}(N:aJ P base cx H ρ σ (pl l++ae) h)(hm:f7 cx ae)(k:∀b o,b∉l.map (·.1)→h.get? b=some o→h'.get? b=some o)(hJ:∀a∈l.map (·.1),∃o,h'.get? a=some o) :
    ∃l',l'.map (·.1)=l.map (·.1)∧(∀p∈l',h'.get? p.1=some p.2)∧aJ P base cx H ρ σ (pl l'++ae) h':=by
  have ex:∀as:List Addr,(∀a∈as,∃o,h'.get? a=some o)→∃l':List (Addr×Obj),l'.map (·.1)=as∧∀p∈l',h'.get? p.1=some p.2:=by
    intro as
    induction as with
    |nil=>intro _;exact⟨[],rfl,fun _ m=>by cases m⟩
    | cons a r ih=>
      intro q
      refine cf (q a List.mem_cons_self) fun o ho=>?_
      refine av (ih fun b m=>q b (List.mem_cons_of_mem _ m)) fun l' e1 e2=>?_
      refine⟨(a,o)::l',by rw[List.map_cons,e1],fun p m=>?_⟩
      rcases List.mem_cons.mp m with rfl|m
      · exact ho
      · exact e2 p m
  refine av (ex _ hJ) fun l' e1 e2=>?_
  refine bq N.inv fun m mc I F=>?_
  have I':=(I.perm (ip _ _ _ _)).iters (qs':=pl l') (by rw[og,og,e1]) (by rw[og];exact k) (fun p hp=>by
    refine av (List.mem_map.mp hp) fun q hq rq2=>?_;subst rq2
    exact⟨_,e2 q hq,rfl⟩)
  have mem:∀x∈ae,x∈pl l'++ae:=fun x hx=>List.mem_append_right _ hx
  exact⟨l',e1,e2,⟨⟨m,mc,I'.perm (ip _ _ _ _).symm,F⟩,N.len,gT (fun _ h=>mem _ h) hm.outer,hm.self.imp id fun⟨φ,h1,h2⟩=>⟨φ,mem _ h1,h2⟩⟩⟩
theorem aJ.drops{P:Pm}{cx:Cx}{H:HP}{ρ:List Addr}{σ:St}{ae qs:a6}{h:Heap}(N:aJ P base cx H ρ σ (qs++ae) h)(hm:f7 cx ae):aJ P base cx H ρ σ ae h:=by
 refine bq N.inv fun m mc I F=>?_
 exact⟨⟨m,mc,(I.perm (ip _ _ _ _)).drops,F⟩,N.len,hm.outer,hm.self⟩
theorem aJ.pasts{P:Pm}{cx:Cx}{H:HP}{ρ:List Addr}{σ:St}{ae:a6}{l:List (Addr×Obj)}{h h':Heap}(N:aJ P base cx H ρ σ (pl l++ae) h)(hm:f7 cx ae)(k:∀b o,b∉l.map (·.1)→h.get? b=some o→h'.get? b=some o):aJ P base cx H ρ σ ae h':=by
 refine bq N.inv fun m mc I F=>?_
 exact⟨⟨m,mc,(I.perm (ip _ _ _ _)).pasts (by rw[og];exact k),F⟩,N.len,hm.outer,hm.self⟩
theorem aJ.enters{P:Pm}{cx:Cx}{H:HP}{ρ:List Addr}{σ:St}{ae:a6}{l:List (Addr×Obj)}{h h':Heap}(N:aJ P base cx H ρ σ ae h)(k:∀b o,h.get? b=some o→h'.get? b=some o)(hn:(l.map (·.1)).Nodup)(hf:∀p∈l,h.get? p.1=none∧h'.get? p.1=some p.2):aJ P base cx H ρ σ (pl l++ae) h':=by
 refine bq N.inv fun m mc I F=>?_
 have I':=I.enters (qs:=pl l) k (by rw[og];exact hn) fun p hp=>by
  refine av (List.mem_map.mp hp) fun q hq rq2=>?_;subst rq2
  exact⟨(hf q hq).1,_,(hf q hq).2,rfl⟩
 have mem:∀x∈ae,x∈pl l++ae:=fun x hx=>List.mem_append_right _ hx
 exact⟨⟨m,mc,I'.perm (ip _ _ _ _).symm,F⟩,N.len,gT (fun _ h=>mem _ h) N.outer,N.self.imp id fun⟨φ,h1,h2⟩=>⟨φ,mem _ h1,h2⟩⟩
theorem aJ.plAt{P:Pm}{cx:Cx}{H:HP}{ρ:List Addr}{σ:St}{ae:a6}{h:Heap}{l:List (Addr×Obj)}(N:aJ P base cx H ρ σ (pl l++ae) h){p:Addr×Obj}(hp:p∈l):h.get? p.1=some p.2:=by
 refine bq N.inv fun m mc I F=>?_
 refine av (I.frNs (p.1,h9 (·=p.2)) (.tail _ (List.mem_append_right _ (List.mem_append_left _ (List.mem_map.mpr ⟨p,hp,rfl⟩))))) fun o e z=>?_
 have z:o=p.2:=z
 rw[←z];exact e
theorem aJ.frzAt{P:Pm}{cx:Cx}{H:HP}{ρ:List Addr}{σ:St}{ae:a6}{h:Heap}(N:aJ P base cx H ρ σ ae h){a:Addr}{o:Obj}(e:H a o):h.get? a=some o:=
 let ⟨_,_,I,_⟩:=N.inv;I.frz _ _ e
noncomputable def mQ(T:Nat→V)(w:World)(base:Heap)(E:Ev)(x y:Str)(body:List Stmt)(cx:Cx)(l:List (Addr×Obj))(ae:a6)(vs:List (V×V))(Sw:Nat→Heap→Prop)(Q:Fl→St→Prop)(H:HP)(ρ:List Addr)(s:Shared)(k:Nat)(s':Shared):Prop:=
 ∃i σ' H' ρ' l',k=vs.length+1 - i∧i≤vs.length∧Sw i s'.heap∧n8 E x y body cx.sc (vs.drop i) σ' Q∧l'.map (·.1)=l.map (·.1)∧aJ (pm w T) base cx H' ρ' σ' (pl l'++ae) s'.heap∧aX base H ρ s H' ρ' s'
section
variable {cx:Cx}{x y:Str}{body:List Stmt}{vs:List (V×V)}{Q:Fl→St→Prop}{H:HP}{ρ:List Addr}{ae:a6}{s:Shared}{Q':Flow→Shared→Prop}{EE:Value→Shared→Prop}{I:Addr}{fp wr:List Addr}{Pt:Nat→Array Value→Prop}{Sw:Nat→Heap→Prop}{Mid:Nat→Addr→Heap→Prop}{l:List (Addr×Obj)}
theorem wI(S:dX prog w T base c.R E n)(O:cx.Ok n)(W:WalksT prog w cx.A I fp wr vs.length Pt Sw Mid)(hm:f7 cx ae)(a:j3 w T base cx ae H ρ s Q Q'){i k:Nat}{H':HP}{ρ':List Addr}{σ':St}{Gv:List (Addr×Obj)}{bf:Heap}{s₂:Shared}(ek:k=vs.length+1 - i)(hfp':∀b∈fp,b∈l.map (·.1)∨∃o,H' b o)(lt:i < vs.length)(sM:Sw (i+1) bf)(vh:Gv.map (·.1)=l.map (·.1))(Gw:∀p∈Gv,bf.get? p.1=some p.2)(frz:∀b o,H' b o→bf.get? b=some o)
  (h':(E.ss body cx.sc).run σ' fun f ai=>AN f (n8 E x y body cx.sc (vs.drop (i+1)) ai Q) (Q .next ai) (fun v=>Q (.ret v) ai)) (aI:aJ (pm w T) base cx H' ρ' σ' (pl Gv++ae) s₂.heap) (X':f5 prog w base c.R cx ae H' s₂ EE) (LL:aX base H ρ s H' ρ' s₂) :
  wpAny (model prog w) cx.A (execs body cx.env) (fN (mQ T w base E x y body cx l ae vs Sw Q H ρ s) k Q') EE s₂:=by
 refine S.ss cx body _ _ O h' H' ρ' _ _ (fN (mQ T w base E x y body cx l ae vs Sw Q H ρ s) k Q') EE aI (X'.sub fun _ h=>List.mem_append_right _ h) fun f r bK f9 c0 s₃ bZ cw fk vj=>?_
 have pa:aX base H ρ s f9 c0 s₃:=LL.trans cw
 have vg:aJ (pm w T) base cx f9 c0 bK ae s₃.heap:=bZ.drops hm
 have nx (vj:n8 E x y body cx.sc (vs.drop (i+1)) bK Q):∃m,m < k∧mQ T w base E x y body cx l ae vs Sw Q H ρ s m s₃:=by
  refine⟨_,sy ek lt,i+1,bK,f9,c0,Gv,rfl,lt,?_,vj,vh,bZ,pa⟩
  refine W.frame _ _ _ sM fun b hb o e=>(hfp' b hb).elim (fun q=>?_) fun⟨o',q⟩=>?_
  ·rw[←vh]at q
   refine av (List.mem_map.mp q) fun p hp ep=>?_
   rw[←ep]at e ⊢
   rw[Gw p hp]at e
   rw[←af e];exact bZ.plAt hp
  ·rw[frz _ _ q]at e
   rw[←af e];exact bZ.frzAt (cw.le _ _ q)
 cases fk with
 |next=>exact nx vj
 |cont=>exact nx vj
 |brk=>exact a .next .next _ _ _ _ vg pa .next vj
 |ret q=>exact a _ _ _ _ _ _ vg pa (.ret q) vj
theorem zw(S:dX prog w T base c.R E n){px py pt:Pos}{tk:Nat}{σ:St}(O:cx.Ok n)
  (W:WalksT prog w cx.A I fp wr vs.length Pt Sw Mid) (hfp:∀b∈fp,b∈l.map (·.1)∨∃o,H b o) (hwr:∀b∈wr,b∈l.map (·.1))
  (hP:∀i vals,i < vs.length→Pt i vals→∃v0 v1 u,vals=#[v0,v1]∧vs[i]?=some u∧aj (pm w T) H ρ u.1 v0∧aj (pm w T) H ρ u.2 v1)
  (hI:∀i h,Sw i h→∀a∈l.map (·.1),∃o,h.get? a=some o) (hx:cg cx.sc x=true) (hy:cg cx.sc y=true) (h:n8 E x y body cx.sc vs σ Q) (hst:Sw 0 s.heap) (N:aJ (pm w T) base cx H ρ σ (pl l++ae) s.heap) (hm:f7 cx ae) (X:f5 prog w base c.R cx ae H s EE)
  (a:j3 w T base cx ae H ρ s Q Q') :
  codeAny (model prog w) cx.A (.forLoop (.Tuple [.Name x px,.Name y py] tk pt) (.ref I) body [] cx.env) (fun r s'=>match r with|.ok f=>Q' f s'|.error e=>cameBackBy (model prog w) cx.A cx.env EE e s') s:=by
 refine codeAny_forLoop_any (mQ T w base E x y body cx l ae vs Sw Q H ρ s) ?_ (vs.length+1) ⟨0,σ,H,ρ,l,rfl,Nat.zero_le _,hst,h,rfl,N,.refl⟩
 refine fun k s' hL=>cps fun G kk=>?_
 refine Vj hL fun i σ' H' ρ' l' ek hi hst' h' hl' N' L'=>?_
 have X':=X.later L'
 rcases Nat.lt_or_eq_of_le hi with lt|ei
 ·refine kk (W.item i s' _ _ lt hst' fun Tt vals ao Rb hv hT hTu hMid gL=>?_)
  refine pN (hP i vals lt hv) fun v0 v1 u rq3 hu R0 R1=>?_;subst rq3
  refine W.go _ tk pt i Tt _ _ _ hMid fun aK Nu vk=>?_
  have Rc:aK.IsTuple Tt #[v0,v1]:=hTu.at fun o e=>vk Tt o (W.apart i Tt ao hMid) e
  refine wpAny_assign_Tuple O.handled Rc rfl rfl fun bf Gx=>?_
  replace Gx:Heap.ExtBut aK.objs.size aK bf:=Gx
  have vf:∀b o,aK.get? b=some o→bf.get? b=some o:=fun b o x=>Gx b o (Nat.ne_of_lt (Heap.lt_size x)) x
  have sM:Sw (i+1) bf:=W.frame _ _ _ Nu fun b _ o e=>vf b o e
  obtain⟨Gv,vh,Gw,bZ⟩:=N'.iters hm (h':=bf) (fun b o q e=>by
   rw[hl']at q
   have q':b∉wr:=fun z=>q (hwr b z)
   exact vf _ _ (vk _ _ q' (gL _ _ q' e))) (by rw[hl'];exact hI _ _ sM)
  rw[hl']at vh
  show wpAny _ cx.A (do holding [v1] (assign (.Name x px) cx.env v0);do holding [] (assign (.Name y py) cx.env v1);pure ()) _ _ _
  refine wpAny_bind (wpAny_holding (wpAny_assign_Name (fX (s:={s' with heap:=bf,toks:=Rb}) O bZ hx (R0.mono L'.le L'.grows) fun kU Rd kW=>?_)))
  refine wpAny_bind (wpAny_holding (wpAny_assign_Name (fX (s:={s' with heap:=kU,toks:=Rd}) O kW hy (R1.mono L'.le L'.grows) fun fE Rf pO=>wpAny_pure ?_)))
  rw[List.drop_eq_getElem_cons lt,Option.some.inj ((List.getElem?_eq_getElem lt).symm.trans hu)]at h'
  exact wpAny_mono (wI S O W hm a ek (fun b hb=>(hfp b hb).imp id fun⟨o,e⟩=>⟨o,L'.le _ _ e⟩) lt sM vh Gw (fun _ _=>bZ.frzAt) h' (s₂:={s' with heap:=fE,toks:=Rf}) pO (X'.later (H:=H') (ρ:=ρ') .heap) (L'.trans .heap)) (fun f _ z=>by cases f <;> exact z) X.passes
 ·rw[ei]at hst' h'
  refine kk (W.done s' _ _ hst' fun ao tk hk=>?_)
  (with_reducible refine wpAny_execs_nil ?_)
  rw[List.drop_length]at h'
  exact a .next .next σ' H' ρ' _ (N'.pasts hm fun b o q e=>hk b o (fun z=>q (by rw[hl'];exact hwr b z)) e) (L'.trans .heap) .next h'
end
theorem Fx(G:aY prog w T c K base)(S:dX prog w T base c.R E n){cx:Cx}{p:Pos}{as:List Expr}{σ:Mine.St}{Q:List V→Mine.St→Prop}{H:HP}{ρ:List Addr}{ae:a6}{s:Shared}{Q':Value→Shared→Prop}{EE:Value→Shared→Prop}(O:cx.Ok n)
    {rg:Value} (ha:bH d4 as=true) (kp:Dy K rg) (h:(jh E as cx.sc).run σ Q)
    (N:aJ (pm w T) base cx H ρ σ ae s.heap) (X:f5 prog w base c.R cx ae H s EE)
    (a:∀vs rs aw aT bt s₂,aJ (pm w T) base cx aT bt aw ae s₂.heap→aX base H ρ s aT bt s₂→ak (pm w T) aT bt vs rs→Q vs aw→wpAny (model prog w) cx.A (call rg rs []) Q' EE s₂):wpAny (model prog w) cx.A (callWith p rg [] (backTo p (starEach as cx.env)) []) Q' EE s:=by
  refine callWith_of (P:=K.In) (by rw[jl ha];rfl) (gE kp) ?_
  have main:∀vs rs aw aT bt s₂,aJ (pm w T) base cx aT bt aw ae s₂.heap→aX base H ρ s aT bt s₂→ak (pm w T) aT bt vs rs→Q vs aw→K.In s₂.heap∧wpAny (model prog w) cx.A (call rg ([]++rs) []) Q' EE s₂:=fun vs rs aw aT bt s₂ aI aG bu aK=>
    ⟨G.kin.keeps aI.keep,a vs rs aw aT bt s₂ aI aG bu aK⟩
  cases as with
  |nil=>exact evalArgs_nil3 (main [] [] σ H ρ s N .refl .nil h)
  | cons e r=>
    have q:=S.es cx (e::r) σ _ O h p H ρ ae s (fun rs s₂=>K.In s₂.heap∧wpAny (model prog w) cx.A (call rg ([]++rs) []) Q' EE s₂) EE N X main
    rw[d7 e cx.env r (eV (bF ha).1)]at q ⊢
    exact evalArgs_plain q
theorem zL{vs:List V}:∀(i:Int) (j:Nat) (v:V),vs[j]?=some v→(yq vs i)[j]?=some (.int true (i+j),v):=by
  induction vs with
  |nil=>exact fun _ _ _ h=>nomatch h
  | cons u r ih=>
    intro i j v h
    cases j with
    |zero=>rw[←af h,Int.ofNat_zero,Int.add_zero];rfl
    |succ j=>exact(ih (i+1) j v h).trans (congrArg (fun x=>some (V.int true x,v)) (by lia))
theorem zJ(vs:List V):∀(i:Int),(yq vs i).length=vs.length:=by
 induction vs with
 |nil=>exact fun _=>rfl
 |cons _ r ih=>exact fun i=>congrArg (·+1) (ih (i+1))
theorem Hp(G:aY prog w T c K base)(S:dX prog w T base c.R E n){cx:Cx}{x y:Str}{px py cp tp:Pos}{tk:Nat}{as:List Expr}{body:List Stmt}{σ:Mine.St}{Q:Fl→Mine.St→Prop}{H:HP}{ρ:List Addr}{ae:a6}{s:Shared}{Q':Flow→Shared→Prop}{EE:Value→Shared→Prop}(O:cx.Ok n)
  (hx:cg cx.sc x=true) (hy:cg cx.sc y=true) (hp:bH d4 as=true) (h:yB E x y as body cx.sc σ Q) (N:aJ (pm w T) base cx H ρ σ ae s.heap) (X:f5 prog w base c.R cx ae H s EE) (a:j3 w T base cx ae H ρ s Q Q') :
  wpAny (model prog w) cx.A (callWith cp (.type "enumerate") [] (backTo cp (starEach as cx.env)) []) (fun xv s₁=>wpAny (model prog w) cx.A (pyIter xv) (fun it s₂=>codeAny (model prog w) cx.A (.forLoop (.Tuple [.Name x px,.Name y py] tk tp) it body [] cx.env) (fun r s'=>match r with|.ok f=>Q' f s'|.error e=>cameBackBy (model prog w) cx.A cx.env EE e s') s₂) EE s₁) EE s:=by
 refine Fx G S O hp (.inr (.inr ⟨_,rfl⟩)) h N X fun vs rs ai aB aE s₁ aC ay aR ao=>aM ao fun v ev ao=>aM ao fun p eo ao=>bD ao fun _ ao=>aR.c1 ev fun cJ aR er=>om aC aR eo fun ax rs k aT vm hax aI aG hH hvs=>?_
 rw[er,vm]
 have lt:=Heap.lt_size hax
 have hl:rs.toArray.size=p.1.length:=by rw[List.size_toArray];exact(a9 hvs).symm
 refine call_enumerate_list (l:=ax) (items:=rs.toArray) ⟨_,hax,rfl,_,rfl⟩ fun h' g1 g2 g3 g4=>?_
 (with_reducible refine wpAny_pyIter_enum g1 ?_)
 have W:=WalksT.enumerate (prog:=prog) (w:=w) O.handled (s₁.heap.objs.size+1) s₁.heap.objs.size ax (Nat.succ_ne_self _) (Nat.ne_of_lt (Nat.lt_succ_of_lt lt)) (Nat.ne_of_lt lt) rs.toArray
 rw[hl,←zJ p.1 0]at W
 refine av g2 fun oi hoi hoi'=>?_
 have fr:∀b,s₁.heap.objs.size≤b→s₁.heap.get? b=none:=fun b hb=>Heap.get?_none_of_le hb
 have bZ:aJ (pm w T) base cx aT aE ⟨ai.fm,p.2⟩ (pl [(s₁.heap.objs.size+1,_),(s₁.heap.objs.size,oi)]++ae) h':=aI.enters (l:=[(s₁.heap.objs.size+1,_),(s₁.heap.objs.size,oi)]) g4 (by simp) (fun p hp=>by
  rcases List.mem_cons.mp hp with rfl|hp
  ·exact⟨fr _ (Nat.le_succ _),g1⟩
  ·rw[List.mem_singleton.mp hp];exact⟨fr _ (Nat.le_refl _),hoi⟩)
 have cw:aX base H ρ s aT aE {s₁ with heap:=h'}:=(ay.trans aG).trans ⟨fun _ _ e=>e,fun _ _ e=>.inl e,.refl,rfl,rfl,rfl⟩
 refine zw (s:={s₁ with heap:=h'}) S O W (l:=[(s₁.heap.objs.size+1,_),(s₁.heap.objs.size,oi)]) (fun b hb=>?_) (fun b hb=>by simpa using hb) (fun i vals hi hv=>?_) (fun i h st b hb=>?_) hx hy ao ⟨⟨_,by simpa using g1⟩,⟨oi,hoi,hoi'⟩,⟨_,g4 _ _ hax,rfl,_,rfl⟩⟩ bZ aI.home (X.later cw) fun fl r σ' H' ρ' s' N' L' R' q=>a fl r σ' H' ρ' s' N' (cw.trans L') R' q
 ·simp only [List.mem_cons,List.not_mem_nil,or_false]at hb
  rcases hb with rfl|rfl|rfl
  ·exact .inl (by simp)
  ·exact .inl (by simp)
  ·exact .inr ⟨_,hH⟩
 ·refine bq hv fun t v e1 rq3=>?_;subst rq3
  rw[List.getElem?_toArray]at e1
  refine av (gC hvs e1) fun u e2 R=>?_
  exact⟨_,_,(.int true (0+i),u),rfl,zL 0 i u e2,by rw[Int.zero_add];exact .int,R⟩
 ·obtain⟨⟨old,s1⟩,s2,s3⟩:=st
  simp only [List.map_cons,List.map_nil,List.mem_cons,List.not_mem_nil,or_false]at hb
  rcases hb with rfl|rfl
  ·exact⟨_,s1⟩
  ·refine av s2 fun o ho _=>?_;exact⟨o,ho⟩
end
end
section
section
variable {prog:Program}{w:World}{A:Around}{E:Value→Shared→Prop}{s:Shared}
theorem mB{it t:Addr}{i:Nat}{items:Array Value}{x:Value}{Q:Value→Shared→Prop}(hit:s.heap.IsTupleIter it t i)(ht:s.heap.IsTuple t items)(hx:items[i]?=some x)
  (hQ:∀h',h'.IsTupleIter it t (i+1)→Heap.SameBut it s.heap h'→Q x {s with heap:=h'}):wpAny (model prog w) A (Builtin.SmallTypes.nextOf (.ref it)) Q E s:=by
 refine dC (id hit) fun o ho hc hd=>?_
 obtain⟨ol,hol,_,nl,hdl⟩:=ht
 unfold Builtin.SmallTypes.nextOf
 refine wpAny_bind (wpAny_callSpecial?_slot (name:=Str.ofString "__next__") hit.typeIs F.slot_tuple_iterator_next
  (wpAny_call_entry F.slot_tuple_iterator_next hit.typeIs F.entry_tuple_iterator_next ?_ (F.args_tuple_iterator_next_1 _)))
 show wpAny _ _ (field (.ref it) 0 >>= _) _ _ s
 refine wpAny_bind (wpAny_field ho hd (x:=.ref t) rfl ?_)
 show wpAny _ _ (if(Value.ref t==Value.none)=true then _ else _) _ _ s
 rw[if_neg (show ¬((Value.ref t==Value.none)=true)from Bool.false_ne_true)]
 show wpAny _ _ (field (.ref it) 1 >>= _) _ _ s
 refine wpAny_bind (wpAny_field ho hd (x:=.int i 0) rfl ?_)
 show wpAny _ _ (seqItems? (.ref t) >>= _) _ _ s
 refine wpAny_bind (wpAny_seqItems hol hdl ?_)
 simp only [Int.toNat_natCast,hx]
 refine wpAny_bind (wpAny_setField ho hd (by simp) (wpAny_pure ⟨x,rfl,wpAny_pure (hQ _ ?_ (Heap.SameBut.update ..))⟩))
 exact⟨_,Heap.get?_update_self _ ho (Obj.isFreed_of_fields (Obj.data_mapFields hd _)),(Obj.cls_mapFields ..).trans hc,by
  rw[Obj.data_mapFields hd];simp[rawInt]⟩
theorem nc{it t:Addr}{i:Nat}{items:Array Value}{Q:Value→Shared→Prop}(hh:A.handled=none)(hit:s.heap.IsTupleIter it t i)(ht:s.heap.IsTuple t items)(hx:items[i]?=none)
  (hE:∀h' e,Heap.ExtBut it s.heap h'→(∃o,h'.get? e=some o∧o.cls=.type "StopIteration")→E (.ref e) {s with heap:=h'}):wpAny (model prog w) A (Builtin.SmallTypes.nextOf (.ref it)) Q E s:=by
 refine dC (id hit) fun o ho hc hd=>?_
 obtain⟨ol,hol,_,nl,hdl⟩:=ht
 unfold Builtin.SmallTypes.nextOf
 refine wpAny_bind (wpAny_callSpecial?_slot (name:=Str.ofString "__next__") hit.typeIs F.slot_tuple_iterator_next
  (wpAny_call_entry F.slot_tuple_iterator_next hit.typeIs F.entry_tuple_iterator_next ?_ (F.args_tuple_iterator_next_1 _)))
 show wpAny _ _ (field (.ref it) 0 >>= _) _ _ s
 refine wpAny_bind (wpAny_field ho hd (x:=.ref t) rfl ?_)
 show wpAny _ _ (if(Value.ref t==Value.none)=true then _ else _) _ _ s
 rw[if_neg (show ¬((Value.ref t==Value.none)=true)from Bool.false_ne_true)]
 show wpAny _ _ (field (.ref it) 1 >>= _) _ _ s
 refine wpAny_bind (wpAny_field ho hd (x:=.int i 0) rfl ?_)
 show wpAny _ _ (seqItems? (.ref t) >>= _) _ _ s
 refine wpAny_bind (wpAny_seqItems hol hdl ?_)
 simp only [Int.toNat_natCast,hx]
 refine wpAny_bind (wpAny_rule (wpAny_bind (wpAny_setField ho hd (by simp) ?_)))
 show wpAny _ _ (newExc (.type "StopIteration") [] >>= _) _ _ _
 refine wpAny_bind ?_
 simp only [newExc,newTuple]
 refine wpAny_bind (wpAny_newObj_type ?_ (by size_fits))
 refine wpAny_bind (m:=firstArgMember _ _) (wpAny_of_eq (a:=Value.none) (by first|rfl|(simp only [firstArgMember];rfl)) ?_)
 refine wpAny_newObj_type ?_ (by size_fits)
 simp only [raiseNew]
 refine wpAny_bind (wpAny_handled ?_)
 first|rw[show A.in1.handled=none from hh]|rw[hh]
 refine wpAny_bind (wpAny_pure (wpAny_throw ?_))
 exact hE _ _ (((Heap.SameBut.update ..).extBut.push _).push _) ⟨_,Heap.get?_push_size _ rfl,rfl⟩
structure kH(z TI TO i1 i2 t l:Addr)(xs ys:Array Value)(f0:Value)(i:Nat)(h:Heap):Prop where
 z:IsZip h z TI TO f0
 TI:IsPair h TI (.ref i1) (.ref i2)
 TO:∃a b,IsPair h TO a b
 i1:h.IsTupleIter i1 t i
 i2:h.IsListIter i2 l i
 t:h.IsTuple t xs
 l:h.IsList l ys
theorem kH.frame{z TI TO i1 i2 t l:Addr}{xs ys:Array Value}{f0:Value}{i:Nat}{h h':Heap}(x:kH z TI TO i1 i2 t l xs ys f0 i h)(k:∀b∈[z,TI,TO,i1,i2,t,l],∀o,h.get? b=some o→h'.get? b=some o):kH z TI TO i1 i2 t l xs ys f0 i h':=
 have k:=fun b=>k b
 have m1:z∈[z,TI,TO,i1,i2,t,l]:=.head _
 have m2:TI∈[z,TI,TO,i1,i2,t,l]:=.tail _ (.head _)
 have m3:TO∈[z,TI,TO,i1,i2,t,l]:=.tail _ (.tail _ (.head _))
 have m4:i1∈[z,TI,TO,i1,i2,t,l]:=.tail _ (.tail _ (.tail _ (.head _)))
 have m5:i2∈[z,TI,TO,i1,i2,t,l]:=.tail _ (.tail _ (.tail _ (.tail _ (.head _))))
 have m6:t∈[z,TI,TO,i1,i2,t,l]:=.tail _ (.tail _ (.tail _ (.tail _ (.tail _ (.head _)))))
 have m7:l∈[z,TI,TO,i1,i2,t,l]:=.tail _ (.tail _ (.tail _ (.tail _ (.tail _ (.tail _ (.head _))))))
 ⟨k z m1 _ x.z,k TI m2 _ x.TI,x.TO.imp fun _=>.imp fun _=>k TO m3 _,x.i1.at (k i1 m4),x.i2.at (k i2 m5),x.t.at (k t m6),x.l.at (k l m7)⟩
theorem TP{c z TO i1 i2:Addr}(h:c∉[z,TO,i1,i2]):c≠z∧c≠TO∧c≠i1∧c≠i2:=
 ⟨fun e=>h (e▸.head _),fun e=>h (e▸.tail _ (.head _)),fun e=>h (e▸.tail _ (.tail _ (.head _))),fun e=>h (e▸.tail _ (.tail _ (.tail _ (.head _))))⟩
theorem P1(z TI TO i1 i2:Addr)(l:List Addr):∀c∈[z,TO,i1,i2],c∈z::TI::TO::i1::i2::l:=fun _ h=>List.Sublist.subset (.cons₂ _ (.cons _ (.cons₂ _ (.cons₂ _ (.cons₂ _ (List.nil_sublist _)))))) h
theorem Wz(q:Nat):([q+4,q+2,q+3,q,q+1]:List Nat).Nodup:=by simp
theorem wR{z TI TO i1 i2 t l:Addr}{xs ys:Array Value}{i:Nat}{x y:Value}{Q:Value→Shared→Prop}(D:ZipApart z TI TO i1 i2 t l)(Z:kH z TI TO i1 i2 t l xs ys .none i s.heap)(hx:xs[i]?=some x)(hy:ys[i]?=some y)
  (hQ:∀h',kH z TI TO i1 i2 t l xs ys (rawInt s.heap.objs.size) (i+1) h'→IsPair h' s.heap.objs.size x y→(∀c o,c≠z→c≠TO→c≠i1→c≠i2→s.heap.get? c=some o→h'.get? c=some o)→Q (.ref s.heap.objs.size) {s with heap:=h'}) :
  wpAny (model prog w) A (Builtin.«zip.__next__» ⟨[.ref z],[]⟩) (fun fin s'=>∃v,fin=.done (.ret v)∧Q v s') E s:=by
 obtain⟨hz,hTI,⟨a,b,hTO⟩,h1,h2,ht,hl⟩:=Z
 show wpAny _ _ (field (.ref z) 2 >>= _) _ _ _
 refine wpAny_bind (wpAny_field hz rfl (x:=.bool false) rfl ?_)
 show wpAny _ _ (field (.ref z) 3 >>= _) _ _ _
 refine wpAny_bind (wpAny_field hz rfl (x:=.ref TI) rfl ?_)
 refine wpAny_bind (wpAny_seqItems hTI rfl ?_)
 show wpAny _ _ (Builtin.SmallTypes.ownedTupleIsFree (.ref z) >>= _) _ _ _
 refine wpAny_bind ?_
 unfold Builtin.SmallTypes.ownedTupleIsFree
 refine wpAny_bind (wpAny_field hz rfl (x:=.none) rfl (wpAny_pure ?_))
 simp only [if_true]
 refine wpAny_bind (wpAny_rule ?_)
 refine wpAny_bind (wpAny_field hz rfl (x:=.ref TO) rfl ?_)
 refine wpAny_bind (wpAny_setField_rec hz (by simp) fun ao pb i0=>?_)
 replace pb:IsZip ao z TI TO .ellipsis:=pb
 refine wpAny_bind ?_
 simp only [List.zipIdx_cons,List.zipIdx_nil,List.forIn_cons,List.forIn_nil]
 refine wpAny_bind (wpAny_bind (wpAny_onRaise ?_))
 show wpAny _ _ (Builtin.SmallTypes.nextOf (.ref i1) >>= _) _ _ _
 refine wpAny_bind (mB (h1.extBut i0.extBut D.i1z) (ht.extBut i0.extBut D.l1z) hx fun aK Rg fZ=>wpAny_pure ?_)
 have Gy:IsPair aK TO a b:=fZ.extBut _ _ D.TOi1 (i0.extBut _ _ D.TOz hTO)
 refine wpAny_bind (wpAny_seqItems Gy rfl ?_)
 refine wpAny_bind (wpAny_updateSeq_pair Gy fun bf xR kY=>?_)
 replace xR:IsPair bf TO x b:=xR
 refine wpAny_bind (wpAny_letGo (wpAny_pure ?_))
 refine wpAny_bind (wpAny_bind (wpAny_onRaise ?_))
 show wpAny _ _ (Builtin.SmallTypes.nextOf (.ref i2) >>= _) _ _ _
 refine wpAny_bind (wpAny_nextOf_list_item (((h2.extBut i0.extBut D.i2z).extBut fZ.extBut D.i12.symm).extBut kY.extBut D.TOi2.symm)
  (((hl.extBut i0.extBut D.l2z).extBut fZ.extBut D.l2i1).extBut kY.extBut D.l2TO) hy fun kU Rh vo=>wpAny_pure ?_)
 have Gz:IsPair kU TO x b:=vo.extBut _ _ D.TOi2 xR
 refine wpAny_bind (wpAny_seqItems Gz rfl ?_)
 refine wpAny_bind (wpAny_updateSeq_pair Gz fun fE sN kX=>?_)
 replace sN:IsPair fE TO x y:=sN
 refine wpAny_bind (wpAny_letGo (wpAny_pure (wpAny_pure ?_)))
 refine wpAny_bind (wpAny_seqItems sN rfl ?_)
 refine wpAny_bind (wpAny_newTuple ?_)
 have hsz:fE.objs.size=s.heap.objs.size:=by rw[kX.1,vo.1,kY.1,fZ.1,i0.1]
 have KS:IsZip fE z TI TO .ellipsis:=kX.extBut _ _ D.TOz.symm (vo.extBut _ _ D.i2z.symm (kY.extBut _ _ D.TOz.symm (fZ.extBut _ _ D.i1z.symm pb)))
 have Ri:∀c o,c≠z→c≠TO→c≠i1→c≠i2→s.heap.get? c=some o→fE.get? c=some o:=fun c o c1 c2 c3 c4 e=>
  kX.extBut _ _ c2 (vo.extBut _ _ c4 (kY.extBut _ _ c2 (fZ.extBut _ _ c3 (i0.extBut _ _ c1 e))))
 have Rj:fE.IsTupleIter i1 t (i+1):=((Rg.extBut kY.extBut D.TOi1.symm).extBut vo.extBut D.i12).extBut kX.extBut D.TOi1.symm
 have Rk:fE.IsListIter i2 l (i+1):=Rh.extBut kX.extBut D.TOi2.symm
 have hzlt:z < fE.objs.size:=Heap.lt_size KS
 show wpAny _ _ (Builtin.SmallTypes.ownedTupleHandOut (.ref z) (.ref fE.objs.size) >>= _) _ _ _
 refine wpAny_bind ?_
 unfold Builtin.SmallTypes.ownedTupleHandOut
 have Rl:IsZip (fE.push {cls:=.type "tuple",data:=.seq #[x,y]}) z TI TO .ellipsis:=Heap.get?_push_of_some _ KS
 refine wpAny_bind (wpAny_setField_rec Rl (by simp) fun Nv GA KW=>?_)
 replace GA:IsZip Nv z TI TO (rawInt fE.objs.size):=GA
 refine wpAny_setField_rec GA (by simp) fun GC zC KX=>?_
 replace zC:IsZip GC z TI TO (rawInt fE.objs.size):=zC
 have up:∀c o,c≠z→fE.get? c=some o→GC.get? c=some o:=fun c o c1 e=>KX.extBut _ _ c1 (KW.extBut _ _ c1 (Heap.get?_push_of_some _ e))
 have KY:IsPair GC fE.objs.size x y:=KX.extBut _ _ (Nat.ne_of_gt hzlt) (KW.extBut _ _ (Nat.ne_of_gt hzlt) (Heap.get?_push_size _ rfl))
 rw[hsz]at zC KY
 refine wpAny_pure ⟨_,rfl,?_⟩
 show Q (.ref fE.objs.size) _
 rw[hsz]
 have all:∀c o,c≠z→c≠TO→c≠i1→c≠i2→s.heap.get? c=some o→GC.get? c=some o:=fun c o c1 c2 c3 c4 e=>up c o c1 (Ri c o c1 c2 c3 c4 e)
 exact hQ GC ⟨zC,all _ _ D.TIz D.TITO D.TIi1 D.TIi2 hTI,⟨_,_,up _ _ D.TOz sN⟩,Rj.at fun o e=>up _ o D.i1z e,Rk.at fun o e=>up _ o D.i2z e,ht.at fun o e=>all _ o D.l1z D.l1TO D.l1i1 D.l1i2 e,hl.at fun o e=>all _ o D.l2z D.l2TO D.l2i1 D.l2i2 e⟩ KY all
theorem Aj{z TI TO i1 i2 t l:Addr}{xs ys:Array Value}{i:Nat}{Q:Fin→Shared→Prop}(hh:A.handled=none)(D:ZipApart z TI TO i1 i2 t l)(Z:kH z TI TO i1 i2 t l xs ys .none i s.heap)(hx:xs[i]?=none)
  (hE:∀h' e,(∀c o,c≠z→c≠TO→c≠i1→c≠i2→s.heap.get? c=some o→h'.get? c=some o)→(∃o,h'.get? e=some o∧o.cls=.type "StopIteration")→E (.ref e) {s with heap:=h'}) :
  wpAny (model prog w) A (Builtin.«zip.__next__» ⟨[.ref z],[]⟩) Q E s:=by
 obtain⟨hz,hTI,⟨a,b,hTO⟩,h1,h2,ht,hl⟩:=Z
 show wpAny _ _ (field (.ref z) 2 >>= _) _ _ _
 refine wpAny_bind (wpAny_field hz rfl (x:=.bool false) rfl ?_)
 show wpAny _ _ (field (.ref z) 3 >>= _) _ _ _
 refine wpAny_bind (wpAny_field hz rfl (x:=.ref TI) rfl ?_)
 refine wpAny_bind (wpAny_seqItems hTI rfl ?_)
 show wpAny _ _ (Builtin.SmallTypes.ownedTupleIsFree (.ref z) >>= _) _ _ _
 refine wpAny_bind ?_
 unfold Builtin.SmallTypes.ownedTupleIsFree
 refine wpAny_bind (wpAny_field hz rfl (x:=.none) rfl (wpAny_pure ?_))
 simp only [if_true]
 refine wpAny_bind (wpAny_rule ?_)
 refine wpAny_bind (wpAny_field hz rfl (x:=.ref TO) rfl ?_)
 refine wpAny_bind (wpAny_setField_rec hz (by simp) fun ao pb i0=>?_)
 replace pb:IsZip ao z TI TO .ellipsis:=pb
 refine wpAny_bind ?_
 simp only [List.zipIdx_cons,List.zipIdx_nil,List.forIn_cons,List.forIn_nil]
 refine wpAny_bind (wpAny_bind (wpAny_onRaise ?_))
 show wpAny _ _ (Builtin.SmallTypes.nextOf (.ref i1) >>= _) _ _ _
 refine wpAny_bind (nc hh (h1.extBut i0.extBut D.i1z) (ht.extBut i0.extBut D.l1z) hx fun aK e fZ he=>?_)
 refine av he fun oe hoe hce=>?_
 have KZ:IsZip aK z TI TO .ellipsis:=fZ _ _ D.i1z.symm pb
 have hez:e≠z:=fun x=>by subst x;rw[KZ]at hoe;cases hoe;simp at hce
 refine wpAny_setField_rec KZ (by simp) fun bf _ kY=>hE bf e (fun c o c1 _ c3 _ x=>kY.extBut _ _ c1 (fZ _ _ c3 (i0.extBut _ _ c1 x))) ⟨oe,kY.extBut _ _ hez hoe,hce⟩
theorem Ho(hh:A.handled=none)(z TI TO i1 i2 t l:Addr)(D:ZipApart z TI TO i1 i2 t l)(xs ys:Array Value)(hn:xs.size=ys.size) :
  WalksT prog w A z [z,TI,TO,i1,i2,t,l] [z,TO,i1,i2] xs.size (fun i vals=>∃x y,xs[i]?=some x∧ys[i]?=some y∧vals=#[x,y]) (fun i h=>kH z TI TO i1 i2 t l xs ys .none i h)
   (fun i T h=>kH z TI TO i1 i2 t l xs ys (rawInt T) (i+1) h∧T≠z∧T≠TO∧T≠i1∧T≠i2) where
 sub:=P1 z TI TO i1 i2 [t,l]
 frame:=fun i h h' hst hk=>hst.frame hk
 item:=fun i s Q E hi hst hQ=>by
  have hT:s.TypeIs (.ref z) "zip":=⟨_,hst.z,rfl⟩
  have lt:∀{c o},s.heap.get? c=some o→s.heap.objs.size≠c:=fun e=>Nat.ne_of_gt (Heap.lt_size e)
  unfold pyNext
  refine wpAny_bind (wpAny_attempt (wpAny_callSpecial?_slot (name:=Str.ofString "__next__") hT F.slot_zip_next
   (wpAny_call_entry F.slot_zip_next hT F.entry_zip_next (wR D hst (Array.getElem?_eq_getElem hi) (Array.getElem?_eq_getElem (hn▸hi)) fun h' a1 a2 hk=>wpAny_pure ?_) (F.args_zip_next_1 _))))
  refine hQ s.heap.objs.size #[xs[i],ys[i]'(hn▸hi)] h' s.toks ⟨_,_,Array.getElem?_eq_getElem hi,Array.getElem?_eq_getElem (hn▸hi),rfl⟩ (Nat.le_refl _) ⟨_,a2,rfl,_,rfl⟩ ⟨a1,lt hst.z,?_,?_,?_⟩
   fun c o hc e=>let ⟨a,b,d,f⟩:=TP hc;hk c o a b d f e
  ·refine jr hst.TO fun _ _ e=>?_;exact lt e
  ·refine av hst.i1 fun _ e _=>?_;exact lt e
  ·refine av hst.i2 fun _ e _=>?_;exact lt e
 go:=fun elts k pos i T s Q E hm hQ=>by
  refine w5 hm fun Z t1 t2 t3 t4=>?_
  refine wpAny_letOwnedTupleGo_zip Z.z fun h' hz' hs'=>hQ h' ?_ fun c o hc e=>hs'.extBut _ _ (TP hc).1 e
  refine jr Z.TO fun a b hTO=>?_
  exact⟨hz',hs'.extBut _ _ D.TIz Z.TI,⟨a,b,hs'.extBut _ _ D.TOz hTO⟩,Z.i1.extBut hs'.extBut D.i1z,Z.i2.extBut hs'.extBut D.i2z,Z.t.extBut hs'.extBut D.l1z,Z.l.extBut hs'.extBut D.l2z⟩
 apart:=fun i T h hm hT=>by
  refine w5 hm fun _ t1 t2 t3 t4=>?_
  exact(List.mem_cons.mp hT).elim t1 fun hT=>(List.mem_cons.mp hT).elim t2 fun hT=>(List.mem_cons.mp hT).elim t3 fun hT=>t4 (List.mem_singleton.mp hT)
 done:=fun s Q E hst hQ=>by
  have hT:s.TypeIs (.ref z) "zip":=⟨_,hst.z,rfl⟩
  unfold pyNext
  refine wpAny_bind (wpAny_attempt (wpAny_callSpecial?_slot (name:=Str.ofString "__next__") hT F.slot_zip_next
   (wpAny_call_entry F.slot_zip_next hT F.entry_zip_next (Aj hh D hst (Array.getElem?_eq_none (Nat.le_refl _)) fun h' e hk he=>?_) (F.args_zip_next_1 _))))
  refine av he fun o ho hc=>?_
  refine wpAny_bind (wpAny_isInstance (T:="StopIteration") (b:=true) ⟨o,ho,hc⟩ isSubtype_stop ?_)
  exact wpAny_pure (hQ _ s.toks fun c o hc e=>let ⟨a,b,d,f⟩:=TP hc;hk c o a b d f e)
 self:=fun i s Q E hst hQ=>wpAny_pyIter_zip hst.z hQ
noncomputable abbrev RU(h:Heap)(t:Addr):Heap:=h.push {cls:=.type "tuple_iterator",data:=.fields #[.ref t,.int 0 0]}
noncomputable abbrev R7(h:Heap)(t l:Addr):Heap:=(RU h t).push {cls:=.type "list_iterator",data:=.fields #[.ref l,.int 0 0]}
noncomputable abbrev RQ(h:Heap)(t l:Addr):Heap:=(R7 h t l).push {cls:=.type "tuple",data:=.seq #[.ref h.objs.size,.ref (RU h t).objs.size]}
noncomputable abbrev RW(h:Heap)(t l:Addr):Heap:=(RQ h t l).push {cls:=.type "tuple",data:=.seq #[.none,.none]}
noncomputable abbrev K8(h:Heap)(t l:Addr):Heap:=(RW h t l).push {cls:=.type "zip",data:=.fields #[.none,.bool false,.bool false,.ref (R7 h t l).objs.size,.ref (RQ h t l).objs.size]}
theorem Hm(t l:Addr)(xs ys:Array Value) :
  Meets (Builtin.«zip.__new__» ⟨[.type "zip",.ref t,.ref l],[]⟩) (fun _ R s=>s.heap.IsTuple t xs∧s.heap.IsList l ys∧R (.ok (.ret (.ref (RW s.heap t l).objs.size))) {s with heap:=K8 s.heap t l}):=
 .of_wp fun prog w A R s h=>by
  obtain⟨hp,g,d,tk,os⟩:=s;obtain⟨hl1,hl2,h⟩:=h
  have hsub:=sub_zip
  have hL1:Heap.IsTuple (Shared.heap ⟨hp,g,d,tk,os⟩) t xs:=hl1
  have hL2:Heap.IsList (Shared.heap ⟨hp.push {cls:=.type "tuple_iterator",data:=.fields #[.ref t,.int 0 0]},g,d,tk,os⟩) l ys:=Heap.IsList.push hl2 _
  wp_walk using wpAny_pyIter_tuple hL1,wpAny_pyIter_list hL2
  exact⟨_,rfl,h⟩
theorem wx{t l:Addr}{xs ys:Array Value}{Q:Value→Shared→Prop}(ht:s.heap.IsTuple t xs)(hl:s.heap.IsList l ys)
  (h:∀h',kH (s.heap.objs.size+4) (s.heap.objs.size+2) (s.heap.objs.size+3) s.heap.objs.size (s.heap.objs.size+1) t l xs ys .none 0 h'→(∀c o,s.heap.get? c=some o→h'.get? c=some o)→Q (.ref (s.heap.objs.size+4)) {s with heap:=h'}) :
  wpAny (model prog w) A (call (.type "zip") [.ref t,.ref l]) Q E s:=by
 refine callType_new F.called_zip (by decide) (F.typeCall_zip_2 _ _) (F.newCall_zip_2 _ _) (fun obj=>F.args_object_init_3 obj _ _) F.entry_zip_new
  (Hm t l xs ys) ⟨ht,hl,?_⟩
 have z1:(RU s.heap t).objs.size=s.heap.objs.size+1:=Heap.size_push ..
 have z2:(R7 s.heap t l).objs.size=s.heap.objs.size+2:=by rw[Heap.size_push,z1]
 have z3:(RQ s.heap t l).objs.size=s.heap.objs.size+3:=by rw[Heap.size_push,z2]
 have z4:(RW s.heap t l).objs.size=s.heap.objs.size+4:=by rw[Heap.size_push,z3]
 have g5:(K8 s.heap t l).get? (RW s.heap t l).objs.size=some _:=Heap.get?_push_size _ rfl
 have g4:(K8 s.heap t l).get? (RQ s.heap t l).objs.size=some _:=Heap.get?_push_of_some _ (Heap.get?_push_size _ rfl)
 have g3:(K8 s.heap t l).get? (R7 s.heap t l).objs.size=some _:=Heap.get?_push_of_some _ (Heap.get?_push_of_some _ (Heap.get?_push_size _ rfl))
 have g2:(K8 s.heap t l).get? (RU s.heap t).objs.size=some _:=Heap.get?_push_of_some _ (Heap.get?_push_of_some _ (Heap.get?_push_of_some _ (Heap.get?_push_size _ rfl)))
 have g1:(K8 s.heap t l).get? s.heap.objs.size=some _:=Heap.get?_push_of_some _ (Heap.get?_push_of_some _ (Heap.get?_push_of_some _ (Heap.get?_push_of_some _ (Heap.get?_push_size _ rfl))))
 show _∧_
 rw[z2,z3,z4]at g5
 rw[z1,z2]at g3
 rw[z3]at g4
 rw[z1]at g2
 rw[z4]
 have up:∀c o,s.heap.get? c=some o→(K8 s.heap t l).get? c=some o:=fun c o x=>Heap.get?_push_of_some _ (Heap.get?_push_of_some _ (Heap.get?_push_of_some _ (Heap.get?_push_of_some _ (Heap.get?_push_of_some _ x))))
 exact⟨⟨_,g5,rfl⟩,h _ ⟨g5,g3,⟨_,_,g4⟩,⟨_,g1,rfl,rfl⟩,⟨_,g2,rfl,rfl⟩,ht.at fun o e=>up _ o e,hl.at fun o e=>up _ o e⟩ up⟩
end
section
variable {prog:Program}{w:World}{T:Nat→V}{base:Heap}{c:df}{K:Frag}{E:Ev}{n:Nat}
theorem Cn{vs:List V}:∀(us:List V) (j:Nat) (v u:V),vs[j]?=some v→us[j]?=some u→(GY vs us)[j]?=some (v,u):=by
  induction vs with
  |nil=>exact fun _ _ _ _ h _=>nomatch h
  | cons a r ih=>
    intro us j v u h g
    cases us with
    |nil=>exact nomatch g
    | cons b q=>cases j with
      |zero=>rw[←af h,←af g];rfl
      |succ j=>exact ih q j v u h g
theorem E3{vs:List V}:∀{us:List V},vs.length=us.length→(GY vs us).length=vs.length:=by
  induction vs with
  |nil=>exact fun _=>rfl
  | cons _ r ih=>intro us h;cases us with
    |nil=>cases h
    |cons _ q=>exact congrArg (·+1) (ih (Nat.succ.inj h))
theorem MW{q t l:Nat}(h1:t < q)(h2:l < q):ZipApart (q+4) (q+2) (q+3) q (q+1) t l:=by
 have k:∀a b:Nat,a≠b→@Ne Addr a b:=fun _ _ h=>h
 constructor <;> refine k _ _ ?_ <;> lia
theorem K5(G:aY prog w T c K base)(S:dX prog w T base c.R E n){cx:Cx}{x y:Str}{px py cp tp:Pos}{tk:Nat}{as:List Expr}{body:List Stmt}{σ:Mine.St}{Q:Fl→Mine.St→Prop}{H:HP}{ρ:List Addr}{ae:a6}{s:Shared}{Q':Flow→Shared→Prop}{EE:Value→Shared→Prop}(O:cx.Ok n)
  (hx:cg cx.sc x=true) (hy:cg cx.sc y=true) (hp:bH d4 as=true) (h:Ca E x y as body cx.sc σ Q) (N:aJ (pm w T) base cx H ρ σ ae s.heap) (X:f5 prog w base c.R cx ae H s EE) (a:j3 w T base cx ae H ρ s Q Q') :
  wpAny (model prog w) cx.A (callWith cp (.type "zip") [] (backTo cp (starEach as cx.env)) []) (fun xv s₁=>wpAny (model prog w) cx.A (pyIter xv) (fun it s₂=>codeAny (model prog w) cx.A (.forLoop (.Tuple [.Name x px,.Name y py] tk tp) it body [] cx.env) (fun r s'=>match r with|.ok f=>Q' f s'|.error e=>cameBackBy (model prog w) cx.A cx.env EE e s') s₂) EE s₁) EE s:=by
 refine Fx G S O hp (.inr (.inr ⟨_,rfl⟩)) h N X fun vs rs ai aB aE s₁ aC ay aR ao=>aM ao fun q eq ao=>aM ao fun vs et ao=>aM ao fun p eo ao=>bD ao fun hb ao=>aR.c2 eq fun cJ dH Rt aR er=>Rt.cT et fun ts at_ t1 t2 vm=>om aC aR eo fun ax rs k aT Rm hax aI aG hH hvs=>?_
 have hvu:=Nat.eq_of_beq_eq_true (fw hb).1
 rw[er,vm,Rm]
 have hat:s₁.heap.get? at_=some (fJ ts):=aC.frzAt t1
 have hl:ts.toArray.size=vs.length:=by rw[List.size_toArray];exact(a9 t2).symm
 have hl':rs.toArray.size=p.1.length:=by rw[List.size_toArray];exact(a9 hvs).symm
 refine wx (t:=at_) (l:=ax) (xs:=ts.toArray) (ys:=rs.toArray) ⟨_,hat,rfl,_,rfl⟩ ⟨_,hax,rfl,_,rfl⟩ fun h' Z g4=>?_
 (with_reducible refine wpAny_pyIter_zip Z.z ?_)
 have W:=Ho (prog:=prog) (w:=w) O.handled _ _ _ _ _ at_ ax (MW (Heap.lt_size hat) (Heap.lt_size hax)) ts.toArray rs.toArray (by rw[hl,hl',hvu])
 rw[hl,←E3 hvu]at W
 refine jr Z.TO fun aO bO hTO=>?_
 refine av Z.i1 fun o1 ho1 ho1'=>?_
 refine av Z.i2 fun o2 ho2 ho2'=>?_
 have fr (k:Nat):s₁.heap.get? (s₁.heap.objs.size+k)=none:=Heap.get?_none_of_le (Nat.le_add_right _ _)
 have bZ:aJ (pm w T) base cx aT aE ⟨ai.fm,p.2⟩ (pl [(s₁.heap.objs.size+4,_),(s₁.heap.objs.size+2,_),(s₁.heap.objs.size+3,_),(s₁.heap.objs.size,o1),(s₁.heap.objs.size+1,o2)]++ae) h':=
  aI.enters (l:=[(s₁.heap.objs.size+4,_),(s₁.heap.objs.size+2,_),(s₁.heap.objs.size+3,_),(s₁.heap.objs.size,o1),(s₁.heap.objs.size+1,o2)]) g4 (Wz _)
   (List.forall_mem_cons.mpr ⟨⟨fr 4,Z.z⟩,List.forall_mem_cons.mpr ⟨⟨fr 2,Z.TI⟩,List.forall_mem_cons.mpr ⟨⟨fr 3,hTO⟩,List.forall_mem_cons.mpr ⟨⟨fr 0,ho1⟩,List.forall_mem_cons.mpr ⟨⟨fr 1,ho2⟩,fun _ m=>absurd m List.not_mem_nil⟩⟩⟩⟩⟩)
 have cw:aX base H ρ s aT aE {s₁ with heap:=h'}:=(ay.trans aG).trans ⟨fun _ _ e=>e,fun _ _ e=>.inl e,.refl,rfl,rfl,rfl⟩
 refine zw (s:={s₁ with heap:=h'}) S O W (l:=[(s₁.heap.objs.size+4,_),(s₁.heap.objs.size+2,_),(s₁.heap.objs.size+3,_),(s₁.heap.objs.size,o1),(s₁.heap.objs.size+1,o2)]) (fun b hb=>?_) (P1 _ _ _ _ _ []) (fun i vals hi hv=>?_) (fun i h st=>?_) hx hy ao Z bZ aI.home (X.later cw) fun fl r σ' H' ρ' s' N' L' R' q=>a fl r σ' H' ρ' s' N' (cw.trans L') R' q
 ·refine(List.mem_append.mp (show b∈[s₁.heap.objs.size+4,s₁.heap.objs.size+2,s₁.heap.objs.size+3,s₁.heap.objs.size,s₁.heap.objs.size+1]++[at_,ax]from hb)).elim .inl fun hb=>.inr ((List.mem_cons.mp hb).elim (fun e=>⟨_,e▸aG.le _ _ t1⟩) fun hb=>⟨_,(List.mem_singleton.mp hb)▸hH⟩)
 ·refine dT hv fun x0 y0 e1 e2 rq4=>?_;subst rq4
  rw[List.getElem?_toArray]at e1 e2
  refine av (gC t2 e1) fun u1 e3 R1=>?_
  refine av (gC hvs e2) fun u2 e4 R2=>?_
  exact⟨_,_,(u1,u2),rfl,Cn p.1 i u1 u2 e3 e4,R1.mono aG.le aG.grows,R2⟩
 ·exact List.forall_mem_cons.mpr ⟨⟨_,st.z⟩,List.forall_mem_cons.mpr ⟨⟨_,st.TI⟩,List.forall_mem_cons.mpr ⟨let ⟨_,_,e⟩:=st.TO;⟨_,e⟩,List.forall_mem_cons.mpr ⟨st.i1.imp fun _ e=>e.1,List.forall_mem_cons.mpr ⟨st.i2.imp fun _ e=>e.1,fun _ m=>absurd m List.not_mem_nil⟩⟩⟩⟩⟩
end
end
section
section
variable {prog:Program}{w:World}{T:Nat→V}{base:Heap}{c:df}{K:Frag}{E:Ev}{n:Nat}
theorem lI{e:Expr}(h:cV e=true){ts:List Expr}{k l:Nat}{tp:Pos}{env:Env}:swapsWithSole [.Tuple ts k tp] e l env=pure false:=by
 exact nN (b:=cV e) (by cases e <;> first|rfl|trivial) h
noncomputable def gn(sc:Scope)(l:Nat)(e:Expr):Option Str:=match e with
 |.Name id pos=>if sc.names.lookup id==some .local&&pos.line==l then some id else none
 |_=>none
theorem Aw{sc:Scope}{l:Nat}{t:Expr}(h:iO t=true):gn sc l t=none:=nN (b:=iO t) (by cases t <;> first|rfl|trivial) h
theorem AR{sc:Scope}{l:Nat}{ts:List Expr}(h:eK iO ts=true):(ts.filterMap (gn sc l)).length < ts.length:=by
  induction ts with
  |nil=>cases h
  | cons t r ih=>
    have h:(match iO t with|true=>true|false=>eK iO r)=true:=h
    cases q:iO t with
    |true=>rw[List.filterMap_cons,Aw q];exact Nat.lt_succ_of_le (List.length_filterMap_le ..)
    | false=>
      rw[q]at h
      rw[List.filterMap_cons]
      cases gn sc l t with
      |none=>exact Nat.lt_succ_of_lt (ih h)
      |some _=>exact Nat.succ_lt_succ (ih h)
theorem w0{sc:Scope}{l:Nat}{ts:List Expr}:∀{names:List Str},km ts=some names→bH (fL sc) ts=true→ki l ts=true→ts.filterMap (gn sc l)=names:=by
  induction ts with
  |nil=>exact fun h _ _=>af h
  | cons t r ih=>
    intro names h h2 h3
    refine aA h fun p ep h=>aA h fun l' e h=>ij h3 fun hl h3=>?_
    refine bC (bF h2) fun g1 g2=>?_
    have g1:oX (ft t) (fun p=>jD sc p.1) (wG t)=true:=g1
    rw[ep]at g1
    have et:=dZ ep
    rw[et]at hl
    have hl:p.2.line=l:=Nat.eq_of_beq_eq_true hl
    have q:gn sc l t=some p.1:=by
      rw[et]
      show(if(sc.names.lookup p.1==some .local&&p.2.line==l)=true then some p.1 else none)=some p.1
      rw[(ER g1).1,hl,beq_self_eq_true l,Bool.and_true];rfl
    rw[List.filterMap_cons,q,←af h,ih e g2 h3]
theorem mq{ts:List Expr}:∀{names:List Str},km ts=some names→names.length=ts.length:=by
 induction ts with
 |nil=>exact fun h=>af h▸rfl
 |cons t r ih=>exact fun h=>aA h fun p _ h=>aA h fun l e h=>af h▸congrArg (·+1) (ih e)
theorem y9{G:Prop}{ts:List Expr}{e:Expr}{sc:Scope}{x:Option (List Str)}(h:qx ts e sc=some x)(k0:sF e=none→x=none→G)(k1:∀vs,sF e=some vs→x=none→eK iO ts=true→G)(k2:∀vs,sF e=some vs→x=none→vs.all (foldedForSure 8)=true→G)
  (k3:∀vs names,sF e=some vs→vs.all (foldedForSure 8)=false→vs.all (constantsAlone 8)=false→km ts=some names→DZ ts vs sc names=some x→G):G:=
 dD h (fun vs e h=>iV h (fun a h=>k1 vs e (af h).symm a) fun _ h=>iV h (fun a h=>k2 vs e (af h).symm a) fun a h=>iV h (fun _ h=>nomatch h) fun b h=>aA h fun names en h=>k3 vs names e a b en h) fun e h=>k0 e (af h).symm
theorem zo{G:Prop}{ts vs:List Expr}{sc:Scope}{names:List Str}{x:Option (List Str)}(h:DZ ts vs sc names=some x)(k:bH (fL sc) ts=true→ki ((ts.head?.map (·.pos.line)).getD 0) ts=true→bH d4 vs=true→vs.length=ts.length→names.eraseDups.length=names.length→
  ((ts.length==2||ts.length==3)=true∧x=some names∨(ts.length==2||ts.length==3)=false∧x=none)→G):G:=
 cH h fun a h=>az a fun a b=>az a fun a1 a2=>az b fun b c=>az c fun c d=>k a1 a2 b (Nat.eq_of_beq_eq_true c) (Nat.eq_of_beq_eq_true d) (iV h
  (fun e h=>.inl ⟨by cases q:Nat.beq ts.length 2 with
   |true=>rw[Nat.eq_of_beq_eq_true q];rfl
   |false=>rw[q]at e;rw[Nat.eq_of_beq_eq_true e];rfl,(af h).symm⟩)
  (fun e h=>.inr ⟨by cases q:Nat.beq ts.length 2 with
   |true=>rw[q]at e;cases e
   |false=>rw[q]at e;rw[beq_eq_false_iff_ne.mpr (Nat.ne_of_beq_eq_false q),beq_eq_false_iff_ne.mpr (Nat.ne_of_beq_eq_false e)];rfl,(af h).symm⟩))
theorem z9{ts:List Expr}{e:Expr}{sc:Scope}{names:List Str}(h:qx ts e sc=some (some names)):names.length=ts.length:=
 y9 h (fun _ e=>nomatch e) (fun _ _ e=>nomatch e) (fun _ _ e=>nomatch e) fun vs nms _ _ _ en h=>zo h fun _ _ _ _ _ q=>q.elim (fun q=>af q.2▸mq en) fun q=>nomatch q.2
theorem ku{α:Type}{c:Prop}[Decidable c]{a b:α}(h:b=a):(if c then a else b)=a:=by by_cases q:c;rw[if_pos q];rw[if_neg q,h]
theorem I0{l:List Expr}(h:bH d4 l=true):(l.any fun|.Starred .. => true|_=>false)=false:=by
  show l.any i7=false
  induction l with
  |nil=>rfl
  | cons y r ih=>
    refine bC (bF h) fun q1 q2=>?_
    rw[List.any_cons,ih q2,eV q1];rfl
theorem qZ{cx:Cx}{n:Nat}(O:cx.Ok n):cx.env.blockKind=.function:=by
 show(if cx.sc.kind.isAnnotationScope then ScopeKind.function else cx.sc.kind)=.function
 rw[O.kind];rfl
theorem yb {cx:Cx} {n:Nat} (O:cx.Ok n) {ts:List Expr} {e:Expr} {k:Nat} {tp:Pos} {x:Option (List Str)} (h:qx ts e cx.sc=some x):swappedStores [.Tuple ts k tp] e cx.env=pure x:=by
  have key (vs:List Expr) (kk:Nat) (pp:Pos):swappedStores [.Tuple ts k tp] (.Tuple vs kk pp) cx.env =
        (if(!(ts.length==2||ts.length==3)||vs.length != ts.length||cx.env.blockKind != .function)=true then pure none
        else if(vs.any (fun|.Starred .. => true|_=>false))=true then pure none
        else if((ts.filterMap (gn cx.sc ((ts.head?.map (·.pos.line)).getD 0))).length != ts.length||(ts.filterMap (gn cx.sc ((ts.head?.map (·.pos.line)).getD 0))).eraseDups.length != (ts.filterMap (gn cx.sc ((ts.head?.map (·.pos.line)).getD 0))).length)=true then pure none
          else if(vs.all (foldedForSure 8))=true then pure none
          else if(vs.all (constantsAlone 8))=true then(do unsupported "assign.tuple-of-constant-expressions:order-of-the-stores";return some (ts.filterMap (gn cx.sc ((ts.head?.map (·.pos.line)).getD 0))))
          else pure (some (ts.filterMap (gn cx.sc ((ts.head?.map (·.pos.line)).getD 0))))):=rfl
  refine y9 h (fun e0 ex=>?_) (fun vs e0 ex ha=>?_) (fun vs e0 ex hf=>?_) fun vs names e0 hf hc e1 h=>zo h fun g1 g2 g3 hvl g5 q=>?_
  · rw[ex]
    exact nN (b:=mE (sF e)) (by cases e <;> first|rfl|trivial) (by rw[e0];rfl)
  · refine jr (rY e0) fun kk pp e0=>?_
    rw[e0,ex,key]
    exact ku (ku (if_pos (by rw[bne_iff_ne.mpr (Nat.ne_of_lt (AR ha))];rfl)))
  · refine jr (rY e0) fun kk pp e0=>?_
    rw[e0,ex,key]
    exact ku (ku (ku (if_pos hf)))
  · refine jr (rY e0) fun kk pp e0=>?_
    rw[e0,key]
    refine q.elim (fun⟨q,ex⟩=>?_) fun⟨q,ex⟩=>?_
    · have hlen:=mq e1
      rw[w0 e1 g1 g2,q,hvl,qZ O,I0 g3,hlen,g5,hlen,hf,hc,ex]
      simp only [bne_self_eq_false,Bool.not_true,Bool.or_self,Bool.false_eq_true,if_false]
    · rw[q,ex,if_pos (by rfl)]
theorem pG{sc:Scope}{env:Env}{ts:List Expr}(h:bH (fL sc) ts=true):assignEach ts env=ts.map fun t=>(false,assign t env):=by
  induction ts with
  |nil=>rfl
  | cons t r ih=>
    refine bC (bF h) fun h1 h2=>?_
    rw[List.map_cons,←ih h2]
    exact nN (b:=fL sc t) (by cases t <;> first|rfl|(show bX (jD sc _) _ True;cases jD sc _ <;> first|rfl|trivial)|trivial) h1
theorem jt{A:Around}{EE:Value→Shared→Prop}{s:Shared}{env:Env}{o:Expr}{name:Str}{pos:Pos}{v:Value}{Q:Unit→Shared→Prop}(h:wpAny (model prog w) A (eval o env) (fun ov s₂=>wpAny (model prog w) A (setAttr ov name v) Q EE s₂) EE s) :
  wpAny (model prog w) A (assign (.Attribute o name pos) env v) Q EE s:=fun Γ p hΓ=>by
 simp only [assign_Attribute,Sem.wp_bind',Sem.wp_holding,Sem.wp_cmd_standAt,Sem.wp_release,Sem.wp_pure']
 exact Sem.wp_mono (model prog w) Γ _ (fun ov _ s₂ aK=>aK Γ _ hΓ) (fun _ _ _ h'=>h') _ _ (h Γ _ hΓ)
theorem gb{sc:Scope}{x:Str}(h:jD sc x=true):cg sc x=true:=by
 refine bC (fw h) fun a b=>?_
 show oB (lk x sc.names) _=true
 rw[ix a]
 exact b
theorem wV (G:aY prog w T c K base) (S:dX prog w T base c.R E n) {cx:Cx} (O:cx.Ok n) {Q':Unit→Shared→Prop} {EE:Value→Shared→Prop} {ae:a6} (ts:List Expr):∀(vs:List V) (rs:List Value) (σ:St) (Kq:St→Prop) (H:HP) (ρ:List Addr) (s:Shared),
    kI c E cx.sc ts vs σ Kq→ak (pm w T) H ρ vs rs→aJ (pm w T) base cx H ρ σ ae s.heap→f5 prog w base c.R cx ae H s EE→
    (∀σ' H' ρ' s',aJ (pm w T) base cx H' ρ' σ' ae s'.heap→aX base H ρ s H' ρ' s'→Kq σ'→Q' () s')→wpAny (model prog w) cx.A (assignInOrder (ts.map fun t=>assign t cx.env) rs) Q' EE s:=by
  induction ts with
  |nil=>exact fun vs rs σ Kq H ρ s h hv N X a=>bD h fun e h=>(cU e▸hv).nil' fun e=>e▸wpAny_pure (a _ _ _ _ N .refl h)
  | cons t ts ih=>
    intro vs rs σ Kq H ρ s h hv N X a
    cases vs with
    |nil=>exact h.elim
    | cons v vs=>
      refine hv.cons' fun r rs' hr hv er=>?_
      rw[er]
      show wpAny (model prog w) cx.A (do holding rs' (assign t cx.env r);assignInOrder (ts.map fun t=>assign t cx.env) rs') Q' EE s
      refine wpAny_bind (wpAny_holding ?_)
      refine d8 h (fun p ep h=>bD h fun hx h=>?_) fun _ h=>aM h fun p ep h=>?_
      · rw[dZ ep]
        (with_reducible refine wpAny_assign_Name ?_)
        refine fX O N (gb hx) hr fun h' tk N'=>?_
        exact ih vs rs' ⟨put p.1 v σ.fm,σ.ob⟩ Kq H ρ _ h hv N' (X.later (H:=H) (ρ:=ρ) .heap) fun σ' H' ρ' s' N' L' k=>a σ' H' ρ' s' N' (aX.trans .heap L') k
      · rw[yt ep]
        refine jt ?_
        refine S.ex cx _ _ _ O h _ _ _ _ _ _ N X fun eN cJ ai aB aE s₁ aC ay aR ao=>?_
        refine CE G aC aR (hr.mono ay.le ay.grows) ao fun aw s₂ aI aG aK=>?_
        exact ih vs rs' aw Kq aB aE s₂ aK (hv.mono ay.le ay.grows) aI (X.later (ay.trans aG)) fun σ' H' ρ' s' N' L' k=>a σ' H' ρ' s' N' ((ay.trans aG).trans L') k
theorem xt{cx:Cx}{m:Nat}(O:cx.Ok m){R:Addr→Prop}{Q':Unit→Shared→Prop}{EE:Value→Shared→Prop}{ae:a6}(ts:List Str):∀(vs:List V) (rs:List Value) (σ:St) (Kq:St→Prop) (H:HP) (ρ:List Addr) (s:Shared),
    mL cx.sc ts vs σ Kq→ak (pm w T) H ρ vs rs→aJ (pm w T) base cx H ρ σ ae s.heap→f5 prog w base R cx ae H s EE→
    (∀σ' H' ρ' s',aJ (pm w T) base cx H' ρ' σ' ae s'.heap→aX base H ρ s H' ρ' s'→Kq σ'→Q' () s')→wpAny (model prog w) cx.A (assignInOrder (ts.map fun t=>bindName cx.env t) rs) Q' EE s:=by
  induction ts with
  |nil=>exact fun vs rs σ Kq H ρ s h hv N X a=>bD h fun e h=>(cU e▸hv).nil' fun e=>e▸wpAny_pure (a _ _ _ _ N .refl h)
  | cons x ts ih=>
    intro vs rs σ Kq H ρ s h hv N X a
    cases vs with
    |nil=>exact h.elim
    | cons v vs=>
      refine hv.cons' fun r rs' hr hv er=>bD h fun hx h=>?_
      rw[er]
      show wpAny (model prog w) cx.A (do holding rs' (bindName cx.env x r);assignInOrder (ts.map fun t=>bindName cx.env t) rs') Q' EE s
      refine wpAny_bind (wpAny_holding ?_)
      (with_reducible refine bindName_ ?_)
      refine fX O N (gb hx) hr fun h' tk N'=>?_
      exact ih vs rs' ⟨put x v σ.fm,σ.ob⟩ Kq H ρ _ h hv N' (X.later (H:=H) (ρ:=ρ) .heap) fun σ' H' ρ' s' N' L' k=>a σ' H' ρ' s' N' (aX.trans .heap L') k
theorem Bm{P:Pm}{H:HP}{ρ:List Addr}{vs:List V}{rs:List Value}(h:ak P H ρ vs rs):ak P H ρ vs.reverse rs.reverse:=
 ak.ind (M:=fun vs rs=>ak P H ρ vs.reverse rs.reverse) .nil (fun v r vs rs a _ ih=>by rw[List.reverse_cons,List.reverse_cons];exact i4 ih (.cons a .nil)) h
theorem qw{h h':Heap}(he:Heap.ExtBut h.objs.size h h'):∀b o,h.get? b=some o→h'.get? b=some o:=fun b o e=>he b o (Nat.ne_of_lt (Heap.lt_size e)) e
noncomputable def PB(T:Nat→V)(w:World)(base:Heap)(c:df)(E:Ev)(cx:Cx)(ae:a6)(H:HP)(ρ:List Addr)(s:Shared)(ts:List Expr)(K:List V→St→Prop)(v:Value)(s₁:Shared):Prop:=
 ∃ad rs vs ai aB aE,v=.ref ad∧IsTup s₁.heap ad rs.toArray∧ak (pm w T) aB aE vs rs∧aJ (pm w T) base cx aB aE ai ae s₁.heap∧aX base H ρ s aB aE s₁∧rs.length=ts.length∧K vs ai
theorem E2(G:aY prog w T c K base)(S:dX prog w T base c.R E n){cx:Cx}{ts:List Expr}{k:Nat}{tp p:Pos}{e:Expr}{σ:St}{Q:Fl→St→Prop}{H:HP}{ρ:List Addr}{ae:a6}{s:Shared}{Q':Flow→Shared→Prop}{EE:Value→Shared→Prop}(O:cx.Ok (n+1))
    (hp:cV e=true) (b2:bH (fL cx.sc) ts=true) (h:(E.ex e cx.sc).run σ fun v ai=>oP (vT v) fun vs=>Dl c E ts e cx.sc vs ai Q) (N:aJ (pm w T) base cx H ρ σ ae s.heap) (X:f5 prog w base c.R cx ae H s EE) (a:j3 w T base cx ae H ρ s Q Q') :
    wpAny (model prog w) cx.A (exec (.Assign [.Tuple ts k tp] e p) cx.env) Q' EE s:=by
  have O':=O.less
  have main:wpAny (model prog w) cx.A (eval e cx.env) (PB T w base c E cx ae H ρ s ts fun vs ai=>oP (qx ts e cx.sc) fun o=>oE o (fun names=>mL cx.sc names.reverse vs.reverse ai fun aw=>Q .next aw) (kI c E cx.sc ts vs ai fun aw=>Q .next aw)) EE s:=by
    refine S.ex cx _ _ _ O' h _ _ _ _ _ _ N X fun eN cJ ai aB aE s₁ aC ay aR ao=>aM ao fun vs ev ao=>bD ao fun b1 ao=>aR.cT ev fun rs ad t1 t2 er=>?_
    exact⟨ad,rs,vs,ai,aB,aE,er,⟨_,aC.frzAt t1,rfl,_,rfl⟩,t2,aC,ay,by rw[←a9 t2];exact Nat.eq_of_beq_eq_true b1,ao⟩
  cases hk:qx ts e cx.sc with
  | none=>
    rw[hk]at main
    rw[exec_Assign]
    refine wpAny_bind (wpAny_standAt ?_)
    rw[lI hp]
    refine wpAny_bind (wpAny_pure ?_)
    rw[if_neg (by decide)]
    refine wpAny_bind (wpAny_mono main (fun v s₁ ao=>cps fun G' _=>?_) fun _ _ x=>x)
    obtain⟨ad,rs,vs,ai,aB,aE,er,ht,hv,aC,ay,hl,aK⟩:=ao
    exact aK.elim
  | some x=>
    rw[hk]at main
    cases x with
    | none=>
      refine Assign_Tuple (wpAny_mono main (fun v s₁ ao=>cps fun G' kk=>?_) fun _ _ z=>z) (lI hp) (yb O hk)
      obtain⟨ad,rs,vs,ai,aB,aE,er,ht,hv,aC,ay,hl,aK⟩:=ao
      have ea:=pG (env:=cx.env) b2
      refine kk ?_
      rw[er]
      refine assign_Tuple_tuple O.handled ht (by rw[ea,List.length_map,List.size_toArray,hl]) (by rw[ea];exact List.findIdx?_eq_none_iff.mpr fun x hx=>by obtain⟨t,_,e⟩:=List.mem_map.mp hx;rw[←e]) fun h' he=>?_
      rw[ea,List.map_map]
      exact wV G S O' ts vs rs ai _ aB aE _ aK hv (aC.heap (qw he)) ((X.later ay).later (H:=aB) (ρ:=aE) .heap) fun σ' H' ρ' s' N' L' k=>a .next .next σ' H' ρ' s' N' ((ay.trans .heap).trans L') .next k
    | some names=>
      have hnm:names.length=ts.length:=z9 hk
      refine Assign_Tuple_swapped (wpAny_mono main (fun v s₁ ao=>cps fun G' kk=>?_) fun _ _ z=>z) (lI hp) (yb O hk)
      obtain⟨ad,rs,vs,ai,aB,aE,er,ht,hv,aC,ay,hl,aK⟩:=ao
      refine kk ?_
      rw[er,show names.length=rs.toArray.size by rw[hnm,←hl,List.size_toArray]]
      refine unpackItems_tuple O.handled ht fun h' he=>?_
      exact xt O' names.reverse vs.reverse rs.reverse ai _ aB aE _ aK (Bm hv) (aC.heap (qw he)) ((X.later ay).later (H:=aB) (ρ:=aE) .heap) fun σ' H' ρ' s' N' L' k=>a .next .next σ' H' ρ' s' N' ((ay.trans .heap).trans L') .next k
theorem fP{cx:Cx}{m:Nat}{ae:a6}{f mc:cq}(O:cx.Ok m)(h:cz cx.outer ae)(hs:cx.L0=cx.L∨∃φ,(cx.L0,φ)∈ae∧dj φ):cz (cx.fenv::cx.outer) ((cx.L,a7 f)::(aP cx.cs mc++ae)):=by
 refine⟨fun env he=>?_,fun q hq=>.tail _ (List.mem_append_right _ (h.2 q hq))⟩
 rcases List.mem_cons.mp he with rfl|he
 ·refine⟨by show cx.sc0.kind≠.module;rw[O.kind0];decide,?_⟩
  rcases hs with hs|⟨φ,h1,h2⟩
  ·exact⟨cx.L0,a7 f,rfl,by rw[hs];exact .head _,iA⟩
  ·exact⟨cx.L0,φ,rfl,.tail _ (List.mem_append_right _ h1),h2⟩
 ·obtain⟨h1,L,φ,h2,h3,h4⟩:=h.1 env he
  exact⟨h1,L,φ,h2,.tail _ (List.mem_append_right _ h3),h4⟩
theorem rZ{P:Pm}{H:HP}{ρ:List Addr}{ae:a6}{ob:Tr}{h:Heap}(I:a8 P base H ρ ae ob h){l:List Env}(O:cz l ae):h.FunFrames base l:=by
  induction l with
  |nil=>trivial
  | cons env r ih=>
    obtain⟨h1,L,φ,h2,h3,h4⟩:=O.1 env (.head _)
    refine av (I.frNs _ h3) fun o ho hφ=>?_
    exact⟨h1,⟨L,o,h2,(I.frNew _ h3).1,ho,h4.nf _ o hφ⟩,ih ⟨fun e he=>O.1 e (.tail _ he),O.2⟩⟩
noncomputable abbrev fQ(l:List Env):List Addr:=l.filterMap (·.frame)
theorem qY{l:List Env}{env:Env}{L:Addr}(h:env∈l)(e:env.frame=some L):L∈fQ l:=List.mem_filterMap.mpr ⟨env,h,e⟩
theorem qJ{ae:a6}(hd:(ae.map (·.1)).Nodup){p q:Addr×Fp}(hp:p∈ae)(hq:q∈ae)(e:p.1=q.1):p=q:=by
  induction ae with
  |nil=>cases hp
  | cons r ae ih=>
    rw[List.map_cons,List.nodup_cons]at hd
    rcases List.mem_cons.mp hp with e1|h1
    · rcases List.mem_cons.mp hq with e2|h2
      · rw[e1,e2]
      · exact absurd (List.mem_map.mpr ⟨q,h2,by rw[←e,e1]⟩) hd.1
    · rcases List.mem_cons.mp hq with e2|h2
      · exact absurd (List.mem_map.mpr ⟨p,h1,by rw[e,e2]⟩) hd.1
      · exact ih hd.2 h1 h2
theorem mn{l:List Env}{ae:a6}(O:cz l ae){L:Addr}(h:L∈fQ l):∃φ,(L,φ)∈ae∧dj φ:=by
 refine av (List.mem_filterMap.mp h) fun env he hL=>?_
 obtain⟨_,L',φ,h2,h3,h4⟩:=O.1 env he
 rw[h2]at hL
 cases hL
 exact⟨φ,h3,h4⟩
theorem xd{P:Pm}{H:HP}{ρ:List Addr}{ae:a6}{ob:Tr}{h h':Heap}{l:List Env}{R:Addr→Prop}{C e:Addr}{a0:Value}(I:a8 P base H ρ ae ob h)(O:cz l ae)(hR:R C)(hk:∀b o,h.get? b=some o→h'.get? b=some o)(hf:h.get? e=none)
  (he:∃oe vs,h'.get? e=some oe∧oe.cls=.ref C∧oe.data=.fields vs∧vs[0]?=some a0∧vs[1]?=some .none):dz base R l ae H e h':=by
 have nb:∀L∈fQ l,base.get? L=none∧∀o,¬H L o:=fun L hL=>by
  refine av (mn O hL) fun φ h1 _=>?_
  exact I.frNew _ h1
 refine⟨hideAll h (fQ l),H,fun b o q=>hideAll_get _ (I.keep b o q) fun m=>?_,fun _ _ z=>z,fun _ _ z=>.inl z,fun a o q=>hideAll_get _ (I.frz a o q) fun m=>(nb a m).2 o q,fun p hp=>⟨?_,(I.frNew p hp).2⟩,C,a0,hR,fun b o q=>hk b o (of_hideAll _ q),?_,?_,.inl he⟩
 ·rw[(nb b m).1]at q;cases q
 ·refine av (I.frNs p hp) fun o ho hφ=>?_
  by_cases m:p.1∈fQ l
  ·refine av (mn O m) fun φ h1 h2=>?_
   have e:(p.1,φ)=p:=qJ I.frDup h1 hp rfl
   rw[←e]at hφ ⊢
   exact .inr ⟨h2,o,hk _ _ ho,hφ⟩
  ·exact .inl ⟨o,hideAll_get _ ho m,hφ⟩
 ·cases q:(hideAll h (fQ l)).get? e with
  |none=>rfl
  |some o=>rw[of_hideAll _ q]at hf;cases hf
 ·have:=funFrames_hide (as:=fQ l) (rZ I O) fun env he a ha=>qY he ha
  exact Heap.FunFrames.of_keeps (fun b o e _=>⟨o,hk _ _ e,rfl⟩) this
theorem zI{A:Around}{E:Value→Shared→Prop}{env:Env}{s:Shared}{x:Sem Value}{Q:Flow→Shared→Prop}{C:Addr}{P:RS}
  (hbase:P.bm.contains (.type "BaseException")=true) (hh:A.handled=none)
  (h:wpAny (model prog w) A x (fun v s₁=>∃e t d,v=.ref e∧s₁.heap.get? C=some (P.obj C)∧s₁.heap.get? e=some (fh C t d)∧E (.ref e) s₁) E s) :
  wpAny (model prog w) A (raiseStmt env (some x) none) Q E s:=by
 have hcB:(Value.ref C::P.bm).contains (.type "BaseException")=true:=by rw[List.contains_cons,hbase,Bool.or_true]
 unfold raiseStmt
 refine wpAny_bind (wpAny_mono h (fun v s₁ ao=>cps fun G kk=>?_) fun _ _ x=>x)
 refine pN ao fun e t d ev hC he hE=>?_
 refine kk ?_
 rw[ev]
 obtain⟨hp,g,d',tk,os⟩:=s₁
 repeat (first|with_reducible refine wpAny_loadPart_at he ?_|with_reducible refine wpAny_loadPart_at hC ?_|(with_reducible refine wpAny_isSubtype_exc hC ?_;rw[hcB])|wp_step)
 exact wpAny_raiseNew_none hh hE
theorem Lg{e:Expr}{x:Str}(h:Mm e=some x):∃k p,e=.Constant (.str x) k p:=by
 have q:oX (Mm e) (fun x=>∃k p,e=.Constant (.str x) k p) True:=by
  cases e with
  |Constant k=>cases k <;> first|exact⟨_,_,rfl⟩|trivial
  |_=>trivial
 rw[h]at q;exact q
theorem Dm{e:Expr}{p}(h:Ci e=some p):∃np kp kk cpos,e=.Call (.Name p.1 np) [.Constant (.str p.2) kp kk] [] cpos:=
 aA h fun q eq h=>aA h fun a ea h=>aA h fun x ex h=>by
  refine cf (n9 eq) fun pos e1=>?_
  refine jr (Lg ex) fun k p' e2=>?_
  exact⟨q.2.1,k,p',pos,by rw[e1,C8 ea,e2,←af h]⟩
theorem DB{x:Str}{D:Addr}(h:RY c x=some D):c.G x=some (.glob D):=aA h fun v e h=>by rw[e,NY h]
theorem AJ(G:aY prog w T c K base){cx:Cx}{x str:Str}{np kk cpos p:Pos}{kp:Nat}{σ:St}{Q:Fl→St→Prop}{H:HP}{ρ:List Addr}{ae:a6}{s:Shared}{Q':Flow→Shared→Prop}{EE:Value→Shared→Prop}(O:cx.Ok (n+1))
  (h:(CY c x str cx.sc).run σ Q) (N:aJ (pm w T) base cx H ρ σ ae s.heap) (X:f5 prog w base c.R cx ae H s EE) :
  wpAny (model prog w) cx.A (exec (.Raise (some (.Call (.Name x np) [.Constant (.str str) kp kk] [] cpos)) none p) cx.env) Q' EE s:=by
 refine iN h fun hb h=>az hb fun hg hs=>jO h fun C eX h=>jO h fun D eG h=>iN h fun eCD hR=>?_
 have eG:=DB eG
 rw[←Nat.eq_of_beq_eq_true eCD]at eG
 have hR:c.R C:=hR
 refine bC (iS hg) fun g1 g2=>?_
 refine bq N.inv fun m mc I F=>?_
 have Xc:=G.xc x C eX
 refine av Xc.cls fun P hC hbase=>?_
 show wpAny (model prog w) cx.A (do standAt p;raiseStmt cx.env (some (do let v ←eval (.Call (.Name x np) [.Constant (.str str) kp kk] [] cpos) cx.env;standAt p;pure v)) none) Q' EE s
 refine wpAny_bind (wpAny_standAt (zI (C:=C) (P:=P) hbase O.handled (wpAny_bind ?_)))
 refine Call_Name rfl ?_
 have main:wpAny (model prog w) cx.A (callWith cpos (.ref C) [] (backTo cpos (starEach [.Constant (.str str) kp kk] cx.env)) []) (fun v s₁=>wpAny (model prog w) cx.A (standAt p >>= fun _=>pure v) (fun v s₁=>∃e t d,v=.ref e∧s₁.heap.get? C=some (P.obj C)∧s₁.heap.get? e=some (fh C t d)∧EE (.ref e) s₁) EE s₁) EE s:=by
  refine callWith_of (P:=K.In) rfl (gE (.inl Xc.keep)) ?_
  refine evalArgs_plain ?_
  refine spliced_more (env:=cx.env) (e:=.Constant (.str str) kp kk) (rest:=[]) ?_
  (with_reducible refine Constant_str ?_)
  refine spliced_none ⟨G.kin.keeps N.keep,?_⟩
  refine Xc.make cx.A _ str _ _ _ _ I.keep O.frames O.handled (by have:=O.depth;lia) (by have:=O.units;lia) (se hs) fun e t' d h' tk he hf hk=>wpAny_bind (wpAny_standAt (wpAny_pure ⟨e,t',d,rfl,hk _ _ (I.keep _ _ hC),he,?_⟩))
  exact X.takes e _ rfl rfl rfl ((xd I (fP O N.outer N.self) hR hk hf ⟨_,_,he,rfl,rfl,rfl,rfl⟩).sub fun p hp=>.tail _ (List.mem_append_right _ hp))
 refine dT G.g fun mg mb n1 n2 g3=>?_
 refine av (g3 x _ eG) fun r hr hm=>?_
 refine(hr (pm w T) H ρ).glob' fun er=>?_
 rw[er]at hm
 have n1:=n1.keeps I.keep
 have n2:=n2.keeps I.keep
 (with_reducible refine Name_function_global ?_ ?_ ?_ g2)
 ·exact O.kind
 ·exact g1
 ·exact hm.elim (fun hm=>by with_reducible exact loadGlobal_global n1 hm main) fun⟨hm,hb⟩=>by with_reducible exact loadGlobal_builtin n1 hm n2 hb main
theorem EP(G:aY prog w T c K base){cx:Cx}{e cause:Option Expr}{p:Pos}{σ:St}{Q:Fl→St→Prop}{H:HP}{ρ:List Addr}{ae:a6}{s:Shared}{Q':Flow→Shared→Prop}{EE:Value→Shared→Prop}(O:cx.Ok (n+1))
  (h:(E8 c e cause cx.sc).run σ Q) (N:aJ (pm w T) base cx H ρ σ ae s.heap) (X:f5 prog w base c.R cx ae H s EE) :
  wpAny (model prog w) cx.A (exec (.Raise e cause p) cx.env) Q' EE s:=
 jO h fun e ee h=>jO h fun q eq h=>iN h fun b h=>by
  refine N4 (Dm eq) fun np kp kk cpos e'=>?_
  rw[ee,e',jS b]
  exact AJ G O h N X
theorem B7{t:Ti}(h:ED t=true):t=.enumerate:=by cases t <;> first|rfl|cases h
theorem Jb{t:Ti}(h:JN t=true):t=.zip:=by cases t <;> first|rfl|cases h
theorem HW(G:aY prog w T c K base)(S:dX prog w T base c.R E n){cx:Cx}{x y:Str}{px py p tp:Pos}{tk:Nat}{iter:Expr}{body:List Stmt}{σ:St}{Q:Fl→St→Prop}{H:HP}{ρ:List Addr}{ae:a6}{s:Shared}{Q':Flow→Shared→Prop}{EE:Value→Shared→Prop}(O:cx.Ok (n+1))
  (h:(J6 E x y iter body cx.sc).run σ Q) (N:aJ (pm w T) base cx H ρ σ ae s.heap) (X:f5 prog w base c.R cx ae H s EE) (a:j3 w T base cx ae H ρ s Q Q') :
  wpAny (model prog w) cx.A (exec (.For (.Tuple [.Name x px,.Name y py] tk tp) iter body [] p) cx.env) Q' EE s:=by
 have O':=O.less
 refine iN h fun hb h=>az hb fun b1 b2=>az b2 fun b2 _=>jO h fun q eq h=>iN h fun ha h=>?_
 have hx:cg cx.sc x=true:=gb b1
 have hy:cg cx.sc y=true:=gb b2
 refine cf (n9 eq) fun pos ei=>?_
 rw[ei]
 (with_reducible refine wpAny_For ?_ (gc rfl _))
 refine Call_Name rfl ?_
 refine S.ex cx _ _ _ O' h _ _ _ _ _ _ N X fun eN cJ ai aB aE s₁ aC ay aR ao=>aM ao fun t et ao=>aR.cTy et fun er=>pn ao (fun e ao=>?_) fun _ ao=>bD ao fun e ao=>?_
 ·rw[er,B7 e]
  exact wpAny_mono (Hp G S O' hx hy ha ao aC (X.later ay) fun fl r σ' H' ρ' s' N' L' R' q=>a fl r σ' H' ρ' s' N' (ay.trans L') R' q) (fun _ _ z=>z) fun _ _ z=>z
 ·rw[er,Jb e]
  exact wpAny_mono (K5 G S O' hx hy ha ao aC (X.later ay) fun fl r σ' H' ρ' s' N' L' R' q=>a fl r σ' H' ρ' s' N' (ay.trans L') R' q) (fun _ _ z=>z) fun _ _ z=>z
theorem Ad{e o i:Expr}(h:cV e=true){p:Pos}{k:Nat}{env:Env}:swapsWith e (some (.Subscript o i p)) k env=pure false:=by
 exact nN (b:=cV e) (by cases e <;> first|rfl|trivial) h
theorem wA(S:dX prog w T base c.R E n){cx:Cx}{o i e:Expr}{p p':Pos}{σ:St}{Q:Fl→St→Prop}{H:HP}{ρ:List Addr}{ae:a6}{s:Shared}{Q':Flow→Shared→Prop}{EE:Value→Shared→Prop}(O:cx.Ok (n+1))
  (h:(tq E o i e cx.sc).run σ Q) (N:aJ (pm w T) base cx H ρ σ ae s.heap) (X:f5 prog w base c.R cx ae H s EE) (a:j3 w T base cx ae H ρ s Q Q') :
  wpAny (model prog w) cx.A (exec (.Assign [.Subscript o i p'] e p) cx.env) Q' EE s:=by
 have O':=O.less
 refine iN h fun hb h=>az hb fun hp hs=>?_
 refine wpAny_Assign_Subscript ?_ (Ad hp)
 refine S.ex cx _ _ _ O' h _ _ _ _ _ _ N X fun eN cJ ai aB aE s₁ aC ay aR ao=>?_
 refine S.ex cx _ _ _ O' ao _ _ _ _ _ _ aC (X.later ay) fun kT dH aw aT bt s₂ aI aG bu aK=>?_
 refine S.ex cx _ _ _ O' aK _ _ _ _ _ _ aI ((X.later ay).later aG) fun Q9 JF bK f9 c0 s₃ bZ cw fk bf=>?_
 exact MR O bZ (bu.mono cw.le cw.grows) fk ((aR.mono aG.le aG.grows).mono cw.le cw.grows) bf fun eM sJ kW hM kU=>a .next .next eM f9 c0 sJ kW (((ay.trans aG).trans cw).trans hM) .next kU
noncomputable def k7(prog:Program)(w:World)(T:Nat→V)(base:Heap)(R:Addr→Prop)(cx:Cx)(st:Stmt)(a:cb Fl):Prop:=
 ∀σ Q,a.run σ Q→∀H ρ ae s Q' EE,aJ (pm w T) base cx H ρ σ ae s.heap→f5 prog w base R cx ae H s EE→j3 w T base cx ae H ρ s Q Q'→wpAny (model prog w) cx.A (exec st cx.env) Q' EE s
theorem k7.b{R:Addr→Prop}{cx:Cx}{st:Stmt}{b:Bool}{a:cb Fl}(k:b=true→k7 prog w T base R cx st a):k7 prog w T base R cx st (bA b a):=fun σ Q h=>iN h fun eb h=>k eb σ Q h
theorem k7.o{R:Addr→Prop}{cx:Cx}{st:Stmt}{α:Type}{o:Option α}{f:α→cb Fl}(k:∀x,o=some x→k7 prog w T base R cx st (f x)):k7 prog w T base R cx st (oA o f):=fun σ Q h=>jO h fun x eo h=>k x eo σ Q h
theorem k7.x{R:Addr→Prop}{cx:Cx}{st:Stmt}{α:Type}{o:Option α}{f:α→cb Fl}{a:cb Fl}(k:∀x,o=some x→k7 prog w T base R cx st (f x))(l:o=none→k7 prog w T base R cx st a):k7 prog w T base R cx st (oX o f a):=fun σ Q h=>Ke h (fun x eo h=>k x eo σ Q h) fun eo h=>l eo σ Q h
theorem Hz(G:aY prog w T c K base)(S:dX prog w T base c.R E n){cx:Cx}{t e:Expr}{p:Pos}(O:cx.Ok (n+1)):k7 prog w T base c.R cx (.Assign [t] e p) (Kl c E t e cx.sc):=by
  have O':=O.less
  cases t with
  | Name x xp=>
    refine .b fun hb=>az hb fun hx hp=>?_
    intro σ Q h H ρ ae s Q' EE N X a
    (with_reducible refine wpAny_Assign_Name ?_ (Di hp))
    refine S.ex cx _ _ _ O' h _ _ _ _ _ _ N X fun eN cJ ai aB aE s₁ aC ay aR ao=>?_
    exact fX O aC hx aR fun h' tk N'=>a .next .next ⟨put _ _ ai.fm,ai.ob⟩ aB aE _ N' (ay.trans .heap) .next ao
  | Attribute o name xp=>
    refine .b fun hp=>?_
    intro σ Q h H ρ ae s Q' EE N X a
    refine plainObj_wpAny_Assign_Attribute ?_ (zN hp)
    refine S.ex cx _ _ _ O' h _ _ _ _ _ _ N X fun eN cJ ai aB aE s₁ aC ay aR ao=>?_
    refine S.ex cx _ _ _ O' ao _ _ _ _ _ _ aC (X.later ay) fun kT dH aw aT bt s₂ aI aG bu aK=>?_
    exact CE G aI bu (aR.mono aG.le aG.grows) aK fun bK s₃ bZ cw bf=>a .next .next bK aT bt s₃ bZ ((ay.trans aG).trans cw) .next bf
  |Subscript=>exact fun σ Q h H ρ ae s Q' EE N X a=>wA S O h N X a
  |Tuple=>exact .b fun hb=>az hb fun b2 hp σ Q h H ρ ae s Q' EE N X a=>E2 G S O hp b2 h N X a
  |_=>exact fun _ _ h=>h.elim
theorem Hb(S:dX prog w T base c.R E n){cx:Cx}{e:Expr}{p:Pos}(O:cx.Ok (n+1)):k7 prog w T base c.R cx (.Expr e p) (KI E e cx.sc):=by
 have O':=O.less
 refine .b fun hp=>?_
 intro σ Q h H ρ ae s Q' EE N X a
 (with_reducible refine wpAny_Expr ?_ ?_ (Am hp))
 ·refine S.ex cx _ _ _ O' h _ _ _ _ _ _ N X fun eN cJ ai aB aE s₁ aC ay aR ao=>bD ao fun hr ao=>?_
  have q:=a .next .next ai aB aE s₁ aC ay .next ao
  clear a N X h aC ay ao
  cases aR <;> first|exact q|cases hr
 ·show(cx.sc.kind==.module&&_)=false
  rw[O.kind];rfl
theorem UK{l:List Expr}{p}(h:x2 l=some p):l=[p.1,p.2]:=by
 cases l with
 |nil=>cases h
 |cons a r=>exact aA h fun d e h=>by rw[C8 e,←af h]
theorem H7{e:Expr}{p}(h:Ky e=some p):∃a b k q,e=.Tuple [.Name p.1 a,.Name p.2 b] k q:=
 aA h fun l el h=>aA h fun q eq h=>aA h fun a ea h=>aA h fun b eb h=>by
  refine jr (rY el) fun k p' e=>?_
  exact⟨a.2,b.2,k,p',by rw[e,UK eq,dZ ea,dZ eb,←af h]⟩
theorem Ox(G:aY prog w T c K base)(S:dX prog w T base c.R E n){cx:Cx}{st:Stmt}(O:cx.Ok (n+1)):k7 prog w T base c.R cx st (Ek c E st cx.sc):=by
  have O':=O.less
  cases st with
  | Return v p=>
    intro σ Q h H ρ ae s Q' EE N X a
    cases v with
    | none=>
      (with_reducible refine wpAny_Return_none ?_)
      exact a _ _ _ _ _ _ N .refl (.ret .none) h
    | some e=>
      (with_reducible refine wpAny_Return_some ?_)
      exact S.ex cx _ _ _ O' h _ _ _ _ _ _ N X fun eN cJ ai aB aE s₁ aC ay aR ao=>a _ _ _ _ _ _ aC ay (.ret aR) ao
  | If=>
    intro σ Q h H ρ ae s Q' EE N X a
    (with_reducible refine wpAny_If ?_)
    refine S.tr cx _ _ _ O' h _ _ _ _ _ _ _ (.inl rfl) N X fun b ai aB aE s₁ aC ay ao=>?_
    cases b with
    |true=>exact S.ss cx _ _ _ O' ao _ _ _ _ _ _ aC (X.later ay) fun f r aw aT bt s₂ aI aG bu aK=>a _ _ _ _ _ _ aI (ay.trans aG) bu aK
    |false=>exact S.ss cx _ _ _ O' ao _ _ _ _ _ _ aC (X.later ay) fun f r aw aT bt s₂ aI aG bu aK=>a _ _ _ _ _ _ aI (ay.trans aG) bu aK
  |Assign=>exact .o fun t et=>by rw[C8 et];exact Hz G S O
  | For=>
    refine .b fun e1=>.x (fun q eq=>.b fun hb=>az hb fun hx hi=>?_) fun _=>.o fun q eq=>?_
    · intro σ Q h H ρ ae s Q' EE N X a
      rw[cU e1,dZ eq];exact LV S O hx hi h N X a
    · intro σ Q h H ρ ae s Q' EE N X a
      refine N4 (H7 eq) fun px py k p e=>?_
      rw[cU e1,e];exact HW G S O h N X a
  |While=>exact .b fun e1=>by rw[cU e1];exact fun σ Q h H ρ ae s Q' EE N X a=>Gm S O _ h N X a
  | Pass=>
    intro σ Q h H ρ ae s Q' EE N X a
    (with_reducible refine wpAny_Pass ?_)
    exact a _ _ _ _ _ _ N .refl .next h
  | Continue=>
    intro σ Q h H ρ ae s Q' EE N X a
    (with_reducible refine wpAny_Continue ?_)
    exact a _ _ _ _ _ _ N .refl .cont h
  | Break=>
    intro σ Q h H ρ ae s Q' EE N X a
    (with_reducible refine wpAny_Break ?_)
    exact a _ _ _ _ _ _ N .refl .brk h
  |Expr=>exact Hb S O
  |Raise=>exact fun σ Q h H ρ ae s Q' EE N X _=>EP G O h N X
  |_=>exact fun _ _ h=>h.elim
theorem U6(G:aY prog w T c K base)(S:dX prog w T base c.R E n):∀(cx:Cx) st σ Q,cx.Ok (n+1)→(Ek c E st cx.sc).run σ Q→∀H ρ ae s Q' EE,aJ (pm w T) base cx H ρ σ ae s.heap→f5 prog w base c.R cx ae H s EE→j3 w T base cx ae H ρ s Q Q'→
  wpAny (model prog w) cx.A (exec st cx.env) Q' EE s:=fun _ _ σ Q O h H ρ ae s Q' EE N X a=>Ox G S O σ Q h H ρ ae s Q' EE N X a
theorem OL(G:aY prog w T c K base)(S:dX prog w T base c.R E n):∀(cx:Cx) l σ Q,cx.Ok (n+1)→(BR c E l cx.sc).run σ Q→∀H ρ ae s Q' EE,aJ (pm w T) base cx H ρ σ ae s.heap→f5 prog w base c.R cx ae H s EE→j3 w T base cx ae H ρ s Q Q'→
    wpAny (model prog w) cx.A (execs l cx.env) Q' EE s:=by
  intro cx l σ Q O h H ρ ae s Q' EE N X a
  have O':=O.less
  cases l with
  | nil=>
    (with_reducible refine wpAny_execs_nil ?_)
    exact a _ _ _ _ _ _ N .refl .next h
  | cons st r=>
    (with_reducible refine wpAny_execs_cons ?_)
    refine U6 G S cx _ _ _ O h _ _ _ _ _ _ N X fun f r ai aB aE s₁ aC ay aR ao=>?_
    cases aR with
    |next=>exact S.ss cx _ _ _ O' ao _ _ _ _ _ _ aC (X.later ay) fun f r aw aT bt s₂ aI aG bu aK=>a _ _ _ _ _ _ aI (ay.trans aG) bu aK
    |brk=>exact a _ _ _ _ _ _ aC ay .brk ao
    |cont=>exact a _ _ _ _ _ _ aC ay .cont ao
    |ret q=>exact a _ _ _ _ _ _ aC ay (.ret q) ao
end
end
section
section
variable {prog:Program}{w:World}{T:Nat→V}{base:Heap}{c:df}{K:Frag}{E:Ev}{n:Nat}
theorem MA{P:Pm}{H:HP}{ρ:List Addr}{vs:List V}{rs:List Value}{k:Nat}{v:V}(h:ak P H ρ vs rs)(e:sO vs k=some v):∃p r q,rs=p++r::q∧p.length=k∧aj P H ρ v r∧ak P H ρ (cP vs k) (p++q):=by
  induction vs generalizing rs k with
  |nil=>cases e
  | cons u vs ih=>
    refine h.cons' fun Rn l a b er=>?_
    cases k with
    |zero=>exact⟨[],Rn,l,er,rfl,af e▸a,b⟩
    | succ k=>
      refine pN (ih b e) fun p r q h1 h2 h3 h4=>?_
      exact⟨Rn::p,r,q,by rw[er,h1];rfl,congrArg (·+1) h2,h3,.cons a h4⟩
theorem m9{x:Int}(h:cZ x=true):0≤x∧x < 256:=⟨of_decide_eq_true (fw h).1,of_decide_eq_true (fw h).2⟩
theorem rl{l:List (Bool×Int)}{p:Prop}(h:sC l p):(∀x∈ph l,0≤x∧x < 256)∧p:=by
  induction l with
  |nil=>exact⟨fun _ m=>absurd m List.not_mem_nil,h⟩
  | cons x r ih=>
    refine bC (lz h) fun h1 h2=>?_
    exact⟨List.forall_mem_cons.mpr ⟨m9 h1,(ih h2).1⟩,(ih h2).2⟩
theorem sj{l:List Int}(h:∀x∈l,0≤x∧x < 256):aF (byteArr l)=l:=by
  induction l with
  |nil=>rfl
  | cons x r ih=>
    refine bC (h x (.head _)) fun h1 h2=>?_
    have ih:=ih fun y hy=>h y (.tail _ hy)
    unfold aF byteArr at ih ⊢
    rw[List.map_cons]
    show((x.toNat % 256:Nat):Int)::_=_
    rw[ih,Nat.mod_eq_of_lt (by lia),Int.toNat_of_nonneg h1]
theorem Lz(p:List Value)(r:Value)(q:List Value):kl_cut (p++r::q) p.length=some (p,r,q):=by
  induction p with
  |nil=>rfl
  | cons x p ih=>
    show(match kl_cut (p++r::q) p.length with|some (p,y,q)=>some (x::p,y,q)|none=>none)=_
    rw[ih]
theorem H4{k:Nat}(h:k≤1000):Builtin.List.listFitsIndex (Int.ofNat k)=true:=by
 unfold Builtin.List.listFitsIndex
 rw[Bool.and_eq_true]
 have:=Int.ofNat_le.mpr h
 constructor <;> apply decide_eq_true <;> simp only [Int.ofNat_eq_natCast]at*<;> lia
theorem zx{a:List Value}{n:Nat}(h:n≤2000):¬(!a.toArray.isEmpty&&Builtin.List.listTooLong n)=true:=by
 have:Builtin.List.listTooLong n=false:=by
  unfold Builtin.List.listTooLong
  rw[sizeLine_eq]
  exact decide_eq_false (by lia)
 rw[this,Bool.and_false];decide
theorem jk{cx:Cx}{H:HP}{ρ:List Addr}{ae:a6}{fm:List (Str×V)}{ob:bb}{h h':Heap}{i:Nat}{a:Addr}{vs ws:List V}{rs:List Value}{k:Nat}(N:aJ (pm w T) base cx H ρ ⟨fm,ob⟩ ae h)(e:ob.tr.get i=some (.list vs))(ha:ρ[i]?=some a)
  (hs:∀b o,b≠a→b≠cx.L→h.get? b=some o→h'.get? b=some o) (hn:∀m,h.Ns cx.L m→h'.Ns cx.L m) (ho:h'.get? a=some (aN rs k)) (hv:ak (pm w T) H ρ ws rs) :
  aJ (pm w T) base cx H ρ ⟨fm,da ob i (.list ws)⟩ ae h':=by
 exact N.turn e rfl ha hs hn (.list ho hv) ⟨_,ho⟩
theorem Mo{cx:Cx}{i:Nat}{a ad:Addr}{k k2:Nat}{vs ws:List V}{rs ts:List Value}{fm:List (Str×V)}{ob:bb}{Q:V→St→Prop}{H:HP}{ρ:List Addr}{ae:a6}{s:Shared}{Q':Value→Shared→Prop}{EE:Value→Shared→Prop}
  (N:aJ (pm w T) base cx H ρ ⟨fm,ob⟩ ae s.heap) (eo:ob.tr.get i=some (.list vs)) (ha:ρ[i]?=some a) (ho:s.heap.get? a=some (aN rs k)) (hvs:ak (pm w T) H ρ vs rs) (ho2:s.heap.get? ad=some (aN ts k2)) (hws:ak (pm w T) H ρ ws ts)
  (hf1:bN vs.length=true) (hf2:bN ws.length=true) (ne:ad≠a) (h:Q .none ⟨fm,da ob i (.list (bJ vs ws))⟩) (an:dN w T base cx ae H ρ s Q Q'):wpAny (model prog w) cx.A (call (.builtin "list.extend") [.ref a,.ref ad]) Q' EE s:=by
 refine dT N.ns fun m' mc' I F hn=>?_
 have l1:=a9 hvs
 have l2:=a9 hws
 have z1:rs.length≤1000:=by rw[←l1];exact Nat.le_of_ble_eq_true hf1
 have z2:ts.length≤1000:=by rw[←l2];exact Nat.le_of_ble_eq_true hf2
 have zs:rs.toArray.size+ts.toArray.size≤2000:=by rw[List.size_toArray,List.size_toArray];lia
 have aL:a≠cx.L:=fun q=>(I.apart eo rfl ha).nf (by rw[q];exact .head _)
 have adL:ad≠cx.L:=fun q=>by
  refine Jh hn fun o es ep g1 g2 _=>?_
  rw[←q,ho2]at g1
  cases g1
  cases g2
 have up:∀l:List Value,∀n:Nat,Upd a (aN rs k) (W.listOf l.toArray n) ((a,aN rs k)::fj s.heap [a,cx.L]) ((a,W.listOf l.toArray n)::fj s.heap [a,cx.L]):=fun l n=>.head fun z hz e=>by obtain⟨b,o⟩:=z;have:=(c8.mp hz).1;simp at this;exact this.1 e
 have hb:(ad,W.listOf ts.toArray k2)∈(a,aN rs k)::fj s.heap [a,cx.L]:=.tail _ (c8.mpr ⟨by simp[ne,adL],ho2⟩)
 by_cases e0:ts=[]
 ·subst e0
  refine kxn_extend (eW hn) (jc ho aL) hb rfl (up rs k) (zx zs) (by simpa using Nat.le_trans z1 (by rw[sizeLine_eq];decide)) (Nat.le_trans zs (by rw[sizeLine_eq];decide)) fun h' F' N'=>?_
  refine bC (i8 N') fun k1 k2=>?_
  exact an .none .none _ H ρ _ (jk (rs:=rs++[]) (k:=k) N eo ha k2 (fun m hm=>by obtain rfl:=lC hn hm;exact F'.ns) (by simpa using k1) (ou hvs hws)) .heap .none h
 ·refine kl_extend (l:=rs++ts) (eW hn) (jc ho aL) hb rfl (by simpa using e0) (up _ _) (zx zs) (by simpa using Nat.le_trans z1 (by rw[sizeLine_eq];decide)) (Nat.le_trans zs (by rw[sizeLine_eq];decide)) fun h' F' N'=>?_
  refine bC (i8 N') fun k1 k2=>?_
  exact an .none .none _ H ρ _ (jk (rs:=rs++ts) (k:=k+1) N eo ha k2 (fun m hm=>by obtain rfl:=lC hn hm;exact F'.ns) k1 (ou hvs hws)) .heap .none h
theorem B5{α:Type}{l:List α}:∀{i:Nat},i < l.length→∃v,sO l i=some v:=by
  induction l with
  |nil=>exact fun h=>absurd h (Nat.not_lt_zero _)
  | cons a r ih=>intro i h;cases i with
    |zero=>exact⟨a,rfl⟩
    |succ i=>exact ih (Nat.lt_of_succ_lt_succ h)
theorem Jo{vs:List V}{x:Int}{Q:V→List V→Prop}(m:Nat):∀(j:Nat),(@Nat.rec (fun _=>Nat→Prop) (fun _=>True) (fun _ f j=>oE (sO vs j) (fun v=>(x=Int.ofNat j→Q v (cP vs j))∧f (j+1)) True) m:Nat→Prop) j→∀k,x=Int.ofNat k→j≤k→k < j+m→k < vs.length→∃v,sO vs k=some v∧Q v (cP vs k):=by
  induction m with
  |zero=>intro j _ k _ h1 h2 _;exact absurd h1 (Nat.not_le.mpr h2)
  | succ m ih=>
    intro j h k hx h1 h2 h3
    refine cf (B5 (Nat.lt_of_le_of_lt h1 h3)) fun v ev=>?_
    have h:oE (sO vs j) (fun v=>(x=Int.ofNat j→Q v (cP vs j))∧(@Nat.rec (fun _=>Nat→Prop) (fun _=>True) (fun _ f j=>oE (sO vs j) (fun v=>(x=Int.ofNat j→Q v (cP vs j))∧f (j+1)) True) m:Nat→Prop) (j+1)) True:=h
    rw[ev]at h
    by_cases e:j=k
    · rw[←e]at hx ⊢;exact⟨v,ev,h.1 hx⟩
    · exact ih (j+1) h.2 k hx (Nat.lt_of_le_of_ne h1 e) (by rw[Nat.succ_add];exact h2) h3
theorem vF{P:Pm}{H:HP}{ρ:List Addr}{l:List (Str×Tok)}{ss:List Str}(e:l.map (·.1)=ss)(h:∀x∈ss,PyData.strOk x=true):ak P H ρ (ky ss) (strValues l):=by
 subst e
 induction l with
 |nil=>exact .nil
 |cons p l ih=>exact .cons (.str (h _ (.head _))) (ih fun y hy=>h y (.tail _ hy))
theorem Iy{P:Pm}{H:HP}{ρ:List Addr}{vs:List V}{rs:List Value}{p:Bool×Bool}(h:ak P H ρ vs rs)(e:Na vs=some p):∃bs,LSm.BoolsAre rs bs∧bs.any id=p.2:=by
  induction vs generalizing rs p with
  |nil=>exact h.nil' fun er=>er▸af e▸⟨[],.nil,rfl⟩
  | cons v vs ih=>
    refine aA e fun q eq e=>aA e fun q' eq' e=>h.cons' fun r l a b er=>a.cB eq fun ea=>?_
    refine av (ih b eq') fun bs h1 h2=>?_
    rw[er,ea,←af e]
    refine⟨q.2::bs,.cons _ h1,?_⟩
    rw[List.any_cons,h2]
    cases q.2 <;> rfl
theorem pB{d:Addr}{es:List DictEntry}{n:Nat}(hd:(d==sysModules)=false) :
  MeetsIn prog w (Builtin.«dict.__len__» ⟨[.ref d],[]⟩) (fun _ R s=>s.heap.get? d=some (dictOf es n)∧R (.ok (.ret (.int es.length s.toks))) {s with toks:=s.toks+1}):=
 .of_wp fun A R s ⟨ho,h⟩=>by
  show wpAny _ _ (dictSize d >>= _) _ _ s
  unfold dictSize
  refine wpAny_bind (wpAny_bind (wpAny_dictEntries ho rfl (wpAny_pure ?_)))
  show wpAny _ _ (Builtin.Dict.pendingCount d >>= _) _ _ s
  refine wpAny_bind (wpAny_pendingCount_other hd ?_)
  refine wpAny_ret_mkInt ?_
  rw[Nat.add_zero]
  have:es.toArray.size=es.length:=by simp
  rw[this];exact h
theorem rN{A:Around}{EE:Value→Shared→Prop}{s:Shared}{d:Addr}{es:List DictEntry}{n:Nat}{Q:Value→Shared→Prop}(hd:(d==sysModules)=false)(ho:s.heap.get? d=some (dictOf es n))(hfit:(es.length:Int) < 2 ^ 63)
  (h:Q (.int es.length (s.toks+1)) {s with toks:=s.toks+1+1}):wpAny (model prog w) A (call (.builtin "len") [.ref d]) Q EE s:=by
 have hT:s.TypeIs (.ref d) "dict":=⟨_,ho,rfl⟩
 refine Calls.call_function_entry kind_len plain_len entry_len (args_len1 _) ?_
 unfold Builtin.«len»
 refine wpAny_bind (m:=oneArg "len" _) (wpAny_pure ?_)
 refine wpAny_bind (m:=callSpecial? (.ref d) (Str.ofString "__len__")) (wpAny_callSpecial?_slot (name:=Str.ofString "__len__") hT F.slot_dict_len
  (call_meetsIn F.slot_dict_len hT F.entry_dict_len (F.args_dict_len_1 _) (pB (es:=es) (n:=n) hd) ⟨ho,?_⟩))
 show wpAny _ _ _ _ _ {s with toks:=s.toks+1}
 refine wpAny_bind (wpAny_holding (wpAny_pure ?_))
 refine wpAny_bind (wpAny_letGo ?_)
 show wpAny _ _ (if((es.length:Nat):Int) < 0 then _ else _) _ _ _
 rw[if_neg (by lia)]
 show wpAny _ _ (if((es.length:Nat):Int)≥2 ^ 63 then _ else _) _ _ _
 rw[if_neg (by lia)]
 exact wpAny_bind (wpAny_mkInt (wpAny_pure ⟨_,rfl,h⟩))
theorem u3{P:Pm}{H:HP}{ρ:List Addr}{aU:List (V×V)}{es:List DictEntry}(h:cu P H ρ aU es):aU.length=es.length:=
 cu.ind (M:=fun aU es=>aU.length=es.length) rfl (fun _ _ _ _ _ _ _ _ _ _ ih=>congrArg (·+1) ih) h
theorem Eb{A:Around}{EE:Value→Shared→Prop}{s:Shared}{d:Addr}{rk dv:Value}{Q:Value→Shared→Prop}{es:List DictEntry}{n:Nat}(ho:s.heap.get? d=some (dictOf es n))(hd:(d==sysModules)=false)
    (h:wpAny (model prog w) A.in1 (dictGet d rk) (fun o s'=>Q (o.getD dv) s') EE s):wpAny (model prog w) A (call (.builtin "dict.get") [.ref d,rk,dv]) Q EE s:=by
  have hT:s.TypeIs (.ref d) "dict":=⟨_,ho,rfl⟩
  refine wpAny_call_entry PySem.F.slot_dict_get hT PySem.F.entry_dict_get ?_ (PySem.F.args_dict_get_3 _ _ _)
  show wpAny _ _ (dictGet d rk >>= _) _ _ s
  refine wpAny_bind (wpAny_mono h (fun o s' hq=>?_) fun _ _ e=>e)
  cases o with
  |some v=>exact wpAny_pure ⟨v,rfl,hq⟩
  | none=>
    show wpAny _ _ (Builtin.Dict.missed d rk >>= _) _ _ _
    exact wpAny_bind (wpAny_missed_other hd (wpAny_pure ⟨dv,rfl,hq⟩))
section
variable {cx:Cx}{as:List V}{bU:List Value}{fm:List (Str×V)}{ob:bb}{Q:V→bb→Prop}{H:HP}{ρ:List Addr}{ae:a6}{s:Shared}{Q':Value→Shared→Prop}{EE:Value→Shared→Prop}
noncomputable abbrev eQ(w:World)(T:Nat→V)(base:Heap)(cx:Cx)(ae:a6)(H:HP)(ρ:List Addr)(s:Shared)(fm:List (Str×V))(Q:V→bb→Prop)(Q':Value→Shared→Prop):Prop:=dN w T base cx ae H ρ s (fun v σ=>Q v σ.ob∧σ.fm=fm) Q'
theorem nj{cx:Cx}{fm:List (Str×V)}{ob:bb}{x:O}{Q:V→bb→Prop}(h:bS ob x Q):bS (⟨fm,ob⟩:St).ob x fun v ob'=>(fun v (σ:St)=>Q v σ.ob∧σ.fm=fm) v ⟨fm,ob'⟩:=by
 refine aM h fun y ey h=>?_
 show oP ((ob.tr.ins ob.nx x).get ob.nx) _
 rw[ey]
 exact⟨h,rfl⟩
theorem Mf(h:Oc as ob Q)(N:aJ (pm w T) base cx H ρ ⟨fm,ob⟩ ae s.heap)(hv:ak (pm w T) H ρ as bU)(an:eQ w T base cx ae H ρ s fm Q Q'):wpAny (model prog w) cx.A (call (.builtin "len") bU) Q' EE s:=by
  refine bq N.inv fun m' mc' I F=>?_
  have fin {k:Bool} {z:Nat} {t:Tok} {tk:Nat} (h:Q (.int k z) ob):Q' (.int (z:Int) t) {s with toks:=tk}:=an (.int k _) _ ⟨fm,ob⟩ H ρ _ N .toks .int ⟨h,rfl⟩
  have lenI {ad:Addr} {rs:List Value} {j z:Nat} {k:Bool} (ho:s.heap.get? ad=some (aN rs j)) (hl:rs.length=z) (hz:z≤1000) (h:Q (.int k z) ob):wpAny (model prog w) cx.A (call (.builtin "len") [.ref ad]) Q' EE s:=by
    refine call_len_list ⟨_,ho,rfl,_,rfl⟩ (by rw[List.size_toArray,hl];lia) ?_
    rw[List.size_toArray,hl];exact fin h
  refine aM h fun v ev h=>hv.c1 ev fun r a er=>d8 h (fun p ep h=>a.cY ep fun b t eb ex=>c7 h fun hf h=>?_) fun _ h=>d8 h (fun p ep h=>a.cW ep fun rs ad k x y ea=>c7 h fun hf h=>?_) fun _ h=>d8 h (fun p ep h=>bD h fun hf h=>iW I a ep fun ad rs k ea ho hvs=>?_)
    fun _ h=>aM h fun es ed h=>bD h fun hf h=>?_
  · rw[er,eb]
    have hl:p.2.length=b.size:=by rw[ex];unfold aF;rw[List.length_map,Array.length_toList]
    refine len_bytes (by rw[←hl];exact Nat.le_trans (Nat.le_of_ble_eq_true hf) (by decide)) ?_
    rw[←hl];exact fin h
  · rw[er,ea];exact lenI (I.frz _ _ x) y.length (Nat.le_of_ble_eq_true hf) h
  · rw[er,ea]
    have hl:=(a9 hvs).symm
    have hf:=Nat.le_of_ble_eq_true hf
    cases e:p.1 with
    |false=>rw[e]at ho;exact lenI ho hl hf h
    | true=>
      rw[e]at ho
      refine len_tuple ⟨_,ho,rfl,_,rfl⟩ (by rw[List.size_toArray,hl];lia) ?_
      rw[List.size_toArray,hl];exact fin h
  · refine av (iT I a ed) fun d rq1 D=>?_;subst rq1
    refine bq D.obj fun en k hob hre=>?_
    have hl:=u3 hre
    have hz:=Nat.le_of_ble_eq_true hf
    rw[er]
    refine rN D.low hob (by lia) ?_
    rw[←hl];exact fin h
theorem Bo(h:zj as ob Q)(N:aJ (pm w T) base cx H ρ ⟨fm,ob⟩ ae s.heap)(hv:ak (pm w T) H ρ as bU)(an:eQ w T base cx ae H ρ s fm Q Q'):wpAny (model prog w) cx.A (call (.builtin "list.append") bU) Q' EE s:=by
 refine bq N.inv fun m' mc' I F=>?_
 refine aM h fun p ep h=>hv.c2 ep fun r dH a b er=>aM h fun i ei h=>a.cR ei fun ad ha ea=>aM h fun vs eo h=>bD h fun hf h=>(I.at (jq eo) ha).list' fun rs k ho hvs=>?_
 rw[er,ea]
 refine append_at ho (fun h' hs ho'=>?_) (by rw[List.size_toArray,←a9 hvs];exact eJ hf)
 exact an .none .none _ H ρ _ (jk (rs:=rs++[_]) (k:=k+1) N (jq eo) ha (fun b o q _ e=>(hs.2 b q).trans e) (fun m hn=>hn.sameBut hs (N.apart (jq eo) rfl ha).symm) (by simpa using ho') (ou hvs (.cons b .nil))) .heap .none ⟨h,rfl⟩
theorem zT(h:y6 as ob Q)(N:aJ (pm w T) base cx H ρ ⟨fm,ob⟩ ae s.heap)(hv:ak (pm w T) H ρ as bU)(an:eQ w T base cx ae H ρ s fm Q Q'):wpAny (model prog w) cx.A (call (.builtin "list.extend") bU) Q' EE s:=by
 refine bq N.inv fun m' mc' I F=>?_
 refine aM h fun p ep h=>hv.c2 ep fun r dH a b er=>aM h fun i ei h=>a.cR ei fun ad ha ea=>aM h fun vs eo h=>aM h fun ws es h=>bD h fun hf h=>az hf fun hf1 hf2=>bD h fun hne h=>(I.at (jq eo) ha).list' fun rs k ho hvs=>lG I b es fun bd ts k2 eb ho2 hws=>?_
 rw[er,ea,eb]
 refine Mo N (jq eo) ha ho hvs ho2 hws hf1 hf2 (fun e=>?_) ⟨h,rfl⟩ an
 have ap:=(I.apart (jq eo) rfl ha)
 refine dD (Fc es) (fun _ e1 _=>b.cT e1 fun _ x hx _ ex=>ap.nH _ (by rw[←e,←Value.ref.inj (ex.symm.trans eb)];exact hx)) fun _ e2=>dD e2 (fun _ e1 _=>b.cL e1 fun _ x _ hx _ ex=>ap.nH _ (by rw[←e,←Value.ref.inj (ex.symm.trans eb)];exact hx))
  fun _ e2=>aA e2 fun j ej _=>b.cR ej fun x hx ex=>?_
 rw[ej]at hne
 rw[←Value.ref.inj (eb.symm.trans ex),e]at hx
 refine cf (List.getElem?_eq_some_iff.mp hx) fun hj ej=>?_
 refine cf (List.getElem?_eq_some_iff.mp ha) fun hi' ei=>?_
 exact Nat.ne_of_beq_eq_false (cX hne) ((List.getElem_inj I.dup).mp (ei.trans ej.symm))
theorem FA{vs:List V}{i:Nat}{k:Bool}{x:Int}(h:J2 vs i k x ob Q):∃j v,x=Int.ofNat j∧sO vs j=some v∧Q v (da ob i (.list (cP vs j))):=by
  cases k with
  |true=>exact aM (o:=pM x) h fun j ej h=>aM h fun v ev h=>⟨j,v,gM ej,ev,h⟩
  | false=>
    refine kD h fun h1 h2 h3=>?_
    refine cf (Int.eq_ofNat_of_zero_le h1) fun j ej=>?_
    have h2:j < vs.length:=Int.ofNat_lt.mp (by rw[←ej];exact h2)
    refine av (Jo (Q:=fun v l=>Q v (da ob i (.list l))) vs.length 0 h3 j ej (Nat.zero_le _) (by rw[Nat.zero_add];exact h2) h2) fun v e1 e2=>?_
    exact⟨j,v,ej,e1,e2⟩
theorem Mi(h:OR as ob Q)(N:aJ (pm w T) base cx H ρ ⟨fm,ob⟩ ae s.heap)(hv:ak (pm w T) H ρ as bU)(an:eQ w T base cx ae H ρ s fm Q Q'):wpAny (model prog w) cx.A (call (.builtin "list.pop") bU) Q' EE s:=by
 refine dT N.ns fun m' mc' I F hn=>?_
 refine aM h fun p ep h=>hv.c2 ep fun r dH a b er=>aM h fun i ei h=>a.cR ei fun ad ha ea=>aM h fun q eq h=>b.cI eq fun t eb=>aM h fun vs eo h=>bD h fun hf h=>(I.at (jq eo) ha).list' fun rs kk ho hvs=>?_
 have hl:=a9 hvs
 have hz:rs.length≤1000:=by rw[←hl];exact Nat.le_of_ble_eq_true hf
 refine dT (FA h) fun j v ej en h=>?_
 refine pN (MA hvs en) fun l r l' h1 h2 h3 h4=>?_
 have hlt:l.length < rs.length:=by rw[h1,List.length_append,List.length_cons];lia
 rw[←h2]at h h4
 rw[er,ea,eb,ej,←h2]
 refine kl_popAt (k:=l.length) (p:=l) (q:=l') (y:=r) (eW hn) (jc ho (N.apart (jq eo) rfl ha)) ?_ ?_ ?_ (.head fun z hz e=>(c8.mp (show(z.1,z.2)∈_ from hz)).1 (by rw[show z.1=ad from e];exact .head _)) (by simpa using Nat.le_trans hz (by rw[sizeLine_eq];decide)) fun h' F' N'=>?_
 ·exact H4 (by lia)
 ·rw[List.size_toArray];exact lZ hlt
 ·rw[h1];exact Lz l r l'
 ·refine bC (i8 N') fun k1 k2=>?_
  exact an _ _ _ H ρ _ (jk (rs:=l++l') (k:=kk+1) N (jq eo) ha k2 (jg hn F') (by simpa using k1) h4) .heap h3 ⟨h,rfl⟩
theorem pZ{ss:List Str}{D:Addr}{l:List (Str×Tok)}{h':Heap}{k:Nat}{m':cq}(N:aJ (pm w T) base cx H ρ ⟨fm,ob⟩ ae s.heap)(hn:s.heap.Ns cx.L m')(an:eQ w T base cx ae H ρ s fm Q Q')(hs:bH JJ ss=true)(e:l.map (·.1)=ss)(F':Fr (iu s.heap) cx.L h' m')(N':News (iu s.heap) cx.L h' ((D,W.listOf (strValues l).toArray 0)::fj s.heap [cx.L]))(hl:∀p∈fj s.heap [cx.L],p.1 < D)(h:bS ob (.list (ky ss)) Q) :
  Q' (.ref D) {s with heap:=h',toks:=k}:=by
 rw[qQ,List.all_eq_true]at hs
 refine pN (g9 (σ:=⟨fm,ob⟩) (Q:=fun v σ=>Q v σ.ob∧σ.fm=fm) (tk:=k) N (kj (pre:=[_]) N') (jg hn F') (tN hl (N' _ (.head _)).2.1) (N' _ (.head _)).1 (vF e fun x hx=>se (hs x hx)) (nj (cx:=cx) h)) fun v σ' ρ' aI aG bu aK=>?_
 exact an v _ σ' H ρ' _ aI aG bu aK
theorem En(h:Gf as ob Q)(N:aJ (pm w T) base cx H ρ ⟨fm,ob⟩ ae s.heap)(hv:ak (pm w T) H ρ as bU)(an:eQ w T base cx ae H ρ s fm Q Q'):wpAny (model prog w) cx.A (call (.builtin "str.split") bU) Q' EE s:=by
 refine dT N.ns fun m' mc' I F hn=>?_
 have sl {n:Nat} (h:n≤640):n+2≤sizeLine:=Nat.le_trans (Nat.add_le_add_right h 2) (by rw[sizeLine_eq];decide)
 refine d8 h (fun v ev h=>hv.c1 ev fun r a er=>aM h fun x ex h=>a.cK ex fun t _ ea=>bD h fun hb h=>az hb fun h1 h2=>?_) fun _ h=>aM h fun p ep h=>hv.c2 ep fun r dH a b er=>aM h fun x ex h=>a.cK ex fun t _ ea=>aM h fun y ey h=>b.cK ey fun u _ eb=>bD h fun hb h=>az hb fun h1 h2=>az h1 fun h1 h3=>?_
 ·rw[er,ea]
  exact KSpl.split0 (eW hn) iF (fun D l h' k e _ F' N' hl=>pZ N hn an h2 e F' N' hl h) (sl (Nat.le_of_ble_eq_true h1))
 ·rw[er,ea,eb]
  exact KSpl.split1 (eW hn) iF (beq_eq_false_iff_ne.mpr (Nat.ne_of_beq_eq_false (cX h3))) (fun D l h' k e _ F' N' hl=>pZ N hn an h2 e F' N' hl h) (sl (Nat.le_of_ble_eq_true h1))
theorem zR(h:yh as ob Q)(N:aJ (pm w T) base cx H ρ ⟨fm,ob⟩ ae s.heap)(hv:ak (pm w T) H ρ as bU)(an:eQ w T base cx ae H ρ s fm Q Q'):wpAny (model prog w) cx.A (call (.builtin "str.lstrip") bU) Q' EE s:=by
 refine aM h fun p ep h=>hv.c2 ep fun r dH a b er=>aM h fun x ex h=>a.cK ex fun t _ ea=>aM h fun y ey h=>b.cK ey fun u _ eb=>bD h fun hb h=>az hb fun h1 h2=>?_
 rw[er,ea,eb]
 refine SC.lstripChars (fun t' k=>?_) (Nat.le_trans (Nat.le_of_ble_eq_true h1) (by rw[sizeLine_eq];decide))
 exact an _ _ ⟨fm,ob⟩ H ρ _ N .toks (.str (se h2)) ⟨h,rfl⟩
theorem Mv{mm:Nat}(O:cx.Ok mm)(h:Qp as ob Q)(N:aJ (pm w T) base cx H ρ ⟨fm,ob⟩ ae s.heap)(hv:ak (pm w T) H ρ as bU)(an:eQ w T base cx ae H ρ s fm Q Q'):wpAny (model prog w) cx.A (call (.builtin "any") bU) Q' EE s:=by
 refine dT N.ns fun m' mc' I F hn=>?_
 refine aM h fun v ev h=>hv.c1 ev fun r a er=>aM h fun vs es h=>bD h fun _ h=>aM h fun p ea h=>lG I a es fun ad rs kk vm ho hvs=>?_
 refine av (Iy hvs ea) fun bs h1 h2=>?_
 rw[er,vm]
 refine LSm.any_bools (eW hn) iF O.handled ⟨_,ho,rfl,_,rfl⟩ h1 fun h' tk F' N'=>?_
 rw[h2]
 exact an (.bool p.1 p.2) _ ⟨fm,ob⟩ H ρ _ (N.move (kj (pre:=[]) N') (jg hn F')) .heap .bool ⟨h,rfl⟩
theorem LQ{mm:Nat}(O:cx.Ok (mm+1))(h:Pg as ob Q)(N:aJ (pm w T) base cx H ρ ⟨fm,ob⟩ ae s.heap)(hv:ak (pm w T) H ρ as bU)(an:eQ w T base cx ae H ρ s fm Q Q'):wpAny (model prog w) cx.A (call (.builtin "dict.get") bU) Q' EE s:=by
  refine bq N.inv fun m' mc' I F=>?_
  refine aM h fun p ep h=>hv.c3 ep fun r dH JF a b b' er=>aM h fun es ed h=>bD h fun hb h=>az hb fun ok ik=>?_
  refine av (iT I a ed) fun d rq1 D=>?_;subst rq1
  refine bq D.obj fun en k hob _=>?_
  rw[er]
  refine Eb hob D.low (jL rfl I D ok ik b (by show cx.A.units+_ < _;have:=O.units;lia) fun tk o ho=>?_)
  have g:=tK h
  cases e:gH p.2.1 es with
  | none=>
    rw[e]at ho g
    rw[show o=none from ho]
    exact an _ _ ⟨fm,ob⟩ H ρ _ N .toks b' ⟨g,rfl⟩
  | some v=>
    rw[e]at ho g
    refine av ho fun r rq1 hr=>?_;subst rq1
    exact an _ _ ⟨fm,ob⟩ H ρ _ N .toks hr ⟨g,rfl⟩
theorem BY{i:Bi}{mm:Nat}(O:cx.Ok (mm+1))
  (h:JX i as ob Q) (N:aJ (pm w T) base cx H ρ ⟨fm,ob⟩ ae s.heap) (hv:ak (pm w T) H ρ as bU)
  (an:dN w T base cx ae H ρ s (fun v σ=>Q v σ.ob∧σ.fm=fm) Q'):wpAny (model prog w) cx.A (call (.builtin i.name) bU) Q' EE s:=by
 cases i with
 |len=>exact Mf h N hv an
 |append=>exact Bo h N hv an
 |extend=>exact zT h N hv an
 |pop=>exact Mi h N hv an
 |split=>exact En h N hv an
 |lstrip=>exact zR h N hv an
 |any=>exact Mv O h N hv an
 |get=>exact LQ O h N hv an
end
end
end
section
theorem oZ:typeLookup (.type "bytes") "__len__"=pure (some (.builtin "bytes.__len__")):=by rw[typeLookup_type,builtinLookup_eq_fast];kernel_rfl
section
variable {prog:Program}{w:World}{A:Around}{E:Value→Shared→Prop}{s:Shared}
noncomputable abbrev Fb(b:Array UInt8)(i:Nat)(v:Value):Prop:=∃(c:UInt8) (u:Tok),b[i]?=some c∧v=.int (c.toNat:Int) u
theorem rR{R:Result→Shared→Prop}(hh:A.handled=none)(b:Array UInt8)(t:Tok)(S:Addr)(res:Value)(Vz:Nat)(hS:s.heap.get? S=some {cls:=.type "list",data:=.seq #[] Vz})
  (hR:∀h' tk acc' c',(∀b o,b≠S→s.heap.get? b=some o→h'.get? b=some o)→h'.get? S=some {cls:=.type "list",dict:=none,data:=.seq acc' c',slots:=#[]}→
   ItemsOf (Fb b) acc' b.size→R (.ok (.ret res)) {s with heap:=h',toks:=tk}) (hn:b.size≤sizeLine) :
  wpAny (model prog w) A.in1 (Builtin.List.listExtendWith (.ref S) (.bytes b t) res)
   (fun fin s'=>match fin with|.done f=>R (.ok f) s'|.again c'=>c'.quiet=true∧codeAny (model prog w) A c' R s') (fun e s'=>R (.error e) s') s:=by
 have hSI:S≠s.heap.objs.size:=Nat.ne_of_lt (Heap.lt_size hS)
 have hSf:S∉[s.heap.objs.size]:=fun hm=>hSI (List.mem_singleton.mp hm)
 unfold Builtin.List.listExtendWith
 refine wpAny_bind (wpAny_typeOf (T:="bytes") (v:=.bytes b t) rfl ?_)
 have h1:Builtin.List.listSameRef (.ref S) (.bytes b t)=false:=rfl
 have h2:(Value.type "bytes"==Value.type "list")=false:=by decide
 have h3:(Value.type "bytes"==Value.type "tuple")=false:=by decide
 simp only [h1,h2,h3,Bool.or_false,Bool.false_eq_true,if_false]
 refine wpAny_bind (KBw.pyIter_bytes ?_)
 refine wpAny_bind (wpAny_holding ?_)
 unfold Builtin.List.listLengthHint
 refine wpAny_bind (wpAny_specialOf (T:="bytes") (v:=.bytes b t) rfl oZ ?_)
 wp_delta
 refine wpAny_bind (wpAny_isInstance (T:="bytes") (v:=.bytes b t) (b:=true) rfl (by rw[isSubtype_type];kernel_rfl) ?_)
 show wpAny _ _ (typeOf (Value.bytes b t) >>= _) _ _ _
 refine wpAny_bind (wpAny_typeOf (T:="bytes") (v:=.bytes b t) rfl ?_)
 refine wpAny_pure ?_
 rw[if_neg (by decide)]
 have W:=KBw.walks (prog:=prog) (w:=w) (A:=A.in1) hh s.heap.objs.size b t
 have hst:KBw.IsBytesIter (s.heap.push {cls:=.type "bytes_iterator",data:=.fields #[.bytes b t,.int 0 0]}) s.heap.objs.size b t 0:=⟨_,Heap.get?_push_size _ rfl,rfl,rfl⟩
 refine wpAny_pure ⟨plainId_quiet F.plain_extend_loop _,codeAny_extend_loopS W.toS hn _ hSf _ b.size 0 _ _ _ rfl (Nat.zero_le _) hst (Heap.get?_push_of_some _ hS) (ItemsOf.nil _) fun s' acc' c' hm hS' hacc=>?_⟩
 rw[Moved.eq_with hm]
 refine hR s'.heap s'.toks acc' c' (fun b ob hb e=>hm.heap b ob (fun hmem=>?_) (Heap.get?_push_of_some _ e)) hS' hacc
 rcases List.mem_cons.mp hmem with e'|hmem
 ·exact hb e'
 ·exact absurd (Heap.lt_size e) (by rw[List.mem_singleton.mp hmem];exact Nat.lt_irrefl _)
theorem mD{R:Result→Shared→Prop}(hh:A.handled=none)(b:Array UInt8)(t:Tok)(S:Addr)(hS:s.heap.get? S=some {cls:=.type "list",data:=.seq #[]})
  (hR:∀h' tk acc' c',(∀b o,b≠S→s.heap.get? b=some o→h'.get? b=some o)→h'.get? S=some {cls:=.type "list",dict:=none,data:=.seq acc' c',slots:=#[]}→
   ItemsOf (Fb b) acc' b.size→R (.ok (.ret .none)) {s with heap:=h',toks:=tk}) (hn:b.size≤sizeLine) :
  wpAny (model prog w) A.in1 (Builtin.«list.__init__» ⟨[.ref S,.bytes b t],[]⟩)
   (fun fin s'=>match fin with|.done f=>R (.ok f) s'|.again c'=>c'.quiet=true∧codeAny (model prog w) A c' R s') (fun e s'=>R (.error e) s') s:=by
 show wpAny _ _ (do let old ←Builtin.List.listItems (.ref S);Builtin.List.listUpdate (.ref S) (fun _=>#[]);letGo old.toList.reverse;Builtin.List.listExtendWith (.ref S) (.bytes b t) .none) _ _ s
 refine wpAny_bind ?_
 unfold Builtin.List.listItems
 refine wpAny_bind (wpAny_seqItems hS rfl (wpAny_pure ?_))
 show wpAny _ _ (updateSeq S (fun _=>#[]) >>= fun _=>letGo (#[]:Array Value).toList.reverse >>= fun _=>Builtin.List.listExtendWith (.ref S) (.bytes b t) .none) _ _ s
 refine wpAny_bind (wpAny_updateSeq hS rfl ?_)
 have Ro:=Heap.get?_update_self (Obj.mapSeq (fun _=>(#[]:Array Value))) hS rfl
 have oth:∀b o,b≠S→s.heap.get? b=some o→(s.heap.update S (Obj.mapSeq (fun _=>(#[]:Array Value)))).get? b=some o:=
  fun b o hb e=>(Heap.get?_update_other _ _ (Ne.symm hb)).trans e
 refine wpAny_bind (wpAny_letGo ?_)
 refine rR (hn:=hn) hh b t S .none _ Ro fun h' tk acc' c' hk hS' hacc=>?_
 exact hR h' tk acc' c' (fun b o hb e=>hk b o hb (oth b o hb e)) hS' hacc
theorem mA{Q:Value→Shared→Prop}(hh:A.handled=none)(b:Array UInt8)(t:Tok)
  (hQ:∀h' tk acc' c',(∀b o,s.heap.get? b=some o→h'.get? b=some o)→
   h'.get? s.heap.objs.size=some {cls:=.type "list",dict:=none,data:=.seq acc' c',slots:=#[]}→ItemsOf (Fb b) acc' b.size→Q (.ref s.heap.objs.size) {s with heap:=h',toks:=tk}) (hn:b.size≤sizeLine) :
  wpAny (model prog w) A (call (.type "list") [.bytes b t]) Q E s:=by
 refine callType_codes (Q₁:=fun obj s₁=>obj=.ref s.heap.objs.size∧s₁={s with heap:=s.heap.push {cls:=.type "list",data:=.seq #[]}}) F.called_list (F.typeCall_list_1 _) F.entry_list_init
  (code_list_new _ ⟨rfl,rfl⟩) fun obj s₁ ao=>?_
 refine bC ao fun rq0 rq1=>?_;subst rq0;subst rq1
 have hS:(s.heap.push {cls:=.type "list",data:=.seq #[]}).get? s.heap.objs.size=some {cls:=.type "list",data:=.seq #[]}:=Heap.get?_push_size _ rfl
 refine⟨⟨_,hS,rfl⟩,F.args_list_init_2 _ _,mD (A:=A.in1) (hn:=hn) hh b t _ hS fun h' tk acc' c' hk hS' hacc=>?_⟩
 exact⟨rfl,hQ h' tk acc' c' (fun b o e=>hk b o (Nat.ne_of_lt (Heap.lt_size e)) (Heap.get?_push_of_some _ e)) hS' hacc⟩
end
theorem xi{rs:List Value}:∀{xs:List Int},rs.length=xs.length→(∀(i:Nat) (v:Value),rs[i]?=some v→∃(x:Int) (t:Tok),xs[i]?=some x∧v=.int x t)→IntsAre rs xs:=by
  induction rs with
  |nil=>intro xs h _;cases xs with|nil=>exact .nil|cons=>cases h
  | cons r rs ih=>
    intro xs h f
    cases xs with
    |nil=>cases h
    | cons x xs=>
      refine bq (f 0 r rfl) fun x' t e1 e2=>?_
      rw[e2,←af e1]
      exact .cons _ _ (ih (Nat.succ.inj h) fun i v e=>f (i+1) v e)
end
section
section
variable {prog:Program}{w:World}{T:Nat→V}{base:Heap}{c:df}{K:Frag}{E:Ev}{n:Nat}
theorem xP{x:Int}{t:Str}(h:yA x=some t):∃m:Nat,x=Int.ofNat m∧m < 1000000∧t=Str.ofString (toString m):=
 aA h fun m em h=>cH h fun hb h=>⟨m,gM em,Nat.le_of_ble_eq_true hb,(af h).symm⟩
theorem oS(s:String):PyData.strOk (Str.ofString s)=true:=by
 rw[Str.ofString_eq_toList]
 unfold PyData.strOk
 rw[←Array.all_toList,List.all_eq_true]
 intro x hx
 refine av (List.mem_map.mp hx) fun c _ rq2=>?_;subst rq2
 have h:=c.valid
 have:c.toNat < 1114112:=by
  have h:Nat.isValidChar c.toNat:=h
  unfold Nat.isValidChar at h
  lia
 simpa using this
theorem Mu{xs:List Int}(h:bH cZ xs=true):∀x∈xs,0≤x∧x < 256:=by
 rw[qQ,List.all_eq_true]at h
 exact fun x hx=>m9 (h x hx)
section
variable {cx:Cx}{as:List V}{bU:List Value}{fm:List (Str×V)}{ob:bb}{Q:V→bb→Prop}{H:HP}{ρ:List Addr}{ae:a6}{s:Shared}{Q':Value→Shared→Prop}{EE:Value→Shared→Prop}
theorem I7(h:NT as ob Q)(N:aJ (pm w T) base cx H ρ ⟨fm,ob⟩ ae s.heap)(hv:ak (pm w T) H ρ as bU)(an:eQ w T base cx ae H ρ s fm Q Q'):wpAny (model prog w) cx.A (call (.type "int") bU) Q' EE s:=by
 refine aM h fun v ev h=>hv.c1 ev fun r a er=>d8 h (fun p ep h=>a.cI ep fun t ea=>?_) fun _ h=>d8 h (fun p ep h=>a.cB ep fun ea=>?_) fun _ h=>aM h fun p ep h=>aM h fun n en h=>bD h fun hl h=>a.cS ep fun t _ ea=>?_
 ·rw[er,ea]
  exact call_int_int (an _ _ ⟨fm,ob⟩ H ρ _ N .toks .int ⟨h,rfl⟩)
 ·rw[er,ea]
  refine call_int_bool ?_
  have q:Q' (.int (Qn p.2) s.toks) {s with toks:=s.toks+1}:=an _ _ ⟨fm,ob⟩ H ρ _ N .toks .int ⟨h,rfl⟩
  cases e:p.2 <;> rw[e]at q <;> exact q
 ·rw[er,ea]
  exact KIN.call_text en (Nat.le_of_ble_eq_true hl) (an _ _ ⟨fm,ob⟩ H ρ _ N .toks .int ⟨h,rfl⟩)
theorem JE(h:PO as ob Q)(N:aJ (pm w T) base cx H ρ ⟨fm,ob⟩ ae s.heap)(hv:ak (pm w T) H ρ as bU)(an:eQ w T base cx ae H ρ s fm Q Q'):wpAny (model prog w) cx.A (call (.type "str") bU) Q' EE s:=by
 refine aM h fun v ev h=>hv.c1 ev fun r a er=>aM h fun p ep h=>bD h fun _ h=>aM h fun t et h=>a.cI ep fun u ea=>?_
 refine dC (xP et) fun k ek hk et=>?_
 rw[er,ea,ek]
 rw[et]at h
 refine PySem.P.str_of_int (by
   show k.log2 < 1920
   rcases Nat.eq_zero_or_pos k with e|hp
   ·rw[e];decide
   ·exact(Nat.log2_lt (Nat.ne_of_gt hp)).mpr (Nat.lt_trans hk (Nat.lt_trans (by decide:1000000 < 2 ^ 20) (Nat.pow_lt_pow_right (by decide) (by decide))))) ?_
 ·exact an (.str true _) _ ⟨fm,ob⟩ H ρ _ N .toks (.str (oS _)) ⟨h,rfl⟩
theorem zO(h:E4 as ob Q)(N:aJ (pm w T) base cx H ρ ⟨fm,ob⟩ ae s.heap)(hv:ak (pm w T) H ρ as bU)(an:eQ w T base cx ae H ρ s fm Q Q'):wpAny (model prog w) cx.A (call (.type "range") bU) Q' EE s:=by
 refine aM h fun v ev h=>hv.c1 ev fun r a er=>aM h fun p ep h=>a.cI ep fun t ea=>?_
 rw[er,ea]
 exact call_range_1 (an (.rng _ _) _ ⟨fm,ob⟩ _ ρ _ (N.push (jZ _ _ _ _)) (N.later _) (.rng HP.new) ⟨h,rfl⟩)
theorem zM(h:Fi as ob Q)(N:aJ (pm w T) base cx H ρ ⟨fm,ob⟩ ae s.heap)(hv:ak (pm w T) H ρ as bU)(an:eQ w T base cx ae H ρ s fm Q Q'):wpAny (model prog w) cx.A (call (.type "tuple") bU) Q' EE s:=by
  refine bq N.inv fun m' mc' I F=>?_
  refine aM h fun v ev h=>hv.c1 ev fun r a er=>aM h fun p ep h=>bD h fun hf h=>iW I a ep fun ad rs k ea ho hvs=>?_
  rw[er]
  cases e:p.1 with
  | true=>
    have q:=xF a ep e
    rw[e]at ho
    rw[ea]at q ⊢
    exact call_tuple_same ⟨_,ho,rfl,_,rfl⟩ (an _ _ ⟨fm,ob⟩ H ρ s N .refl q ⟨h,rfl⟩)
  | false=>
    rw[e]at ho
    rw[ea]
    refine call_tuple_list ⟨_,ho,rfl,_,rfl⟩ (fun h' hk=>?_) (by rw[List.size_toArray,←a9 hvs];exact eJ hf)
    have aI:=N.heap hk
    exact an (.tup p.2) _ ⟨fm,ob⟩ _ ρ _ (aI.push (fJ rs)) ⟨HP.le,fun a o e=>e.elim .inl fun⟨e,_⟩=>.inr (e▸(let ⟨_,_,J,_⟩:=aI.inv;J.topNew)),.refl,rfl,rfl,rfl⟩ (.tup HP.new (hvs.mono HP.le .refl)) ⟨h,rfl⟩
theorem qG{ad:Addr}{rs:List Value}{k:Nat}{vs:List V}{tb:Bool}(N:aJ (pm w T) base cx H ρ ⟨fm,ob⟩ ae s.heap)(an:eQ w T base cx ae H ρ s fm Q Q')(ho:s.heap.get? ad=some ⟨.type (if tb then "tuple" else "list"),none,.seq rs.toArray k,#[]⟩)(hvs:ak (pm w T) H ρ vs rs)(hf:bN vs.length=true)(h:bS ob (.list vs) Q):wpAny (model prog w) cx.A (call (.type "list") [.ref ad]) Q' EE s:=by
 refine call_list_seq ad (T:=if tb then "tuple" else "list") (by cases tb <;> simp) ho rfl rfl (fun h' c' hk ho'=>?_) (by rw[List.size_toArray,←a9 hvs];exact eJ hf)
 refine pN (g9 (σ:=⟨fm,ob⟩) (Q:=fun v σ=>Q v σ.ob∧σ.fm=fm) (tk:=s.toks) N (fun b o _ e=>hk b o e) (fun m hm=>hm.keeps hk) gK ho' hvs (nj (cx:=cx) h)) fun v σ' ρ' aI aG bu aK=>?_
 exact an v _ σ' H ρ' _ aI aG bu aK
theorem ub{by_:Array UInt8}{t:Tok}{kk:Bool}(O:cx.A.handled=none)(N:aJ (pm w T) base cx H ρ ⟨fm,ob⟩ ae s.heap)(an:eQ w T base cx ae H ρ s fm Q Q')(hf:bN (aF by_).length=true)(h:Q (.irow kk (aF by_)) ob):wpAny (model prog w) cx.A (call (.type "list") [.bytes by_ t]) Q' EE s:=by
 have hl:(aF by_).length=by_.size:=by unfold aF;rw[List.length_map,Array.length_toList]
 refine mA O by_ t (fun h' tk acc' c' hk ho hI=>?_) (by rw[←hl];exact eJ hf)
 refine bC (jb (tk:=tk) N (fun b o _ e=>hk b o e) (fun m hm=>hm.keeps hk) gK ho) fun aI aG=>?_
 have hints:IntsAre acc'.toList (aF by_):=by
  refine xi (by rw[hl,Array.length_toList];exact hI.1) fun i v e=>?_
  refine bq (hI.2 i v (by simpa using e)) fun ch u e1 e2=>?_
  refine⟨(ch.toNat:Int),u,?_,e2⟩
  unfold aF
  rw[List.getElem?_map,Array.getElem?_toList,e1];rfl
 refine an (.irow _ _) _ ⟨fm,ob⟩ _ ρ _ aI aG (.irow (rs:=acc'.toList) (n:=c') ?_ hints) ⟨h,rfl⟩
 show H.and _ _ _ (aN acc'.toList c')
 rw[show aN acc'.toList c'={cls:=.type "list",data:=.seq acc' c'} by simp[aN,PySem.W.listOf]]
 exact HP.new
theorem D0{mm:Nat}(O:cx.Ok mm)(h:KD as ob Q)(N:aJ (pm w T) base cx H ρ ⟨fm,ob⟩ ae s.heap)(hv:ak (pm w T) H ρ as bU)(an:eQ w T base cx ae H ρ s fm Q Q'):wpAny (model prog w) cx.A (call (.type "list") bU) Q' EE s:=by
 refine bq N.inv fun m' mc' I F=>?_
 refine aM h fun v ev h=>hv.c1 ev fun r a er=>d8 h (fun p ep h=>a.cY ep fun b t ea eb=>c7 h fun hf h=>?_) fun _ h=>d8 h (fun p ep h=>a.cW ep fun rs ad k x y ea=>bD h fun _ h=>bD h fun hf h=>?_) fun _ h=>aM h fun p ep h=>bD h fun hf h=>iW I a ep fun ad rs k ea ho hvs=>?_
 ·rw[er,ea];rw[eb]at hf h;exact ub O.handled N an hf h
 ·rw[er,ea];exact qG (tb:=false) N an (I.frz _ _ x) (jG y) (by rw[lM];exact hf) h
 ·rw[er,ea];exact qG N an ho hvs hf h
theorem oJ{mm:Nat}(O:cx.Ok mm){ad:Addr}{rs:List Value}{k:Nat}{xs:List Int}{kb:Bool}(N:aJ (pm w T) base cx H ρ ⟨fm,ob⟩ ae s.heap)(an:eQ w T base cx ae H ρ s fm Q Q')(ho:s.heap.get? ad=some (aN rs k))(hx:IntsAre rs xs)(h1:∀x∈xs,0≤x∧x < 256)(hl:xs.length≤1000)(h:Q (.bytes kb xs) ob):wpAny (model prog w) cx.A (call (.type "bytes") [.ref ad]) Q' EE s:=by
 refine call_bytes_ints (vs:=rs) (ns:=xs) ⟨_,ho,rfl,_,rfl⟩ hx h1 (by rw[hx.length];exact Nat.le_trans hl (by rw[sizeLine_eq];decide)) O.handled fun h' t k hk=>?_
 exact an (.bytes kb xs) _ ⟨fm,ob⟩ H ρ _ (N.heap hk) .heap (by have q:aj (pm w T) H ρ (.bytes kb (aF (byteArr xs))) (.bytes (byteArr xs) t):=.bytes;rw[sj h1]at q;exact q) ⟨h,rfl⟩
theorem Au{mm:Nat}(O:cx.Ok mm)(h:EJ as ob Q)(N:aJ (pm w T) base cx H ρ ⟨fm,ob⟩ ae s.heap)(hv:ak (pm w T) H ρ as bU)(an:eQ w T base cx ae H ρ s fm Q Q'):wpAny (model prog w) cx.A (call (.type "bytes") bU) Q' EE s:=by
 refine bq N.inv fun m' mc' I F=>?_
 refine aM h fun v ev h=>hv.c1 ev fun r a er=>d8 h (fun p ep h=>a.cW ep fun rs ad k x y ea=>c7 h fun h1 h=>c7 h fun h2 h=>?_) fun _ h=>aM h fun vs es h=>aM h fun l hi h=>bD h fun hf h=>lG I a es fun ad rs k ea ho hvs=>?_
 ·rw[er,ea];exact oJ O N an (I.frz _ _ x) y (Mu h1) (Nat.le_of_ble_eq_true h2) h
 ·refine bC (rl h) fun h1 h2=>?_
  have hx:=iJ hvs hi
  rw[er,ea];exact oJ O N an ho hx h1 (by rw[←hx.length,←a9 hvs];exact Nat.le_of_ble_eq_true hf) h2
theorem Ej{i:Ti}{m:Nat}(O:cx.Ok m)
  (h:Kf i as ob Q) (N:aJ (pm w T) base cx H ρ ⟨fm,ob⟩ ae s.heap) (hv:ak (pm w T) H ρ as bU)
  (an:dN w T base cx ae H ρ s (fun v σ=>Q v σ.ob∧σ.fm=fm) Q'):wpAny (model prog w) cx.A (call (.type i.name) bU) Q' EE s:=by
 cases i with
 |int=>exact I7 h N hv an
 |str=>exact JE h N hv an
 |range=>exact zO h N hv an
 |tuple=>exact zM h N hv an
 |list=>exact D0 O h N hv an
 |bytes=>exact Au O h N hv an
 |zip=>exact h.elim
 |enumerate=>exact h.elim
end
end
end
section
section
variable {prog:Program}{w:World}{T:Nat→V}{base:Heap}{c:df}{K:Frag}{E:Ev}{n:Nat}
theorem rA{M:Model}{R:Addr→Prop}{A:Around}{env:Env}{outer:List Env}{ae:a6}{H:HP}{L e:Addr}{s:Shared}{Q:Unit→Shared→Prop}{EE:Value→Shared→Prop}(hfr:A.frames=some (env::outer))(hf:env.frame=some L)
  (t:dz base R (env::outer) ae H e s.heap) (q:∀h',dz base R outer ae H e h'→Q () {s with heap:=h'}):wpAny M A (leaving env (.ref e)) Q EE s:=by
 obtain⟨B,aB,t1,t2,t3,t4,t5,C,a0,hR,hk,hn,hF,h⟩:=t
 have go:∀h',s.heap.UpToSlots h'→xU B R outer e h'→dz base R outer ae H e h':=fun h' k t6=>
  ⟨B,aB,t1,t2,t3,t4,fun p hp=>⟨(t5 p hp).1.imp id fun⟨hn,o,ho,hφ⟩=>(let ⟨_,hs⟩:=k _ _ ho (hn.nf _ _ hφ);⟨hn,_,hs,hn.dat aB aB o _ rfl hφ⟩),(t5 p hp).2⟩,t6⟩
 rcases h with h|h
 ·refine O9 h fun oe vs e1 e2 e3 e4 e5=>?_
  refine wpAny_leaving_firstW hfr hF hf e1 hk hn e3 e5 e4 fun h' ⟨k1,⟨_,_,k2⟩,k3,k4⟩=>q h' (go h' k4 ⟨C,a0,hR,k1,hn,k2,.inr (e2▸k3)⟩)
 ·exact wpAny_leaves_onW hfr hf ⟨hk,hn,hF,h⟩ fun h' ⟨k1,k2,k3,k4⟩ k5=>q h' (go h' k5 ⟨C,a0,hR,k1,k2,k3,.inr k4⟩)
theorem we{kindOf:Str→Option NameKind}{x:Str}(l:List (Str×Value)):∀(m:cq),x∉l.map (·.1)→bindL kindOf l m x=m x:=by
  induction l with
  |nil=>exact fun _ _=>rfl
  | cons p l ih=>
    intro m hx
    rw[List.map_cons,List.mem_cons,not_or]at hx
    refine(ih _ hx.2).trans ?_
    by_cases q:kindOf p.1=some .local
    · rw[if_pos q];exact if_neg hx.1
    · rw[if_neg q]
theorem xE{kindOf:Str→Option NameKind}{x:Str}(l:List (Str×Value)):∀(m:cq),x∉l.map (·.1)→bindC kindOf l m x=m x:=by
  induction l with
  |nil=>exact fun _ _=>rfl
  | cons p l ih=>
    intro m hx
    rw[List.map_cons,List.mem_cons,not_or]at hx
    refine(ih _ hx.2).trans ?_
    by_cases q:kindOf p.1=some .local
    · rw[if_pos q]
    · rw[if_neg q];exact if_neg hx.1
theorem sQ{kindOf:Str→Option NameKind}{bs:List (Str×Value)}{x:Str}{r:Value}:∀{m:cq},(bs.map (·.1)).Nodup→(x,r)∈bs→kindOf x=some .local→bindL kindOf bs m x=some r:=by
  induction bs with
  |nil=>exact fun _ h _=>absurd h List.not_mem_nil
  | cons p bs ih=>
    intro m hn h hk
    rw[List.map_cons,List.nodup_cons]at hn
    rcases List.mem_cons.mp h with e|h
    · rw[←e]at hn ⊢
      refine(we bs _ hn.1).trans ?_
      rw[if_pos hk];exact if_pos rfl
    · exact ih hn.2 h hk
theorem Es{kindOf:Str→Option NameKind}{bs:List (Str×Value)}{x:Str}{r:Value}:∀{m:cq},(bs.map (·.1)).Nodup→(x,r)∈bs→kindOf x≠some .local→bindC kindOf bs m x=some r:=by
  induction bs with
  |nil=>exact fun _ h _=>absurd h List.not_mem_nil
  | cons p bs ih=>
    intro m hn h hk
    rw[List.map_cons,List.nodup_cons]at hn
    rcases List.mem_cons.mp h with e|h
    · rw[←e]at hn ⊢
      refine(xE bs _ hn.1).trans ?_
      rw[if_neg hk];exact if_pos rfl
    · exact ih hn.2 h hk
theorem a8.addPlace{P:Pm}{H:HP}{ρ:List Addr}{ae:a6}{ob:Tr}{h:Heap}{D:Addr}{φ:Fp}(I:a8 P base H ρ ae ob h)(nb:base.get? D=none)(nH:∀o,¬H D o)(nf:D∉ae.map (·.1))(nR:D∉ρ)(hn:∃o,h.get? D=some o∧φ.φ H o)
  (nO:∀i o a,ob.get i=some o→ρ[i]?=some a→a≠D):a8 P base H ρ ((D,φ)::ae) ob h:=by
 refine⟨I.keep,I.frz,fun p hp=>?_,fun p hp=>?_,?_,fun i o e=>?_,I.dup,I.there,fun a ha z=>?_⟩
 ·rcases List.mem_cons.mp hp with rfl|hp
  ·exact hn
  ·exact I.frNs p hp
 ·rcases List.mem_cons.mp hp with rfl|hp
  ·exact⟨nb,nH⟩
  ·exact I.frNew p hp
 ·rw[List.map_cons,List.nodup_cons]
  exact⟨nf,I.frDup⟩
 ·refine dC (I.own i o e) fun a h1 h2 h3=>?_
  refine⟨a,h1,h2,fun l=>⟨(h3 l).nb,(h3 l).nH,fun z=>?_⟩⟩
  rw[List.map_cons]at z
  rcases List.mem_cons.mp z with e'|z
  ·exact nO i o a e h1 e'
  ·exact(h3 l).nf z
 ·rw[List.map_cons]at z
  rcases List.mem_cons.mp z with e|z
  ·exact nR (by have e:a=D:=e;rw[←e];exact ha)
  ·exact I.rf a ha z
theorem qC{cs:List (Str×Addr)}{mc:cq}:(aP cs mc).map (·.1)=cs.map (·.2):=by unfold aP;rw[List.map_map];rfl
theorem t9{P:Pm}{H:HP}{ρ:List Addr}{ae:a6}{ob:Tr}{h ao:Heap}(I:a8 P base H ρ ae ob h)(k:∀b o,h.get? b=some o→ao.get? b=some o)(mc:cq)(cs:List (Str×Addr)):(∀p∈cs,h.get? p.2=none∧∃o,ao.get? p.2=some o∧(eE (mc p.1)).φ H o)→(cs.map (·.2)).Nodup→
    a8 P base H ρ (aP cs mc++ae) ob ao:=by
  induction cs with
  |nil=>exact fun _ _=>I.keeps k
  | cons x cs ih=>
    intro hc hn
    rw[List.map_cons,List.nodup_cons]at hn
    have J:=ih (fun p hp=>hc p (.tail _ hp)) hn.2
    refine bC (hc x (.head _)) fun h1 h2=>?_
    have nR:x.2∉ρ:=fun q=>by obtain⟨o,e⟩:=I.there x.2 q;rw[h1]at e;cases e
    refine J.addPlace (D:=x.2) (fR I.keep h1) (fun o e=>by rw[I.frz _ _ e]at h1;cases h1) (fun q=>?_) nR h2 (fun i o b _ e q=>nR (q▸List.mem_of_getElem? e))
    rw[List.map_append]at q
    rcases List.mem_append.mp q with q|q
    · exact hn.1 (by rw[←qC (mc:=mc)];exact q)
    · refine av (List.mem_map.mp q) fun p hp e=>?_
      refine av (I.frNs p hp) fun o e' _=>?_
      rw[e,h1]at e';cases e'
theorem mf{P:Pm}{H:HP}{ρ:List Addr}{ae l:a6}{ob:Tr}{h:Heap}(I:a8 P base H ρ (l++ae) ob h):a8 P base H ρ ae ob h:=by
 induction l with
 |nil=>exact I
 |cons p l ih=>exact ih I.leave
theorem Ap{α:Type}{x y:Str}{v:α}{l:List (Str×α)}(h:(l.lookup x).isSome=true):(((y,v)::l).lookup x).isSome=true:=by
 rw[List.lookup_cons]
 cases x==y with
 |true=>rfl
 |false=>exact h
theorem jP(p:Str×NameKind)(r:List (Str×NameKind))(n:Nat)(acc:List (Str×Addr)):(p.2=.cell∧cellsFrom n (p::r) acc=cellsFrom (n+1) r ((p.1,n)::acc))∨(p.2≠.cell∧cellsFrom n (p::r) acc=cellsFrom n r acc):=by
 obtain⟨y,k⟩:=p
 cases k <;> first|exact .inl ⟨rfl,rfl⟩|exact .inr ⟨fun e=>NameKind.noConfusion e,rfl⟩
theorem pD{x:Str}(names:List (Str×NameKind)):∀(n:Nat) (acc:List (Str×Addr)),(acc.lookup x).isSome=true→((cellsFrom n names acc).lookup x).isSome=true:=by
  induction names with
  |nil=>exact fun _ _ h=>h
  | cons p r ih=>
    intro n acc h
    rcases jP p r n acc with⟨_,q⟩|⟨_,q⟩
    · rw[q];exact ih _ _ (Ap h)
    · rw[q];exact ih _ _ h
theorem jB {x:Str} (names:List (Str×NameKind)):∀(n:Nat) (acc:List (Str×Addr)),names.lookup x=some .cell→((cellsFrom n names acc).lookup x).isSome=true:=by
  induction names with
  |nil=>exact fun _ _ h=>nomatch h
  | cons p r ih=>
    intro n acc h
    have h:(match x==p.1 with|true=>some p.2|false=>r.lookup x)=some .cell:=h
    cases e:x==p.1 with
    | true=>
      rw[e]at h
      rcases jP p r n acc with⟨_,q⟩|⟨q',_⟩
      · rw[q]
        refine pD r _ _ ?_
        rw[List.lookup_cons,e];rfl
      · exact absurd (af h) q'
    | false=>
      rw[e]at h
      rcases jP p r n acc with⟨_,q⟩|⟨_,q⟩ <;> (rw[q];exact ih _ _ h)
theorem BH{d n:Nat}(h:d+2*(n+1)+8 < recursionLimit):d+1+2*n+8 < recursionLimit:=by lia
theorem xN{d n:Nat}(h:d+2*(n+1)+8 < recursionLimit):d < recursionLimit:=by lia
theorem Cm{d n k:Nat}(h:d+16*(n+1)+128 < k):d+3+16*n+128 < k:=by lia
theorem zl{α:Type}{o:Option α}(h:o.isSome=true):∃b,o=some b:=by cases o;cases h;exact⟨_,rfl⟩
noncomputable abbrev sr(A:Around)(l:List Env)(qual:Str)(i:ag)(L a:Addr)(cdv:Value)(cs:List (Str×Addr)):Cx:=⟨A.deeper (envX qual i.sc L a cdv cs),qual,i.sc,L,cs,some a,i.sc,L,a,cs,cdv,cs,l⟩
theorem Cu{P:Pm}{H:HP}{ρ:List Addr}{A:Around}{l:List Env}{qual:Str}{i:ag}{L a:Addr}{cdv:Value}{fm':List (Str×V)}{bs:List (Str×Value)}{kd:Str→Option NameKind}(Fo:AD K a i)(hn:fm'.map (·.1)=i.ps)(hfb:gw P H ρ fm' bs)(hk:∀x k,i.sc.names.lookup x=some k→kd x=some k) :
  jw P H ρ (sr A l qual i L a cdv (cellsFrom (L+1) i.sc.names [])) fm' (bindL kd bs fun _=>none) (bindC kd bs fun _=>none):=fun y v e=>by
 rw[fM]at e
 have hy:y∈i.ps:=by rw[←hn];exact List.mem_map.mpr ⟨_,cj e,rfl⟩
 have hbd:(bs.map (·.1)).Nodup:=by rw[←hfb.names,hn];exact Fo.nodup
 refine av (hfb.look e) fun r h1 h2=>?_
 refine⟨(Fo.locs y hy).2,r,(Fo.locs y hy).1.elim (fun q=>.inl ⟨q,sQ hbd (cj h1) (hk _ _ q)⟩) fun q=>.inr (.inl ⟨q.1,zl (q.2 (L+1)),Es hbd (cj h1) (by rw[hk _ _ q.1];exact fun h=>nomatch h)⟩),h2⟩
theorem EH{A:Around}{l:List Env}{qual:Str}{i:ag}{L a:Addr}{cdv:Value}(Fo:AD K a i)(hlam:∀l∈jv,i.sc.names.lookup l.key=some .cell→cdv=.ref l.code∧qual=l.fn)(hfr:A.frames=some l)(hh:A.handled=none)(hd:A.depth+2*(n+1)+8 < recursionLimit)(hu:A.units+16*(n+1)+128 < cLine) :
  (sr A l qual i L a cdv (cellsFrom (L+1) i.sc.names [])).Ok n:=
 ⟨Around.frames_deeper hfr,hh,Fo.kind,Fo.kind,BH hd,Cm hu,fun x a _ e=>cj e,cellsFrom_names i.sc.names 0 (L+1) [] [] rfl▸Fo.apart,fun y e=>zl (jB i.sc.names (L+1) [] e),hlam⟩
theorem AL{P:Pm}{H:HP}{ρ:List Addr}{ae:a6}{ob:Tr}{h ao:Heap}{m mc:cq}{cs:List (Str×Addr)}(I:a8 P base H ρ ae ob h)(gL:∀b o,h.get? b=some o→ao.get? b=some o)(hc:∀p∈cs,h.get? p.2=none∧∃o,ao.get? p.2=some o∧(eE (mc p.1)).φ H o)(hcd:(cs.map (·.2)).Nodup)
  (hab:∀p∈cs,h.objs.size < p.2) (hns:ao.Ns h.objs.size m):a8 P base H ρ ((h.objs.size,a7 m)::(aP cs mc++ae)) ob ao:=by
 have nR:h.objs.size∉ρ:=I.topR
 refine(t9 I gL mc cs hc hcd).addPlace I.topNew I.topH (fun q=>?_) nR (dq.mpr hns) (fun i o b _ e q=>nR (q▸List.mem_of_getElem? e))
 rw[List.map_append]at q
 refine(List.mem_append.mp q).elim (fun q=>?_) I.topF
 rw[qC]at q
 exact(List.mem_map.mp q).elim fun p hp=>absurd (hab p hp.1) (by rw[hp.2];exact Nat.lt_irrefl _)
noncomputable def Th(r:Flow):Value:=match r with
 |.ret v=>v
 |_=>.none
theorem Nc{P:Pm}{H:HP}{ρ:List Addr}{f:Fl}{r:Flow}(R:qz P H ρ f r):aj P H ρ (tV f) (Th r):=by
 cases R with
 |next=>exact .none
 |brk=>exact .none
 |cont=>exact .none
 |ret q=>exact q
theorem sZ (G:aY prog w T c K base) {A:Around} {l:List Env} {a:Addr} {i:ag} {as:List V} {bU:List Value} {ob:bb} {fm':List (Str×V)} {H:HP} {ρ:List Addr} {ae:a6} {s:Shared} {R:Result→Shared→Prop} (hfr:A.frames=some l) (hh:A.handled=none) (hd:A.depth+2*(n+1)+8 < recursionLimit) (hu:A.units+16*(n+1)+128 < cLine)
    (hi:c.FI a=some i) (hb:jE i.ps as i.ds=some fm') (I:a8 (pm w T) base H ρ ae ob.tr s.heap) (hlen:ρ.length=ob.nx) (hout:cz l ae) (hv:ak (pm w T) H ρ as bU)
    (k:∀qual cdv cs ao tk,(sr A l qual i s.heap.objs.size a cdv cs).Ok n→aJ (pm w T) base (sr A l qual i s.heap.objs.size a cdv cs) H ρ ⟨fm',ob⟩ ae ao→(∀b o,s.heap.get? b=some o→ao.get? b=some o)→
      wpAny (model prog w) (sr A l qual i s.heap.objs.size a cdv cs).A (execs i.body (sr A l qual i s.heap.objs.size a cdv cs).fenv) (fun f s'=>R (.ok (.ret (match f with|.ret v=>v|_=>.none))) s')
        (fun e s'=>wpAny (model prog w) (sr A l qual i s.heap.objs.size a cdv cs).A (leaving (sr A l qual i s.heap.objs.size a cdv cs).fenv e) (fun _ s''=>R (.error e) s'') (fun e' s''=>R (.error e') s'') s') {s with heap:=ao,toks:=tk}) :
    codeAny (model prog w) A (.call (.ref a) ⟨bU,[]⟩) R s:=by
  have Fo:=G.fi _ _ hi
  refine cps fun G0 kk=>?_
  refine N3 Fo.obj fun Z hK hcd hbind hlam=>?_
  have Xh:=G.kin.keeps I.keep
  refine av (hbind s as bU fm' _ H ρ Xh hb hv) fun bs hbs hfb=>?_
  refine kk ?_
  have hnames:=ml _ hb
  have hloc:∀x∈bs,x.1∈i.ps:=fun x hx=>by rw[←hnames,hfb.names];exact List.mem_map.mpr ⟨x,hx,rfl⟩
  refine codeAny_call_function (xN hd) (Xh _ _ hK) rfl Fo.co Fo.gen rfl (codeRec_of Xh hcd) (hbs _ _ _ _ ?_)
  refine wpAny_newFunctionEnv_cells Fo.kind (fun x hx=>(Fo.locs x.1 (hloc x hx)).1.imp id fun q=>⟨q.1,q.2 _⟩) fun env' he s' x=>?_
  rw[he]at x ⊢
  refine⟨(G.nolimit.keeps I.keep).keeps x.toInCall.keep,codeAny_func ?_⟩
  refine bq x.done fun ao tk rq2 _=>?_;subst rq2
  have hcn:=cellsFrom_names i.sc.names 0 (s.heap.objs.size+1) [] [] rfl▸Fo.apart
  have gL:=x.toInCall.keep
  have dB:=AL I gL (fun p hp=>⟨Heap.get?_none_of_le (Nat.le_of_lt (x.above p.1 p.2 hp)),x.cell p.1 p.2 (lookup_of_mem_nodup hcn hp)⟩) (List.pairwise_map.mpr x.apart) (fun p hp=>x.above p.1 p.2 hp) x.toInCall.ns
  exact k Z.qual Z.cdv _ ao tk (EH Fo hlam hfr hh hd hu) ⟨⟨_,_,dB,Cu Fo hnames hfb fun x k e=>e⟩,hlen,hout,.inl rfl⟩ gL
theorem rK(G:aY prog w T c K base)(S:dX prog w T base c.R E n){A:Around}{l:List Env}{a:Addr}{i:ag}{as:List V}{bU:List Value}{ob:bb}{Q:V→bb→Prop}{H:HP}{ρ:List Addr}{ae:a6}{s:Shared}{Q':Value→Shared→Prop}{EE:Value→Shared→Prop}(hfr:A.frames=some l)(hh:A.handled=none)(hd:A.depth+2*(n+1)+8 < recursionLimit)(hu:A.units+16*(n+1)+128 < cLine)
  (hi:c.FI a=some i) (h:au E i as ob Q) (I:a8 (pm w T) base H ρ ae ob.tr s.heap) (hlen:ρ.length=ob.nx) (hout:cz l ae) (X:∀e s',s'.gens=s.gens→s'.drawn=s.drawn→s'.os=s.os→dz base c.R l ae H e s'.heap→EE (.ref e) s') (hv:ak (pm w T) H ρ as bU)
  (an:∀v r ob' H' ρ' s',a8 (pm w T) base H' ρ' ae ob'.tr s'.heap→ρ'.length=ob'.nx→aX base H ρ s H' ρ' s'→aj (pm w T) H' ρ' v r→Q v ob'→Q' r s'):codeAny (model prog w) A (.call (.ref a) ⟨bU,[]⟩) (kE Q' EE) s:=by
 refine aM h fun fm' hb h=>sZ (n:=n) G hfr hh hd hu hi hb I hlen hout hv fun qual cdv cs ao tk O' N' gL=>?_
 refine S.ss _ i.body ⟨fm',ob⟩ _ O' h H ρ ae {s with heap:=ao,toks:=tk} _ _ N' ⟨fun e s' g1 g2 g3 t=>rA O'.frames rfl t fun h' t'=>X e _ g1 g2 g3 t',PassesOwn.leaving⟩ fun f r σ' H' ρ' s' aC ay aR Rp=>?_
 refine bq aC.inv fun fF du VA de=>?_
 exact an (tV f) _ σ'.ob H' ρ' s' (mf VA.leave) aC.len ⟨ay.le,ay.new,ay.grows,ay.gens,ay.drawn,ay.os⟩ (Nc aR) Rp
theorem Pp(G:aY prog w T c K base)(S:dX prog w T base c.R E n){cx:Cx}{a:Addr}{i:ag}{as:List V}{bU:List Value}{fm:List (Str×V)}{ob:bb}{Q:V→bb→Prop}{H:HP}{ρ:List Addr}{ae:a6}{s:Shared}{Q':Value→Shared→Prop}{EE:Value→Shared→Prop}(O:cx.Ok (n+1))
  (hi:c.FI a=some i) (h:au E i as ob Q) (N:aJ (pm w T) base cx H ρ ⟨fm,ob⟩ ae s.heap) (X:fV base c.R cx ae H s EE) (hv:ak (pm w T) H ρ as bU)
  (an:dN w T base cx ae H ρ s (fun v σ=>Q v σ.ob∧σ.fm=fm) Q'):codeAny (model prog w) cx.A (.call (.ref a) ⟨bU,[]⟩) (kE Q' EE) s:=by
 refine bq N.inv fun m mc I F=>?_
 refine rK G S O.frames O.handled O.depth O.units hi h I N.len (fP O N.outer N.self) (X.sub fun p hp=>.tail _ (List.mem_append_right _ hp)) hv fun v r ob' H' ρ' s' I' hl L' R' q=>?_
 exact an v r ⟨fm,ob'⟩ H' ρ' s' ⟨⟨m,mc,I',F.mono L'.le L'.grows⟩,hl,N.outer,N.self⟩ L' R' ⟨q,rfl⟩
end
end
section
structure fo(P:Pm)(base:Heap)(H:HP)(ρ:List Addr)(ae:a6)(h:Heap)(ob ob':bb)(H':HP):Prop where
 inv:a8 P base H' ρ ae ob'.tr h
 le:∀a o,H a o→H' a o
 new:∀a o,H' a o→H a o∨base.get? a=none
 nx:ob'.nx=ob.nx
section
variable {P:Pm}{base h:Heap}{ρ:List Addr}{ae:a6}
theorem fo.refl{H:HP}{ob:bb}(I:a8 P base H ρ ae ob.tr h):fo P base H ρ ae h ob ob H:=⟨I,fun _ _ e=>e,fun _ _ e=>.inl e,rfl⟩
theorem fo.trans{H H' H'':HP}{ob ob' ob'':bb}(x:fo P base H ρ ae h ob ob' H')(y:fo P base H' ρ ae h ob' ob'' H''):fo P base H ρ ae h ob ob'' H'':=
 ⟨y.inv,fun a o e=>y.le a o (x.le a o e),fun a o e=>(y.new a o e).elim (x.new a o) .inr,y.nx.trans x.nx⟩
noncomputable abbrev Cc(P:Pm)(base h:Heap)(ρ:List Addr)(ae:a6)(f:bb→V→Option (V×bb)):Prop:=
 ∀(ob:bb) (H:HP) v r p,a8 P base H ρ ae ob.tr h→aj P H ρ v r→f ob v=some p→∃H',fo P base H ρ ae h ob p.2 H'∧aj P H' ρ p.1 r
theorem gV{f:bb→V→Option (V×bb)}(ih:Cc P base h ρ ae f)(vs:List V):∀(ob:bb) (H:HP) rs p,a8 P base H ρ ae ob.tr h→ak P H ρ vs rs→fB f ob vs=some p→
    ∃H',fo P base H ρ ae h ob p.2 H'∧ak P H' ρ p.1 rs:=by
  induction vs with
  |nil=>exact fun ob H rs p I hv e=>hv.nil' fun er=>er▸af e▸⟨H,.refl I,.nil⟩
  | cons v vs ih2=>
    refine fun ob H rs p I hv e=>aA e fun Nw e1 e=>aA e fun JG e2 e=>hv.cons' fun r l a b er=>?_
    refine av (ih _ _ _ _ _ I a e1) fun aB de aR=>?_
    refine av (ih2 _ _ _ _ de.inv (b.mono de.le .refl) e2) fun aT fY bu=>?_
    rw[er,←af e]
    exact⟨aT,de.trans fY,.cons (aR.mono fY.le .refl) bu⟩
theorem xe{f:bb→V→Option (V×bb)}(ih:Cc P base h ρ ae f)(vs:List (Str×V)):∀(ob:bb) (H:HP) rs p,a8 P base H ρ ae ob.tr h→bV P H ρ vs rs→q8 f ob vs=some p→
    ∃H',fo P base H ρ ae h ob p.2 H'∧bV P H' ρ p.1 rs:=by
  induction vs with
  |nil=>exact fun ob H rs p I hv e=>hv.nil' fun er=>er▸af e▸⟨H,.refl I,.nil⟩
  | cons v vs ih2=>
    refine fun ob H rs p I hv e=>aA e fun Nw e1 e=>aA e fun JG e2 e=>hv.cons' fun t r l a b er=>?_
    refine av (ih _ _ _ _ _ I a e1) fun aB de aR=>?_
    refine av (ih2 _ _ _ _ de.inv (b.mono de.le .refl) e2) fun aT fY bu=>?_
    rw[er,←af e]
    exact⟨aT,de.trans fY,.cons (aR.mono fY.le .refl) bu⟩
theorem u7{f:bb→V→Option (V×bb)}(es:List (V×V)):∀(ob:bb) p,kn f ob es=some p→p.1.map (·.1)=es.map (·.1):=by
 induction es with
 |nil=>exact fun _ _ e=>af e▸rfl
 |cons x r ih=>exact fun ob p e=>aA e fun Nw _ e=>aA e fun JG e2 e=>af e▸congrArg (x.1::·) (ih _ _ e2)
theorem DJ{a b:List (V×V)}(e:a.map (·.1)=b.map (·.1))(h:bG b):bG a:=by
 unfold bG at h ⊢
 have h1:(b.map (·.1)).Pairwise fun x y=>bY x y=false:=List.pairwise_map.mpr h
 rw[←e]at h1
 exact List.pairwise_map.mp h1
theorem vU{f:bb→V→Option (V×bb)}(ih:Cc P base h ρ ae f)(vs:List (V×V)):∀(ob:bb) (H:HP) rs p,a8 P base H ρ ae ob.tr h→cu P H ρ vs rs→kn f ob vs=some p→
    ∃H',fo P base H ρ ae h ob p.2 H'∧cu P H' ρ p.1 rs:=by
  induction vs with
  |nil=>exact fun ob H rs p I hv e=>hv.nil' fun er=>er▸af e▸⟨H,.refl I,.nil⟩
  | cons v vs ih2=>
    refine fun ob H rs p I hv e=>aA e fun Nw e1 e=>aA e fun JG e2 e=>hv.cons' fun hs kr r l k kh a b er=>?_
    refine av (ih _ _ _ _ _ I a e1) fun aB de aR=>?_
    refine av (ih2 _ _ _ _ de.inv (b.mono de.le .refl) e2) fun aT fY bu=>?_
    rw[er,←af e]
    exact⟨aT,de.trans fY,.cons ((k.mono de.le .refl).mono fY.le .refl) kh (aR.mono fY.le .refl) bu⟩
theorem fo.one{H:HP}{ob:bb}(I:a8 P base H ρ ae ob.tr h){i:Nat}{a:Addr}{x:O}{o:Obj}{v:V}(hi:ob.tr.get i=some x)(hl:x.live=true)(ha:ρ[i]?=some a)(ho:h.get? a=some o)
  (hv:aj P (H.and a o) ρ v (.ref a)):fo P base H ρ ae h ob (da ob i (.frz v)) (H.and a o):=
 ⟨I.freeze hi hl ha ho (Tr.get_set _ _ _ · (by rw[hi];rfl)) hv,fun _ _ e=>.inl e,fun b y e=>e.elim .inl fun⟨q,_⟩=>.inr (q▸(I.apart hi hl ha).nb),rfl⟩
theorem wZ{gm:bb}{aB:HP}{i d:Nat}{aa dx C':Addr}{es:List DictEntry}{k:Nat}{fs' K0:List (Str×V)}(I:a8 P base aB ρ ae gm.tr h)(ne:i≠d)(ie:gm.tr.get i=some (.inst C' d))(vp:gm.tr.get d=some (.ns K0))(ha:ρ[i]?=some aa)(a2:ρ[d]?=some dx)(b1:h.get? dx=some (dictOf es k))(aR:bV P aB ρ fs' es) :
  ∃H',fo P base aB ρ ae h gm (mH (da gm i (.frz (.inst C' fs'))) d) H'∧aj P H' ρ (.inst C' fs') (.ref aa):=by
 refine(I.at ie ha).inst' fun dx' c1 c2=>?_
 obtain rfl:=af (a2.symm.trans c2)
 have D:=I.apart vp rfl c2
 have s1:(gm.tr.get i).isSome=true:=by rw[ie];rfl
 have s2:(gm.tr.get d).isSome=true:=by rw[vp];rfl
 have fY:fo P base aB ρ ae h gm (mH gm d) (aB.and dx (dictOf es k)):=
  ⟨Ec I vp rfl c2 b1 (Tr.get_set _ _ _ · s2),fun _ _ e=>.inl e,fun b y e=>e.elim .inl fun⟨q,_⟩=>.inr (q▸D.nb),rfl⟩
 have Rq:(mH gm d).tr.get i=some (.inst C' d):=(Tr.get_set _ _ _ _ s2).trans ((if_neg ne).trans ie)
 have bu:aj P ((aB.and dx (dictOf es k)).and aa (instObj C' dx)) ρ (.inst C' fs') (.ref aa):=.inst HP.new (HP.le _ _ HP.new) ((aR.mono HP.le .refl).mono HP.le .refl)
 have GD:=fY.trans (fo.one fY.inv Rq rfl ha c1 bu)
 refine⟨_,⟨E6 GD.inv fun j=>?_,GD.le,GD.new,GD.nx⟩,bu⟩
 show((gm.tr.set i _).set d none).get j=((gm.tr.set d none).set i _).get j
 rw[Tr.get_set _ _ _ _ (by rw[Tr.get_set _ _ _ _ s1,if_neg (Ne.symm ne)];exact s2),Tr.get_set _ _ _ _ s1,Tr.get_set _ _ _ _ (by rw[Tr.get_set _ _ _ _ s2,if_neg ne];exact s1),Tr.get_set _ _ _ _ s2]
 by_cases z1:j=d
 ·rw[if_pos z1,if_neg (fun z:j=i=>ne (z.symm.trans z1)),if_pos z1]
 ·rw[if_neg z1,if_neg z1]
theorem Ip{f:bb→V→Option (V×bb)}(ih:Cc P base h ρ ae f){ob:bb}{H:HP}{i:Nat}{aa:Addr}{o:O}{p:V×bb}(I:a8 P base H ρ ae ob.tr h)(ha:ρ[i]?=some aa)(eo:ob.tr.get i=some o)(e:QY f ob i o=some p):∃H',fo P base H ρ ae h ob p.2 H'∧aj P H' ρ p.1 (.ref aa):=by
  cases o with
  |frz v=>exact af e▸⟨H,.refl I,(I.at eo ha).inv⟩
  | list vs=>
    refine aA (o:=fB f ob vs) e fun q e1 e=>cH e fun hs e=>sv hs fun Rr ie=>(I.at eo ha).list' fun rs k a1 a2=>?_
    refine av (gV ih vs _ _ _ _ I a2 e1) fun aB de aR=>?_
    rw[←af e]
    exact⟨_,de.trans (.one de.inv (jq ie) rfl ha a1 (.list HP.new (aR.mono HP.le .refl))),.list HP.new (aR.mono HP.le .refl)⟩
  | dict aU=>
    refine aA (o:=kn f ob aU) e fun q e1 e=>cH e fun hs e=>sv hs fun Rr ie=>(I.at eo ha).dict' fun es k a1 a2 a3 a4=>?_
    refine av (vU ih aU _ _ _ _ I a4 e1) fun aB de aR=>?_
    have hd:bG q.1:=DJ (u7 aU _ _ e1) a3
    rw[←af e]
    exact⟨_,de.trans (.one de.inv (MB ie) rfl ha a1 (.dict HP.new a2 hd (aR.mono HP.le .refl))),.dict HP.new a2 hd (aR.mono HP.le .refl)⟩
  | inst C d=>
    refine aA (o:=oN _) e fun fs ed e=>aA e fun q e1 e=>aA e fun x ie e=>cH e fun hs e=>az hs fun hs hq=>az hq fun q1 q2=>sv hs fun K0 vp=>(I.at eo ha).inst' fun dx a1 a2=>(I.at (HL ed) a2).ns' fun es k b1 b2=>?_
    refine av (xe ih fs _ _ _ _ I b2 e1) fun aB de aR=>?_
    have ie:=LJ ie
    rw[Nat.eq_of_beq_eq_true q1]at ie
    refine av (wZ de.inv (Nat.ne_of_beq_eq_false (cX q2)) ie (HL vp) ha a2 b1 aR) fun aT fY bu=>?_
    rw[←af e]
    exact⟨aT,de.trans fY,bu⟩
  |ns=>cases e
theorem jn(n:Nat):Cc P base h ρ ae (freeze n):=by
  induction n with
  |zero=>exact fun _ _ _ _ _ _ _ e=>nomatch e
  | succ n ih=>
    refine fun ob H v r p I hv e=>dD e (fun i ei e=>aA e fun o eo e=>hv.cR ei fun aa ha er=>er▸Ip ih I ha eo e) fun _ e=>dD e (fun vs ev e=>aA e fun q e1 e=>hv.cT ev fun rs a h1 h2 er=>?_) fun _ e=>af e▸⟨H,.refl I,hv⟩
    refine av (gV ih vs _ _ _ _ I h2 e1) fun aB de aR=>?_
    rw[er,←af e]
    exact⟨aB,de,.tup (de.le _ _ h1) aR⟩
end
end
section
section
variable {P:Pm}{H:HP}{ρ:List Addr}
noncomputable abbrev DA(P:Pm)(H:HP)(ρ:List Addr)(f:V→Bool):Prop:=∀v r,aj P H ρ v r→f v=true→aj P H [] v r
theorem fI{f:V→Bool}(ih:DA P H ρ f){vs:List V}{rs:List Value}(h:ak P H ρ vs rs)(e:bH f vs=true):ak P H [] vs rs:=by
 induction vs generalizing rs with
 |nil=>exact h.nil' fun e=>e▸.nil
 |cons v vs i2=>exact h.cons' fun r l a b er=>er▸.cons (ih _ _ a (bF e).1) (i2 b (bF e).2)
theorem qu{f:V→Bool}(ih:DA P H ρ f){fs:List (Str×V)}{es:List DictEntry}(h:bV P H ρ fs es)(e:bH (fun p=>f p.2) fs=true):bV P H [] fs es:=by
 induction fs generalizing es with
 |nil=>exact h.nil' fun e=>e▸.nil
 |cons v vs i2=>exact h.cons' fun t r l a b er=>er▸.cons (ih _ _ a (bF e).1) (i2 b (bF e).2)
theorem qF{f:V→Bool}(ih:DA P H ρ f){fs:List (V×V)}{es:List DictEntry}(h:cu P H ρ fs es)(e:bH (fun p=>aH (f p.1) (f p.2)) fs=true):cu P H [] fs es:=by
 induction fs generalizing es with
 |nil=>exact h.nil' fun e=>e▸.nil
 |cons v vs i2=>exact az (bF e).1 fun e1 e2=>h.cons' fun hs kr r l a k b c er=>er▸.cons (ih _ _ a e1) k (ih _ _ b e2) (i2 c (bF e).2)
theorem kc(hT:∀k r,aj P H ρ (P.T k) r→aj P H [] (P.T k) r)(n:Nat):DA P H ρ (pS n):=by
  induction n with
  |zero=>exact fun _ _ _ e=>nomatch e
  | succ n ih=>
    intro v r hv e
    cases hv with
    |none=>exact .none
    |bool=>exact .bool
    |int=>exact .int
    |str h=>exact .str h
    |bytes=>exact .bytes
    |irow a b=>exact .irow a b
    |tup a b=>exact .tup a (fI ih b e)
    |inst a b c=>exact .inst a b (qu ih c e)
    |list a b=>exact .list a (fI ih b e)
    |dict a b c d=>exact .dict a b c (qF ih d e)
    |ref=>cases e
    |glob=>exact .glob
    |blt=>exact .blt
    |typ=>exact .typ
    |named a=>exact .named (hT _ _ a)
    |rng a=>exact .rng a
end
theorem tW{base B h:Heap}{R:Addr→Prop}{l:List Env}{ae:a6}{H:HP}{e:Addr}(k:base.StaysIn B)(t:dz B R l ae H e h):dz base R l ae H e h:=
 let ⟨B',aB,t1,t2,t3,t4⟩:=t;⟨B',aB,fun b o q=>t1 b o (k b o q),t2,fun a o q=>(t3 a o q).imp id (fresh_of_stays k ·),t4⟩
section
variable {prog:Program}{w:World}{T:Nat→V}{base:Heap}{c:df}{K:Frag}{E:Ev}{n:Nat}
theorem ze{G:Prop}{as:List V}{ob:bb}{p}(h:Fs as ob=some p)(k:fB (freeze 12) ob as=some p→bH (pS 14) p.1=true→G):G:=aA h fun q e h=>cH h fun b h=>by rw[←af h]at k;exact k e b
theorem Jx (G:aY prog w T c K base) {cx:Cx} {a:Addr} {m:Nat} {Sp:bM} {as:List V} {fa:List V×bb} {bU:List Value} {fm:List (Str×V)} {ob:bb} {Q:V→bb→Prop} {H:HP} {ρ:List Addr} {ae:a6} {s:Shared} {Q':Value→Shared→Prop} {EE:Value→Shared→Prop}
    (O:cx.Ok m) (hc:c.C a=some (m,Sp)) (hf:fB (freeze 12) ob as=some fa) (hr:bH (pS 14) fa.1=true) (h:Sp fa.1 (fun v=>Q v fa.2) c.R) (N:aJ (pm w T) base cx H ρ ⟨fm,ob⟩ ae s.heap) (X:fV base c.R cx ae H s EE) (hv:ak (pm w T) H ρ as bU)
    (an:dN w T base cx ae H ρ s (fun v σ=>Q v σ.ob∧σ.fm=fm) Q'):codeAny (model prog w) cx.A (.call (.ref a) ⟨bU,[]⟩) (kE Q' EE) s:=by
  refine bq N.inv fun m' mc' I F=>?_
  refine av (gV (jn 12) as ob H bU fa I hv hf) fun aB de aR=>?_
  have bu:=fI (kc (G.named · _ _ ·) 14) aR hr
  have dB:=de.inv
  have O':=O
  let qa:List Addr:=((cx.L,a7 m')::(aP cx.cs mc'++ae)).map (·.1)
  let B:=hideAll s.heap qa
  have kB:∀b o,base.get? b=some o→B.get? b=some o:=fun b o e=>hideAll_get _ (dB.keep b o e) fun q=>by
    refine av (List.mem_map.mp q) fun p hp e'=>?_
    have:=(dB.frNew p hp).1
    rw[e',e]at this;cases this
  have IB:a8 (pm w T) B aB [] ((cx.L,a7 m')::(aP cx.cs mc'++ae)) .nil s.heap:=
    ⟨fun b o e=>of_hideAll _ e,dB.frz,dB.frNs,fun p hp=>⟨hideAll_none _ (List.mem_map.mpr ⟨p,hp,rfl⟩),(dB.frNew p hp).2⟩,dB.frDup,fun i o e=>(nomatch e),List.nodup_nil,fun a ha=>(nomatch ha),fun a ha=>(nomatch ha)⟩
  have ay:aX base H ρ s aB ρ s:=⟨de.le,de.new,.refl,rfl,rfl,rfl⟩
  refine G.spec a m Sp hc B cx c.R fa.1 bU _ aB _ s Q' EE kB O h IB (fP O' N.outer N.self) (fun e s' g1 g2 g3 t=>((X.later ay).sub fun p hp=>.tail _ (List.mem_append_right _ hp)) e s' g1 g2 g3 (tW kB t)) bu ?_
  intro v r obx H' ρ' s' fC L' R' hk
  have nb:∀b o,s.heap.get? b=some o→b∉qa→s'.heap.get? b=some o:=fun b o e q=>fC.keep b o (hideAll_get _ e q)
  have nH:∀b o,s.heap.get? b=some o→b∉qa→(∀y,¬aB b y)→∀y,¬H' b y:=fun b o e q z y e'=>(L'.new b y e').elim (z y) fun q'=>by
    have:=hideAll_get qa e q
    rw[q']at this;cases this
  have pP:a8 (pm w T) base H' ρ ((cx.L,a7 m')::(aP cx.cs mc'++ae)) fa.2.tr s'.heap:=by
    refine⟨fun b o e=>fC.keep b o (kB b o e),fC.frz,fC.frNs,fun p hp=>⟨(dB.frNew p hp).1,(fC.frNew p hp).2⟩,dB.frDup,fun i o e=>?_,dB.dup,fun b hb=>?_,dB.rf⟩
    · refine dC (dB.own i o e) fun b h1 h2 h3=>?_
      refine cf (dB.there b (List.mem_of_getElem? h1)) fun x hx=>?_
      by_cases l:o.live=true
      · have A:=h3 l
        exact⟨b,h1,h2.mono L'.le .refl (fun y e=>nb b y e A.nf),fun _=>⟨A.nb,nH b x hx A.nf A.nH,A.nf⟩⟩
      · refine⟨b,h1,?_,fun l'=>absurd l' l⟩
        cases o with
        |frz v=>exact .frz (aj.mono L'.le .refl h2.inv)
        |_=>exact absurd rfl l
    · refine cf (dB.there b hb) fun x hx=>?_
      by_cases q:b∈qa
      · refine av (List.mem_map.mp q) fun p hp e=>?_
        refine av (fC.frNs p hp) fun y hy _=>?_
        exact⟨y,e▸hy⟩
      · exact⟨x,nb b x hx q⟩
  refine an v r ⟨fm,fa.2⟩ H' ρ s' ⟨⟨m',mc',pP,F.mono (fun a o e=>L'.le a o (ay.le a o e)) .refl⟩,(by rw[de.nx];exact N.len),N.outer,N.self⟩ ⟨fun a o e=>L'.le a o (ay.le a o e),fun b o e=>?_,.refl,L'.gens,L'.drawn,L'.os⟩ (R'.mono (fun _ _ e=>e) fun i a e=>by rw[List.getElem?_nil]at e;cases e) ⟨hk,rfl⟩
  rcases L'.new b o e with e|e
  · exact ay.new b o e
  · exact .inr (fR kB e)
theorem kG(l:Option (List Env)):pushEnvs [] l=l:=by cases l <;> rfl
theorem Ft(G:aY prog w T c K base)(S:dX prog w T base c.R E n){cx:Cx}{C f:Addr}{as:List V}{bU:List Value}{fm:List (Str×V)}{ob:bb}{Q:V→bb→Prop}{H:HP}{ρ:List Addr}{ae:a6}{s:Shared}{Q':Value→Shared→Prop}{EE:Value→Shared→Prop}(O:cx.Ok (n+1))
  (hc:c.CI C=some f) (h:yE E C f as ob Q)
  (N:aJ (pm w T) base cx H ρ ⟨fm,ob⟩ ae s.heap) (X:fV base c.R cx ae H s EE) (hv:ak (pm w T) H ρ as bU)
  (an:dN w T base cx ae H ρ s (fun v σ=>Q v σ.ob∧σ.fm=fm) Q'):codeAny (model prog w) cx.A (.call (.ref C) ⟨bU,[]⟩) (kE Q' EE) s:=by
 have Mk:=G.ci _ _ hc
 have Xh:=G.kin.keeps N.keep
 obtain⟨hh,g,d,t,os⟩:=s
 refine aM h fun y ey h1=>aM (o:=some ob.nx) h1 fun dd ed h1=>aM h1 fun y2 ey2 h1=>?_
 rw[←af ed]at h1 ey2
 refine bq N.inv fun m mc I F=>?_
 have I1:=I.alloc (o:=emptyDict) (x:=.ns []) (ob':=ob.tr.ins ob.nx (.ns [])) (by rw[N.len];exact Tr.get_ins _ _ _ (by rw[ey];rfl)) (.ns (n:=0) (es:=[]) (Heap.get?_push_size _ rfl) .nil)
 have hl1:(ρ++[hh.objs.size]).length=ob.nx+1:=by rw[List.length_append,List.length_singleton,N.len]
 have I2:=I1.alloc (o:=instObj C hh.objs.size) (x:=.inst C ob.nx) (ob':=(ob.tr.ins ob.nx (.ns [])).ins (ob.nx+1) (.inst C ob.nx)) (by rw[hl1];exact Tr.get_ins _ _ _ (by rw[ey2];rfl))
  (.inst (Heap.get?_push_size _ rfl) (by rw[List.getElem?_append_left (by rw[hl1];exact Nat.lt_succ_self _)];rw[←N.len];exact List.getElem?_concat_length))
 refine make_core (makes_of Xh Mk.makes) (looks_findIn Xh Mk.init) (fun self=>bind_fn Xh self Mk.fn) (.inl rfl) ?_
 let cx':Cx:={cx with A:=cx.A.under (.builtin "type.__call__" ⟨.ref C::bU,[]⟩)}
 have w1:(Code.builtin "type.__call__" ⟨.ref C::bU,[]⟩).weight=1:=by kernel_rfl
 have w2:(Code.builtin "type.__call__" ⟨.ref C::bU,[]⟩).cUnits=1:=by kernel_rfl
 have O':cx'.Ok n:=⟨(kG _).trans O.frames,O.handled,O.kind,O.kind0,by have:=O.depth;show cx.A.depth+Code.weight _+2*n+8 < _;rw[w1];lia,by have:=O.units;show cx.A.units+Code.cUnits _+16*n+128 < _;rw[w2];lia,O.kept,O.names,O.cells,O.lam⟩
 have hs:(hh.push emptyDict).objs.size=hh.objs.size+1:=Heap.size_push ..
 rw[hs]at I2
 have G2:cF ρ (ρ++[hh.objs.size]++[hh.objs.size+1]):=cF.more.trans .more
 have hself:aj (pm w T) H (ρ++[hh.objs.size]++[hh.objs.size+1]) (.ref (ob.nx+1)) (.ref (hh.objs.size+1)):=.ref (by rw[←hl1];exact List.getElem?_concat_length)
 have N2:aJ (pm w T) base cx' H (ρ++[hh.objs.size]++[hh.objs.size+1]) ⟨fm,⟨(ob.tr.ins ob.nx (.ns [])).ins (ob.nx+1) (.inst C ob.nx),ob.nx+1+1⟩⟩ ae ((hh.push emptyDict).push (instObj C hh.objs.size)):=
  ⟨⟨m,mc,I2,F.mono (fun _ _ e=>e) G2⟩,by rw[List.length_append,hl1,List.length_singleton],N.outer,N.self⟩
 refine codeAny_mono (S.code cx' _ _ fm _ (fun r Gs=>bP (AW r) (Q (.ref (ob.nx+1)) Gs)) O' h1 H _ ae _ (fun r s'=>r=.none∧Q' (.ref (hh.objs.size+1)) s') EE _ N2 X (.cons hself (hv.mono (fun _ _ e=>e) G2)) fun v r σ' H' ρ' s' N' L' R' q=>?_) fun r s' z=>?_
 ·refine bC q fun q e=>?_
  refine bD q fun er q=>R'.cNo er fun er=>?_
  ·refine⟨er,an (.ref (ob.nx+1)) (.ref (hh.objs.size+1)) σ' H' ρ' s' ⟨N'.inv,N'.len,N'.outer,N'.self⟩ ⟨L'.le,L'.new,G2.trans L'.grows,L'.gens,L'.drawn,L'.os⟩ (hself.mono L'.le L'.grows) ⟨q,e⟩⟩
 ·rcases r with e|(v|_|_|_) <;> exact z
end
end
section
section
variable {P:Pm}{base h h':Heap}{H:HP}{ρ:List Addr}{ae:a6}{ob:Tr}
theorem a8.tab{J D:Addr}{φ:Fp}{oD:Obj}(I:a8 P base H ρ ae ob h)(hJ:(J,φ)∈ae)(k:∀b o,b≠J→h.get? b=some o→h'.get? b=some o)(hD:h.get? D=none)(hD':h'.get? D=some oD)(hn:∃o,h'.get? J=some o∧φ.φ (H.and D oD) o):a8 P base (H.and D oD) ρ ae ob h':=by
 have nJ:=I.frNew _ hJ
 have rJ:∀a∈ρ,a≠J:=fun a ha e=>I.rf a ha (by rw[e];exact List.mem_map.mpr ⟨_,hJ,rfl⟩)
 have fD:∀p∈ae,p.1≠D:=fun p hp e=>by obtain⟨o,ho,_⟩:=I.frNs p hp;rw[e,hD]at ho;cases ho
 have rD:∀a∈ρ,a≠D:=fun a ha e=>by obtain⟨o,ho⟩:=I.there a ha;rw[e,hD]at ho;cases ho
 refine⟨fun b o e=>k b o (fun q=>by rw[q,nJ.1]at e;cases e) (I.keep b o e),?_,fun p hp=>?_,fun p hp=>⟨(I.frNew p hp).1,?_⟩,I.frDup,fun i o e=>?_,I.dup,fun a ha=>?_,I.rf⟩
 ·rintro a o (e|⟨rfl,rfl⟩)
  ·exact k a o (fun q=>nJ.2 o (q▸e)) (I.frz a o e)
  ·exact hD'
 ·by_cases q:p.1=J
  ·have e:p=(J,φ):=qJ I.frDup hp hJ q
   rw[e];exact hn
  ·refine av (I.frNs p hp) fun o e f=>?_
   exact⟨o,k _ _ q e,p.2.mono HP.le f⟩
 ·rintro o (e|⟨e,_⟩)
  ·exact(I.frNew p hp).2 o e
  ·exact fD p hp e
 ·refine dC (I.own i o e) fun a h1 h2 h3=>?_
  have ha:=List.mem_of_getElem? h1
  refine⟨a,h1,h2.mono (fun _ _ x=>.inl x) .refl (fun o e=>k a o (rJ a ha) e),fun l=>⟨(h3 l).nb,?_,(h3 l).nf⟩⟩
  rintro o (e|⟨e,_⟩)
  ·exact(h3 l).nH o e
  ·exact rD a ha e
 ·refine cf (I.there a ha) fun o e=>?_
  exact⟨o,k a o (rJ a ha) e⟩
end
noncomputable def iG(cl:List (Str×Addr)):List (Str×NameKind)→List (Str×Addr)→List (Str×Addr)
 |[],acc=>acc
 |p::r,acc=>iG cl r (bX (j6 (some p.2)) ((p.1,(cl.lookup p.1).getD 0)::acc) acc)
theorem Ah{cl:List (Str×Addr)}{y:Str}{a:Addr}(l:List (Str×NameKind)):∀(acc:List (Str×Addr)),(y,a)∈iG cl l acc→(y,a)∈acc∨((y,NameKind.free)∈l∧a=(cl.lookup y).getD 0):=by
  induction l with
  |nil=>exact fun _ h=>.inl h
  | cons p r ih=>
    intro acc h
    refine(ih _ h).elim (fun h=>?_) fun h=>.inr ⟨.tail _ h.1,h.2⟩
    refine(Bool.eq_false_or_eq_true (j6 (some p.2))).elim (fun q=>?_) fun q=>?_
    · rw[q]at h
      refine(List.mem_cons.mp h).elim (fun e=>.inr ?_) .inl
      have e2:=nW q
      refine⟨?_,?_⟩
      · rw[show y=p.1 from congrArg Prod.fst e,←af e2];exact .head _
      · rw[show a=_ from congrArg Prod.snd e,show y=p.1 from congrArg Prod.fst e]
    · rw[q]at h
      exact .inl h
theorem Ay{cl:List (Str×Addr)}{y:Str}(l:List (Str×NameKind)):∀(acc:List (Str×Addr)),(y,NameKind.free)∈l∨y∈acc.map (·.1)→y∈(iG cl l acc).map (·.1):=by
  induction l with
  |nil=>exact fun _ h=>h.elim (fun h=>nomatch h) id
  | cons p r ih=>
    intro acc h
    refine ih _ (h.elim (fun h=>(List.mem_cons.mp h).elim (fun e=>.inr ?_) .inl) fun h=>.inr ?_)
    · rw[←e];exact .head _
    · cases j6 (some p.2)with
      |true=>exact .tail _ h
      |false=>exact h
theorem wk{α:Type}{y:Str}{l:List (Str×α)}(h:y∈l.map (·.1)):∃a,l.lookup y=some a:=by
  induction l with
  |nil=>cases h
  | cons p r ih=>
    rw[List.lookup_cons]
    cases e:y==p.1 with
    |true=>exact⟨p.2,rfl⟩
    | false=>
      refine(List.mem_cons.mp h).elim (fun h=>?_) ih
      rw[h,beq_self_eq_true]at e;cases e
theorem sa{cl:List (Str×Addr)}{y:Str}{a:Addr}{l:List (Str×NameKind)}(h:(y,NameKind.free)∈l)(ha:cl.lookup y=some a):(iG cl l []).lookup y=some a:=
 (wk (Ay (cl:=cl) l [] (.inl h))).elim fun b hb=>(Ah _ _ (cj hb)).elim (fun h=>nomatch h) fun h=>by rw[hb,h.2,ha];rfl
theorem pC{env:Env}(l:List (Str×NameKind)):∀(acc:List (Str×Addr)),(∀y,(y,NameKind.free)∈l→∃b,env.cells.lookup y=some b)→
      (forIn l acc fun(x:Str×NameKind) (r:List (Str×Addr))=>if(x.2==.free)=true then do let a ←cellOf env x.1;pure (ForInStep.yield ((x.1,a)::r))else pure (ForInStep.yield r):Sem _)=pure (iG env.cells l acc):=by
  induction l with
  |nil=>intro acc _;rfl
  | cons p r ih=>
    intro acc h
    rw[List.forIn_cons]
    have hr:∀y,(y,NameKind.free)∈r→∃b,env.cells.lookup y=some b:=fun y hy=>h y (.tail _ hy)
    refine(Bool.eq_false_or_eq_true (p.2==.free)).elim (fun q=>?_) fun q=>?_
    · have qe:p.2=.free:=eq_of_beq q
      have h0:=h p.1 (by rw[←qe];exact .head _)
      refine cf h0 fun b hb=>?_
      have e:cellOf env p.1=pure b:=by unfold cellOf;rw[hb]
      rw[if_pos q,e]
      show(forIn r ((p.1,b)::acc) _:Sem _)=_
      rw[ih _ hr]
      conv=>rhs;unfold iG
      rw[qe,hb];rfl
    · have qe:j6 (some p.2)=false:=by revert q;cases p.2 <;> first|exact fun _=>rfl|exact fun h=>nomatch h
      rw[if_neg (by rw[q];exact fun h=>nomatch h)]
      show(forIn r acc _:Sem _)=_
      rw[ih _ hr]
      conv=>rhs;unfold iG
      rw[qe];rfl
theorem pj{sc:Scope}{env:Env}(hl:∀y,(y,NameKind.free)∈sc.names→∃b,env.cells.lookup y=some b):closureFor sc env=pure (iG env.cells sc.names []):=by
 unfold closureFor
 exact(congrArg (fun x:Sem _=>x >>= fun r=>pure r) (pC sc.names [] hl)).trans rfl
structure iB(sc lsc:Scope)(fm:List (Str×V))(l:List (Str×NameKind))(fm':List (Str×V)):Prop where
 cell:∀y,(y,NameKind.free)∈l→lk y sc.names=some .cell
 none:∀x∈l,x.2≠.cell
 had:∀y v,lk y fm'=some v→(y,NameKind.free)∈l∧lk y lsc.names=some .free∧lk y fm=some v∧(y==("__classdict__":Str))=false
theorem iB.skip{sc lsc:Scope}{fm fm':List (Str×V)}{l:List (Str×NameKind)}{z:Str}(h:iB sc lsc fm l fm'):iB sc lsc fm ((z,.globalImplicit)::l) fm':=
 ⟨fun y hy=>h.cell y ((List.mem_cons.mp hy).elim (fun e=>nomatch congrArg Prod.snd e) id),fun x hx=>(List.mem_cons.mp hx).elim (fun e q=>by rw[e]at q;cases q) (h.none x),fun y v e=>(h.had y v e).imp (.tail _) id⟩
theorem iB.keep{sc lsc:Scope}{fm fm':List (Str×V)}{l:List (Str×NameKind)}{z:Str}{v:V}(h:iB sc lsc fm l fm')(e:Ka sc lsc fm z=some v):iB sc lsc fm ((z,.free)::l) ((z,v)::fm'):=
 cH e fun a hu=>az a fun a1 a2=>az a2 fun a2 a3=>have hz:=nW a1;have hc:=iw a3
  ⟨fun y hy=>(List.mem_cons.mp hy).elim (fun e=>by rw[show y=z from congrArg Prod.fst e];exact hc) (h.cell y),fun x hx=>(List.mem_cons.mp hx).elim (fun e q=>by rw[e]at q;cases q) (h.none x),fun y u e=>iV e (fun q e=>by
   have qe:y=z:=eq_of_beq (by rw[←dw];exact q)
   rw[qe,←af e]
   exact⟨.head _,hz,hu,by rw[←dw];exact cX a2⟩) fun _ e=>(h.had y u e).imp (.tail _) id⟩
theorem AZ{sc lsc:Scope}{fm:List (Str×V)}{l:List (Str×NameKind)}:∀{fm':List (Str×V)},rP sc lsc fm l=some fm'→iB sc lsc fm l fm':=by
  induction l with
  |nil=>exact fun h=>by rw[←af h];exact⟨fun _ h=>(by cases h),fun _ h=>(by cases h),fun _ _ e=>(by cases e)⟩
  | cons p r ih=>
    intro fm' h
    obtain⟨z,k⟩:=p
    cases k with
    |free=>exact aA h fun v ev h=>aA h fun q eq h=>by rw[←af h];exact(ih eq).keep ev
    |globalImplicit=>exact(ih h).skip
    |_=>cases h
end
section
theorem mZ{p q:Pos}(h1:p.line=q.line)(h2:p.col=q.col)(l:List Value):codeAmong p l=codeAmong q l:=by
 fun_induction codeAmong q l with
 |case1 a t b u c rest hc=>simp only [codeAmong,h1,h2,hc,if_true]
 |case2 a t b u c rest hc ih=>simp only [codeAmong,h1,h2];rw[if_neg hc];exact ih
 |case3 l h=>unfold codeAmong;split <;> first|rfl|exact absurd rfl (h _ _ _ _ _ _)
noncomputable abbrev o5:Arguments:=⟨[],[],none,[],[],none,[]⟩
section
variable {prog:Program}{w:World}{T:Nat→V}{base:Heap}{c:df}{K:Frag}{E:Ev}{n:Nat}
theorem Ce{l:zr}(h:l∈jv):(l.P,zc l)∈Hw:=List.mem_map.mpr ⟨l,h,rfl⟩
theorem CG(G:aY prog w T c K base){cx:Cx}{σ:St}{H:HP}{ρ:List Addr}{ae:a6}{s:Shared}{Q:Value→Shared→Prop}{EE:Value→Shared→Prop}{A:Around}{body:Expr}{lsc:Scope}{lpos:Pos}{l:zr}{clos:List (Str×Addr)}
  (N:aJ (pm w T) base cx H ρ σ ae s.heap) (hl:l∈jv) (hcd:cx.cd=.ref l.code) (hcn:cx.cn=l.fn) (hp1:lpos.line=l.line) (hp2:lpos.col=l.col) (hcl:closureFor lsc cx.env=pure clos)
  (h:∀f c' ctv pmv H' h' tk,aJ (pm w T) base cx H' ρ σ ae h'→aX base H ρ s H' ρ {s with heap:=h',toks:=tk}→H' f (kla_obj "<lambda>" l.qual o5 body lsc clos pmv c' ctv)→h'.CodeRec (.ref c') l.qual→s.heap.get? f=none→Q (.ref f) {s with heap:=h',toks:=tk}) :
  wpAny (model prog w) A (eval (.Lambda o5 body lsc lpos) cx.env) Q EE s:=by
 refine bq N.inv fun m mc I F=>?_
 have hJ:(l.P,zc l)∈(cx.L,a7 m)::(aP cx.cs mc++ae):=.tail _ (List.mem_append_right _ (N.outer.2 _ (Ce hl)))
 obtain⟨oP,hoP,ps,rfl,hTr,hC⟩:=I.frNs _ hJ
 have hoP:s.heap.get? l.P=some (tabObj ps):=hoP
 have nP:=I.frNew _ hJ
 refine QC G.bm fun mg bm ob b1 b2 b3 b4 b5 b6 b7=>?_
 have hgP:mainGlobals≠l.P:=fun q=>by
  refine Jh b1 fun o es ep e hd _=>?_
  have:=nP.1;simp only at this
  rw[←q,e]at this;cases this
 have hbP:bm≠l.P:=fun q=>by
  have:=nP.1;simp only at this
  rw[←q,b4]at this;cases this
 have hbG:bm≠mainGlobals:=fun q=>by
  refine Jh b1 fun o es ep e hd _=>?_
  rw[q,e]at b4;cases b4;rw[hd]at b7;cases b7
 have hq:cx.env.qual++("<lambda>":Str)=l.qual:=by
  show cx.cn++(".<locals>.":Str)++("<lambda>":Str)=_
  rw[hcn];rfl
 have hBA:s.heap.BuiltinsAt mg l.P:=⟨bm,ob,b2,b3,hbG,hbP,I.keep _ _ b4,b5,b6,b7⟩
 have CH:CodeHd s.heap l.code l.P:=(G.lamP l hl).keeps I.keep
 have hcode:cx.env.code=.ref l.code:=hcd
 refine kla_eval rfl ?_
 rw[hq]
 rcases hC lpos hp1 hp2 with hn|⟨c',oc,hf,hH,vs,t,hr1,hr2⟩
 ·refine kla_makeFunction (mg:=mg) hcl rfl (b1.keeps I.keep) hcode CH hoP hTr hn hgP hBA fun c' ctv h' tk hx hge hlt hrec htb=>?_
  refine nU hrec fun WL oc vs t e2 hoc hd hv=>?_
  cases e2
  have hcn:s.heap.get? c'=none:=Heap.get?_none_of_le hge
  have dB:a8 (pm w T) base (H.and c' oc) ρ ((cx.L,a7 m)::(aP cx.cs mc++ae)) σ.ob.tr h':=I.tab hJ (fun b o q e=>hx b o q e) hcn hoc ⟨_,htb,_,rfl,(by rw[Array.toList_append];exact TriplesOk_snoc _ _ _ _ hTr),fun pos q1 q2=>.inr ⟨c',oc,by
   have e:codeAmong pos (ps++#[rawInt lpos.line,rawInt lpos.col,.ref c']).toList=codeAmong lpos (ps++#[rawInt lpos.line,rawInt lpos.col,.ref c']).toList:=mZ (q1.trans hp1.symm) (q2.trans hp2.symm) _
   rw[e,Array.toList_append]
   exact codeAmong_snoc _ hTr hn,HP.new,vs,t,hd,hv⟩⟩
  have fC:=dB.push (kla_obj "<lambda>" l.qual o5 body lsc clos ((mg "__name__").getD .none) c' ctv) rfl
  have K1:∀a o,H a o→((H.and c' oc).and h'.objs.size (kla_obj "<lambda>" l.qual o5 body lsc clos ((mg "__name__").getD .none) c' ctv)) a o:=fun a o e=>.inl (.inl e)
  refine h _ c' ctv _ _ _ tk ⟨⟨m,mc,fC,F.mono K1 .refl⟩,N.len,N.outer,N.self⟩ ⟨K1,?_,.refl,rfl,rfl,rfl⟩ HP.new ⟨c',oc,vs,t,rfl,Heap.get?_push_of_some _ hoc,hd,hv⟩ ?_
  ·rintro a o ((e|⟨rfl,_⟩)|⟨rfl,_⟩)
   ·exact .inl e
   ·exact .inr (j0 I.keep hge)
   ·exact .inr dB.topNew
  ·refine Heap.get?_none_of_le (Nat.le_of_lt (Nat.lt_of_le_of_lt hge hlt))
 ·refine kla_makeFunctionHit (mg:=mg) hcl rfl (b1.keeps I.keep) hcode CH hoP hTr hf hBA fun ctv h' tk hk hsz=>?_
  have dB:=I.keeps hk
  have fC:=dB.push (kla_obj "<lambda>" l.qual o5 body lsc clos ((mg "__name__").getD .none) c' ctv) rfl
  refine h _ c' ctv _ _ _ tk ⟨⟨m,mc,fC,F.mono HP.le .refl⟩,N.len,N.outer,N.self⟩ ⟨HP.le,?_,.refl,rfl,rfl,rfl⟩ HP.new ⟨c',oc,vs,t,rfl,Heap.get?_push_of_some _ (hk _ _ (I.frz _ _ hH)),hr1,hr2⟩ (Heap.get?_none_of_le hsz)
  rintro a o (e|⟨rfl,_⟩)
  ·exact .inl e
  ·exact .inr dB.topNew
theorem IJ(S:dX prog w T base c.R E n){cx:Cx}(O:cx.Ok n){EE:Value→Shared→Prop}{ae:a6}{pos:Pos}(l:List Expr):∀σ Q,GO E cx.sc l σ Q→bH d4 l=true→∀H ρ s (Q':List Value→Shared→Prop),aJ (pm w T) base cx H ρ σ ae s.heap→
    Lq w T base cx ae H ρ s Q Q'→wpAny (model prog w) cx.A (spliced (backTo pos (starEach l cx.env))) Q' EE s:=by
  induction l with
  |nil=>exact fun σ Q h _ H ρ s Q' N a=>spliced_nil (a [] [] σ H ρ s N .refl .nil h)
  | cons e r ih=>
    intro σ Q h hp H ρ s Q' N a
    have hp:=bF hp
    rw[d7 e cx.env r (eV hp.1)]
    refine spliced_cons (x:=eval e cx.env) ?_
    refine S.ex0 cx _ _ _ O h _ _ _ _ _ _ N fun eN cJ ai aB aE s₁ aC ay aR ao=>?_
    refine ih ai _ ao hp.2 _ _ _ _ aC fun kT dH aw aT bt s₂ aI aG bu aK=>?_
    exact a _ _ _ _ _ _ aI (ay.trans aG) (.cons (aR.mono aG.le aG.grows) bu) aK
end
end
section
section
variable {P:Pm}{base h h':Heap}{H:HP}{ρ:List Addr}{ae:a6}{ob:Tr}
noncomputable def HP.cells(H:HP)(h:Heap)(l:List Addr):HP:=fun a o=>H a o∨(a∈l∧h.get? a=some o)
theorem d5{cs:List (Str×Addr)}{mc:cq}:(aP cs mc).map (·.1)=cs.map (·.2):=by unfold aP;rw[List.map_map];rfl
theorem a8.freezeCells{cs:List (Str×Addr)}{mc:cq}(I:a8 P base H ρ (aP cs mc++ae) ob h):a8 P base (H.cells h (cs.map (·.2))) ρ ae ob h:=by
 have d:=I.frDup
 rw[List.map_append,List.nodup_append]at d
 have le:∀a o,H a o→(H.cells h (cs.map (·.2))) a o:=fun _ _ e=>.inl e
 refine⟨I.keep,?_,fun p hp=>?_,fun p hp=>⟨(I.frNew p (List.mem_append_right _ hp)).1,?_⟩,d.2.1,fun i o e=>?_,I.dup,I.there,fun a ha z=>I.rf a ha (by rw[List.map_append];exact List.mem_append_right _ z)⟩
 ·rintro a o (e|⟨_,e⟩)
  ·exact I.frz a o e
  ·exact e
 ·refine av (I.frNs p (List.mem_append_right _ hp)) fun o e f=>?_
  exact⟨o,e,p.2.mono le f⟩
 ·rintro o (e|⟨e,_⟩)
  ·exact(I.frNew p (List.mem_append_right _ hp)).2 o e
  ·rw[←d5 (mc:=mc)]at e
   exact d.2.2 _ e _ (List.mem_map.mpr ⟨p,hp,rfl⟩) rfl
 ·refine dC (I.own i o e) fun a h1 h2 h3=>?_
  refine⟨a,h1,h2.mono le .refl (fun _ x=>x),fun l=>⟨(h3 l).nb,?_,fun z=>(h3 l).nf (by rw[List.map_append];exact List.mem_append_right _ z)⟩⟩
  rintro o (e|⟨e,_⟩)
  ·exact(h3 l).nH o e
  ·rw[←d5 (mc:=mc)]at e
   exact(h3 l).nf (by rw[List.map_append];exact List.mem_append_left _ e)
noncomputable def HP.less(H:HP)(l:List Addr):HP:=fun a o=>H a o∧a∉l
theorem Hv{l:List Addr}(fz:∀a o,H a o→h.get? a=some o)(hc:∀a∈l,∃o v,H a o∧o.data=.cell v):GK H (H.less l):=fun a o e q=>⟨e,fun m=>by
 refine bq (hc a m) fun o' v e' hd=>?_
 have:=(fz a o e).symm.trans (fz a o' e')
 cases this
 exact q _ hd⟩
theorem a8.thawCells{cs:List (Str×Addr)}{mc:cq}(I:a8 P base H ρ ae ob h)(hc:∀p∈cs,∃o,H p.2 o∧o.data=.cell (mc p.1))(hn:(cs.map (·.2)).Nodup)(hb:∀p∈cs,base.get? p.2=none)(hf:∀p∈cs,p.2∉ae.map (·.1))(hr:∀p∈cs,p.2∉ρ)
  (hl:GK H (H.less (cs.map (·.2)))):a8 P base (H.less (cs.map (·.2))) ρ (aP cs mc++ae) ob h:=by
 have mem:∀q∈aP cs mc,∃p∈cs,q=(p.2,eE (mc p.1)):=fun q hq=>by
  refine av (List.mem_map.mp hq) fun p hp e=>?_
  exact⟨p,hp,e.symm⟩
 refine⟨I.keep,fun a o e=>I.frz a o e.1,fun q hq=>?_,fun q hq=>?_,?_,fun i o e=>?_,I.dup,I.there,fun a ha z=>?_⟩
 ·rcases List.mem_append.mp hq with hq|hq
  ·refine av (mem q hq) fun p hp rq2=>?_;subst rq2
   refine av (hc p hp) fun o e hd=>?_
   exact⟨o,I.frz _ _ e,hd⟩
  ·refine av (I.frNs q hq) fun o e f=>?_
   exact⟨o,e,q.2.cut hl f⟩
 ·rcases List.mem_append.mp hq with hq|hq
  ·refine av (mem q hq) fun p hp rq2=>?_;subst rq2
   exact⟨hb p hp,fun o e=>e.2 (List.mem_map.mpr ⟨p,hp,rfl⟩)⟩
  ·exact⟨(I.frNew q hq).1,fun o e=>(I.frNew q hq).2 o e.1⟩
 ·rw[List.map_append,List.nodup_append]
  refine⟨by rw[d5];exact hn,I.frDup,fun a ha b hb' e=>?_⟩
  rw[d5]at ha
  refine av (List.mem_map.mp ha) fun p hp rq2=>?_;subst rq2
  exact hf p hp (e▸hb')
 ·refine dC (I.own i o e) fun a h1 h2 h3=>?_
  refine⟨a,h1,h2.cut hl .refl (fun _ x=>x),fun l=>⟨(h3 l).nb,fun o e=>(h3 l).nH o e.1,fun z=>?_⟩⟩
  rw[List.map_append,d5]at z
  rcases List.mem_append.mp z with z|z
  ·refine av (List.mem_map.mp z) fun p hp e=>?_
   exact hr p hp (e▸List.mem_of_getElem? h1)
  ·exact(h3 l).nf z
 ·rw[List.map_append,d5]at z
  rcases List.mem_append.mp z with z|z
  ·refine av (List.mem_map.mp z) fun p hp e=>?_
   exact hr p hp (e▸ha)
  ·exact I.rf a ha z
theorem a8.rebase(I:a8 P base H ρ ae ob h){H':HP}(kB:∀b o,(hideAll h (ae.map (·.1))).get? b=some o→h'.get? b=some o)(le:∀a o,H a o→H' a o)(new:∀a o,H' a o→H a o∨(hideAll h (ae.map (·.1))).get? a=none)
  (fz:∀a o,H' a o→h'.get? a=some o) (pl:∀p∈ae,(∃o,h'.get? p.1=some o∧p.2.φ H' o)∧∀o,¬H' p.1 o):a8 P base H' ρ ae ob h':=by
 have nb:∀b o,h.get? b=some o→b∉ae.map (·.1)→h'.get? b=some o:=fun b o e q=>kB b o (hideAll_get _ e q)
 refine⟨fun b o e=>kB b o (hideAll_get _ (I.keep b o e) fun q=>?_),fz,fun p hp=>(pl p hp).1,fun p hp=>⟨(I.frNew p hp).1,(pl p hp).2⟩,I.frDup,fun i o e=>?_,I.dup,fun b hb=>?_,I.rf⟩
 ·refine av (List.mem_map.mp q) fun p hp e'=>?_
  have:=(I.frNew p hp).1
  rw[e',e]at this;cases this
 ·refine dC (I.own i o e) fun b h1 h2 h3=>?_
  have hb:=List.mem_of_getElem? h1
  have nf:=I.rf b hb
  refine cf (I.there b hb) fun x hx=>?_
  refine⟨b,h1,h2.mono le .refl (fun y e=>nb b y e nf),fun l=>⟨(h3 l).nb,fun y e'=>(new b y e').elim ((h3 l).nH y) fun q'=>?_,nf⟩⟩
  rw[hideAll_get _ hx nf]at q';cases q'
 ·refine cf (I.there b hb) fun x hx=>?_
  exact⟨x,nb b x hx (I.rf b hb)⟩
end
section
variable {prog:Program}{w:World}{T:Nat→V}{base:Heap}{c:df}{K:Frag}{E:Ev}{n:Nat}
theorem l9{cx:Cx}{m:Nat}{ae:a6}{f:cq}(O:cx.Ok m)(h:cz cx.outer ae)(hs:cx.L0=cx.L∨∃φ,(cx.L0,φ)∈ae∧dj φ):cz (cx.fenv::cx.outer) ((cx.L,a7 f)::ae):=by
 refine⟨fun env he=>?_,fun q hq=>.tail _ (h.2 q hq)⟩
 rcases List.mem_cons.mp he with rfl|he
 ·refine⟨by show cx.sc0.kind≠.module;rw[O.kind0];decide,?_⟩
  rcases hs with hs|⟨φ,h1,h2⟩
  ·exact⟨cx.L0,a7 f,rfl,by rw[hs];exact .head _,iA⟩
  ·exact⟨cx.L0,φ,rfl,.tail _ h1,h2⟩
 ·obtain⟨h1,L,φ,h2,h3,h4⟩:=h.1 env he
  exact⟨h1,L,φ,h2,.tail _ h3,h4⟩
theorem rT(G:aY prog w T c K base){A:Around}{cx:Cx}{x:Str}{p:Pos}{C:Addr}{s:Shared}{Q':Value→Shared→Prop}{EE:Value→Shared→Prop}(hk:cx.sc.kind=.function)(hg:dn cx.sc x=true)(e:c.G x=some (.glob C))
  (keep:∀b o,base.get? b=some o→s.heap.get? b=some o) (q:Q' (.ref C) s):wpAny (model prog w) A (eval (.Name x p) cx.env) Q' EE s:=by
 refine bC (iS hg) fun g1 g2=>?_
 refine dT G.g fun mg mb n1 n2 g3=>?_
 refine av (g3 x _ e) fun r hr hm=>?_
 have er:r=.ref C:=by cases hr (pm w T) (fun _ _=>False) [];rfl
 subst er
 (with_reducible refine Name_function_global ?_ ?_ ?_ g2)
 ·exact hk
 ·exact g1
 ·rcases hm with hm|⟨hm,hb⟩
  ·(with_reducible refine loadGlobal_global ?_ hm q)
   exact n1.keeps keep
  ·(with_reducible refine loadGlobal_builtin ?_ hm ?_ hb q)
   ·exact n1.keeps keep
   ·exact n2.keeps keep
end
end
section
section
variable {prog:Program}{w:World}{T:Nat→V}{base:Heap}{c:df}{K:Frag}{E:Ev}{n:Nat}
theorem Gg{d m n:Nat}(h:d+2*n+8 < recursionLimit)(k:m≤n):d+2*m+8 < recursionLimit:=by lia
theorem BJ{d m n k:Nat}(h:d+16*n+128 < k)(l:m≤n):d+16*m+128 < k:=by lia
theorem Cx.Ok.to{c:Cx}{m n:Nat}(O:c.Ok n)(h:m≤n):c.Ok m:=⟨O.frames,O.handled,O.kind,O.kind0,Gg O.depth h,BJ O.units h,O.kept,O.names,O.cells,O.lam⟩
theorem yM{M:Model}{A:Around}{f:Value}{bU:List Value}{Q:Value→Shared→Prop}{EE:Value→Shared→Prop}{s:Shared}(h:codeAny M A (.call f ⟨bU,[]⟩) (kE Q EE) s):wpAny M A (PySem.call f bU) Q EE s:=by
 (with_reducible refine wpAny_call ?_)
 exact h
theorem a8.keepHid{P:Pm}{base h:Heap}{H:HP}{ρ:List Addr}{ae:a6}{ob:Tr}(I:a8 P base H ρ ae ob h)(b:Addr)(o:Obj)(e:base.get? b=some o):(hideAll h (ae.map (·.1))).get? b=some o:=hideAll_get _ (I.keep b o e) fun q=>(List.mem_map.mp q).elim fun p hp=>by
 have:=(I.frNew p hp.1).1
 rw[hp.2,e]at this;cases this
theorem a8.hid{P:Pm}{base h:Heap}{H:HP}{ρ:List Addr}{ae:a6}{ob:Tr}(I:a8 P base H ρ ae ob h):a8 P (hideAll h (ae.map (·.1))) H [] ae .nil h:=
 ⟨fun b o e=>of_hideAll _ e,I.frz,I.frNs,fun p hp=>⟨hideAll_none _ (List.mem_map.mpr ⟨p,hp,rfl⟩),(I.frNew p hp).2⟩,I.frDup,fun i o e=>(nomatch e),List.nodup_nil,fun a ha=>(nomatch ha),fun a ha=>(nomatch ha)⟩
theorem Dz(G:aY prog w T c K base){cl:Cx}(O:cl.Ok n){a:Addr}{m:Nat}{Sp:bM}{fa:List V×bb}{rs:List Value}{nx:Nat}{Q:V→bb→Prop}{H iZ:HP}{ρ c0:List Addr}{ae:a6}{s s₃:Shared}{Bv:cq}{QR:Value→Shared→Prop}{EE:Value→Shared→Prop}
  (N1:cz cl.outer ae) (N2:cl.L0=cl.L∨∃φ,(cl.L0,φ)∈ae∧dj φ) (hm:m≤n) (SP:dM prog w T base a m Sp) (hSp:Sp fa.1 (fun v=>Q v fa.2) fun C=>bP (Nat.beq C 83) (Q .none fa.2))
  (lR:a8 (pm w T) base iZ c0 ((cl.L,a7 Bv)::ae) fa.2.tr s₃.heap) (hlen:c0.length=fa.2.nx) (hnx:fa.2.nx=nx) (hM:aX base H ρ s iZ c0 s₃) (VB:ak (pm w T) iZ [] fa.1 rs)
  (k1:∀v r ob' H' ρ' m' s',a8 (pm w T) base H' ρ' ((cl.L,a7 m')::ae) ob'.tr s'.heap→ρ'.length=ob'.nx→ob'.nx=nx→aX base H ρ s H' ρ' s'→aj (pm w T) H' ρ' v r→Q v ob'→QR r s')
  (k2:∀e s' ob' H' ρ' m' s₃,a8 (pm w T) base H' ρ' ((cl.L,a7 m')::ae) ob'.tr s₃.heap→ρ'.length=ob'.nx→ob'.nx=nx→aX base H ρ s H' ρ' s₃→s'.gens=s₃.gens→s'.drawn=s₃.drawn→s'.os=s₃.os→
   dz (hideAll s₃.heap (((cl.L,a7 m')::ae).map (·.1))) (fun C=>bP (Nat.beq C 83) (Q .none ob')) (cl.fenv::cl.outer) ((cl.L,a7 m')::ae) H' e s'.heap→EE (.ref e) s') :
  wpAny (model prog w) cl.A (call (.ref a) ([]++rs) []) QR EE s₃:=by
 refine yM (SP _ cl _ fa.1 rs _ iZ _ s₃ QR EE lR.keepHid (O.to hm) hSp lR.hid (l9 O N1 N2) (fun e s' g1 g2 g3 t=>k2 e s' fa.2 iZ c0 Bv s₃ lR hlen hnx hM g1 g2 g3 t) VB fun v r obx H' ρ' s' I' L' R' hk=>?_)
 refine k1 v r fa.2 H' c0 Bv s' (lR.rebase I'.keep L'.le L'.new I'.frz fun p hp=>⟨I'.frNs p hp,(I'.frNew p hp).2⟩) hlen hnx (hM.trans ⟨L'.le,fun a o e=>(L'.new a o e).imp id (fresh_of_stays lR.keepHid ·),.refl,L'.gens,L'.drawn,L'.os⟩) (R'.mono (fun _ _ e=>e) fun i a e=>by rw[List.getElem?_nil]at e;cases e) hk
theorem D6(G:aY prog w T c K base)(S:dX prog w T base c.R E n){cl:Cx}(O:cl.Ok n)(hcs:cl.cs=[]){g:Str}{gp gpos:Pos}{gas:List Expr}{a:Addr}(hg:dn cl.sc g=true)(eg:c.G g=some (.glob a))(hC:(c.C a).isSome=true)(hp:bH d4 gas=true)
    {σ:St} {nx:Nat} {Q:V→bb→Prop} (h:GO E cl.sc gas σ fun vs ai=>bP (Nat.beq ai.ob.nx nx) (E.heard a vs ai.ob Q)) {H:HP} {ρ:List Addr} {ae:a6} {s:Shared} {QR:Value→Shared→Prop} {EE:Value→Shared→Prop} (N:aJ (pm w T) base cl H ρ σ ae s.heap)
    (k1:∀v r ob' H' ρ' m' s',a8 (pm w T) base H' ρ' ((cl.L,a7 m')::ae) ob'.tr s'.heap→ρ'.length=ob'.nx→ob'.nx=nx→aX base H ρ s H' ρ' s'→aj (pm w T) H' ρ' v r→Q v ob'→QR r s')
    (k2:∀e s' ob' H' ρ' m' s₃,a8 (pm w T) base H' ρ' ((cl.L,a7 m')::ae) ob'.tr s₃.heap→ρ'.length=ob'.nx→ob'.nx=nx→aX base H ρ s H' ρ' s₃→s'.gens=s₃.gens→s'.drawn=s₃.drawn→s'.os=s₃.os→
      dz (hideAll s₃.heap (((cl.L,a7 m')::ae).map (·.1))) (fun C=>bP (Nat.beq C 83) (Q .none ob')) (cl.fenv::cl.outer) ((cl.L,a7 m')::ae) H' e s'.heap→EE (.ref e) s') :
    wpAny (model prog w) cl.A (eval (.Call (.Name g gp) gas [] gpos) cl.env) QR EE s:=by
  have main:∀vs rs bK f9 c0 s₃,aJ (pm w T) base cl f9 c0 bK ae s₃.heap→aX base H ρ s f9 c0 s₃→ak (pm w T) f9 c0 vs rs→bP (Nat.beq bK.ob.nx nx) (E.heard a vs bK.ob Q)→K.In s₃.heap∧wpAny (model prog w) cl.A (call (.ref a) ([]++rs) []) QR EE s₃:=by
    intro vs rs bK f9 c0 s₃ bZ cw fk bf
    refine⟨G.kin.keeps bZ.keep,bD bf fun hnx bf=>?_⟩
    have hnx:=Nat.eq_of_beq_eq_true hnx
    refine cps fun G0 kk=>?_
    refine SN (S.heard _ _ _ _ bf) fun m Sp fa hm SP hfz hr hSp=>?_
    refine bq bZ.inv fun Bv Wa pP GD=>?_
    refine av (gV (jn 12) vs bK.ob f9 rs fa pP fk hfz) fun iZ xQ sL=>?_
    have lR:=xQ.inv
    rw[hcs]at lR
    refine kk (Dz G O bZ.outer bZ.self hm SP hSp lR (by rw[xQ.nx];exact bZ.len) (by rw[xQ.nx];exact hnx) (cw.trans ⟨xQ.le,xQ.new,.refl,rfl,rfl,rfl⟩) (fI (kc (G.named · _ _ ·) 14) sL hr) k1 k2)
  refine Call_Name rfl ?_
  refine rT G O.kind hg eg N.keep ?_
  refine callWith_of (P:=K.In) (by rw[jl hp];rfl) (gE (.inl (G.keep a (.inr (.inl hC))))) ?_
  cases gas with
  |nil=>exact evalArgs_nil3 (main [] [] σ H ρ s N .refl .nil h)
  | cons e r=>
    have q:=IJ (EE:=EE) (pos:=gpos) S O (e::r) σ _ h hp H ρ s (fun rs s₂=>K.In s₂.heap∧wpAny (model prog w) cl.A (call (.ref a) ([]++rs) []) QR EE s₂) N fun v r σ' H' ρ' s' N' L' R' q=>main v r σ' H' ρ' s' N' L' R' q
    rw[d7 e cl.env r (eV (bF hp).1)]at q ⊢
    exact evalArgs_plain q
end
end
section
section
variable {prog:Program}{w:World}{T:Nat→V}{base:Heap}{c:df}{K:Frag}{E:Ev}{n:Nat}
theorem Ea{sc:Scope}{p:Pos}{l:zr}{ls:List zr}(h:Cf sc p ls=some l):l∈ls∧p.line=l.line∧p.col=l.col∧sc.names.lookup l.key=some .cell:=by
 induction ls with
 |nil=>cases h
 |cons x r ih=>exact iV h (fun b e=>az b fun a b=>az a fun a1 a2=>af e▸⟨.head _,Nat.eq_of_beq_eq_true a1,Nat.eq_of_beq_eq_true a2,by rw[←fM];exact iw b⟩) fun _ e=>(ih e).imp (.tail _) id
theorem yd{sc:Scope}(h:ye sc=true):sc.kind=.function:=by
 unfold ye at h
 revert h
 cases sc.kind <;> first|exact fun _=>rfl|exact fun h=>nomatch h
theorem Bt{f g:Str}{sc lsc:Scope}{a:Addr}(h:Eh c f g sc lsc=some a):dn sc f=true∧lsc.kind=.function∧dn lsc g=true∧lsc.isGenerator=false∧lsc.isCoroutine=false∧c.G f=some (.glob 1183)∧c.G g=some (.glob a)∧(c.C a).isSome=true:=
 cH h fun hb h=>az hb fun b1 hb=>az hb fun b2 hb=>az hb fun b3 hb=>az hb fun b4 b5=>aA h fun hd e1 h=>cH h fun e2 h=>aA h fun a' e3 h=>aA h fun q e4 h=>
  ⟨b1,yd b2,b3,cX b4,cX b5,Nat.eq_of_beq_eq_true e2▸DB e1,af h▸DB e3,by rw[←af h,e4];rfl⟩
noncomputable def Sz(base:Heap)(R:Addr→Prop)(l:List Env)(ae:a6)(H:HP)(e:Addr)(h:Heap):Prop:=
  ∃ B aB C a0,base.StaysIn B∧(∀a o,H a o→aB a o)∧(∀a o,aB a o→H a o∨base.get? a=none)∧(∀a o,aB a o→B.get? a=some o)∧
    (∀p∈ae,((∃o,B.get? p.1=some o∧p.2.φ aB o)∨dj p.2∧∃o,h.get? p.1=some o∧p.2.φ aB o)∧∀o,¬aB p.1 o)∧R C∧Heap.FlyingW B l e (.ref C) a0 h
theorem eH{B h h':Heap}{aB:HP}{ae:a6}(k:h.UpToSlots h')(t:∀p∈ae,((∃o,B.get? p.1=some o∧p.2.φ aB o)∨dj p.2∧∃o,h.get? p.1=some o∧p.2.φ aB o)∧∀o,¬aB p.1 o) :
  ∀p∈ae,((∃o,B.get? p.1=some o∧p.2.φ aB o)∨dj p.2∧∃o,h'.get? p.1=some o∧p.2.φ aB o)∧∀o,¬aB p.1 o:=by
 refine fun p hp=>⟨(t p hp).1.imp id fun x=>⟨x.1,x.2.elim fun o y=>(k _ _ y.1 (x.1.nf _ _ y.2)).elim fun q hs=>⟨_,hs,x.1.dat aB aB o _ rfl y.2⟩⟩,(t p hp).2⟩
theorem pK{M:Model}{R:Addr→Prop}{A:Around}{env:Env}{outer:List Env}{ae:a6}{H:HP}{L e:Addr}{s:Shared}{Q:Unit→Shared→Prop}{EE:Value→Shared→Prop}(hfr:A.frames=some (env::outer))(hf:env.frame=some L)
  (t:dz base R (env::outer) ae H e s.heap) (q:∀h',Sz base R outer ae H e h'→Q () {s with heap:=h'}):wpAny M A (leaving env (.ref e)) Q EE s:=by
 refine cps fun G0 kk=>?_
 obtain⟨B,aB,t1,t2,t3,t4,t5,C,a0,hR,hk,hn,hF,h⟩:=t
 refine kk (h.elim (fun h=>?_) fun h=>?_)
 ·refine O9 h fun oe vs e1 e2 e3 e4 e5=>?_
  refine wpAny_leaving_firstW hfr hF hf e1 hk hn e3 e5 e4 fun h' kz=>q h' ⟨B,aB,C,a0,t1,t2,t3,t4,eH kz.2.2.2 t5,hR,kz.1,hn,kz.2.1.elim fun _ k=>k.elim fun _ k=>k,e2▸kz.2.2.1⟩
 ·exact wpAny_leaves_onW hfr hf ⟨hk,hn,hF,h⟩ fun h' k k5=>q h' ⟨B,aB,C,a0,t1,t2,t3,t4,eH k5 t5,hR,k⟩
noncomputable abbrev lQ(cx ch:Cx)(fF mh mch:cq)(ae:a6):a6:=(ch.L,a7 mh)::(aP ch.cs mch++((cx.L,a7 fF)::ae))
theorem Hs{P:Pm}{H:HP}{ρ:List Addr}{cx:Cx}{ae:a6}{fF du:cq}{ob:Tr}{h:Heap}(I:a8 P base H ρ ((cx.L,a7 fF)::(aP cx.cs du++ae)) ob h)(p)(hp:p∈cx.cs):∃o,h.get? p.2=some o∧o.data=.cell (du p.1):=
 I.frNs (p.2,eE (du p.1)) (.tail _ (List.mem_append_left _ (List.mem_map.mpr ⟨p,hp,rfl⟩)))
theorem Cw{P:Pm}{aB:HP}{ρ:List Addr}{cx ch:Cx}{ae:a6}{fF du mh mch mY:cq}{ob:Tr}{bf:Heap}{LY:Addr}(pP:a8 P base aB ρ ((LY,a7 mY)::(ch.L,a7 mh)::(aP ch.cs mch++((cx.L,a7 fF)::(aP cx.cs du++ae)))) ob bf) :
  a8 P base (aB.cells bf (cx.cs.map (·.2))) ρ ((LY,a7 mY)::lQ cx ch fF mh mch ae) ob bf:=by
 have pe:((LY,a7 mY)::(ch.L,a7 mh)::(aP ch.cs mch++((cx.L,a7 fF)::(aP cx.cs du++ae))):a6).Perm (aP cx.cs du++((LY,a7 mY)::lQ cx ch fF mh mch ae)):=by
  have:=List.perm_append_comm_assoc ((LY,a7 mY)::(ch.L,a7 mh)::(aP ch.cs mch++[(cx.L,a7 fF)])) (aP cx.cs du) ae
  rw[List.cons_append,List.cons_append,List.append_assoc,List.cons_append,List.nil_append,List.cons_append,List.cons_append,List.append_assoc]at this
  exact this
 exact(pP.perm pe).freezeCells
theorem DG{P:Pm}{aB:HP}{ρ:List Addr}{cx cl:Cx}{fF du mY:cq}{bf:Heap}{lsc:Scope}{fm fm':List (Str×V)}(hs:cl.sc=lsc)(hcl:cl.cl=iG cx.cl lsc.names [])(kf:iB cx.sc lsc fm lsc.names fm')(de:jw P aB ρ cx fm fF du)
  (kept:∀x a,cx.sc.names.lookup x=some .cell→cx.cl.lookup x=some a→(x,a)∈cx.cs) (qN:∀p∈cx.cs,∃o,bf.get? p.2=some o∧o.data=.cell (du p.1)):jw P (aB.cells bf (cx.cs.map (·.2))) ρ cl fm' mY fun _=>none:=fun y v e=>by
 have f:=kf.had y v e
 have hy:cx.sc.names.lookup y=some .cell:=by rw[←fM];exact kf.cell y f.1
 obtain⟨d1,r,na,rv⟩:=de y v f.2.2.1
 have rv:=rv.mono (H':=aB.cells bf (cx.cs.map (·.2))) (ρ':=ρ) (fun _ _ e=>.inl e) .refl
 refine⟨d1,r,na.elim (fun q=>?_) fun na=>na.elim (fun q=>?_) fun q=>?_,rv⟩
 ·rw[hy]at q;cases q.1
 ·obtain⟨_,⟨ad,had⟩,hmc⟩:=q
  have hmem:=kept _ _ hy had
  refine av (qN _ hmem) fun o ho hd=>?_
  exact .inr (.inr ⟨by rw[hs,←fM];exact f.2.1,f.2.2.2,ad,o,by rw[hcl];exact sa f.1 had,.inr ⟨List.mem_map.mpr ⟨_,hmem,rfl⟩,ho⟩,by rw[hd];exact congrArg _ hmc⟩)
 ·rw[hy]at q;cases q.1
theorem wM{ρ ρ':List Addr}(g:cF ρ ρ')(e:ρ'.length=ρ.length):ρ'=ρ:=by
 apply List.ext_getElem?
 intro i
 by_cases hi:i < ρ.length
 ·rw[List.getElem?_eq_getElem hi];exact g _ _ (List.getElem?_eq_getElem hi)
 ·rw[List.getElem?_eq_none (by rw[e];exact Nat.le_of_not_lt hi),List.getElem?_eq_none (Nat.le_of_not_lt hi)]
theorem xk{P:Pm}{aB H':HP}{ρ:List Addr}{cx ch:Cx}{ae:a6}{fF du mh mch m':cq}{σ:St}{ob':bb}{ao bf h':Heap}{LY:Addr}(dB:a8 P base aB ρ ((cx.L,a7 fF)::(aP cx.cs du++ae)) σ.ob.tr ao)(de:jw P aB ρ cx σ.fm fF du)(aC:aJ P base cx aB ρ σ ae ao)
  (qN:∀p∈cx.cs,∃o,bf.get? p.2=some o∧o.data=.cell (du p.1)) (I':a8 P base H' ρ ((LY,a7 m')::lQ cx ch fF mh mch ae) ob'.tr h') (hnx:ob'.nx=σ.ob.nx) (le':∀a o,(aB.cells bf (cx.cs.map (·.2))) a o→H' a o) (new':∀a o,H' a o→(aB.cells bf (cx.cs.map (·.2))) a o∨base.get? a=none) :
  aJ P base cx (H'.less (cx.cs.map (·.2))) ρ ⟨σ.fm,ob'⟩ ae h'∧(∀a o,aB a o→(H'.less (cx.cs.map (·.2))) a o)∧(∀a o,(H'.less (cx.cs.map (·.2))) a o→aB a o∨base.get? a=none)∧GK H' (H'.less (cx.cs.map (·.2))):=by
 have nodup:=dB.frDup
 rw[List.map_cons,List.map_append,List.nodup_cons,List.nodup_append,d5]at nodup
 have J:a8 P base H' ρ ((cx.L,a7 fF)::ae) ob'.tr h':=mf I'.leave.leave
 have hc:∀p∈cx.cs,∃o,H' p.2 o∧o.data=.cell (du p.1):=fun p hp=>(qN p hp).imp fun o q=>⟨le' _ _ (.inr ⟨List.mem_map.mpr ⟨_,hp,rfl⟩,q.1⟩),q.2⟩
 have hl:GK H' (H'.less (cx.cs.map (·.2))):=Hv J.frz fun a ha=>(List.mem_map.mp ha).elim fun p hp=>(hc p hp.1).imp fun o q=>⟨du p.1,hp.2▸q.1,q.2⟩
 have inP:∀p∈cx.cs,(p.2,eE (du p.1))∈(cx.L,a7 fF)::(aP cx.cs du++ae):=fun p hp=>.tail _ (List.mem_append_left _ (List.mem_map.mpr ⟨p,hp,rfl⟩))
 have VC:=J.thawCells (mc:=du) hc nodup.2.1 (fun p hp=>(dB.frNew _ (inP p hp)).1) (fun p hp z=>by
  rw[List.map_cons,List.mem_cons]at z
  have pm:p.2∈cx.cs.map (·.2):=List.mem_map.mpr ⟨p,hp,rfl⟩
  exact z.elim (fun z=>nodup.1 (List.mem_append_left _ (z▸pm))) fun z=>nodup.2.2.2 _ pm _ z rfl) (fun p hp z=>dB.rf _ z (List.mem_map.mpr ⟨_,inP p hp,rfl⟩)) hl
 have VD:a8 P base (H'.less (cx.cs.map (·.2))) ρ ((cx.L,a7 fF)::(aP cx.cs du++ae)) ob'.tr h':=VC.perm List.perm_middle
 have K2:∀a o,aB a o→(H'.less (cx.cs.map (·.2))) a o:=fun a o e=>⟨le' _ _ (.inl e),fun z=>(List.mem_map.mp z).elim fun p hp=>(dB.frNew _ (inP p hp.1)).2 o (hp.2▸e)⟩
 exact⟨⟨⟨fF,du,VD,de.mono K2 .refl⟩,aC.len.trans hnx.symm,aC.outer,aC.self⟩,K2,fun a o e=>(new' a o e.1).elim (fun q=>q.elim .inl fun q=>absurd q.1 e.2) .inr,hl⟩
theorem xM{H:HP}{cx:Cx}{m mc:cq}{x:Str}{r:Value}(h:Fd H cx m mc x r)(e:cx.sc.names.lookup x=some .local):m x=some r:=
 h.elim (fun q=>q.2) fun h=>h.elim (fun q=>nomatch e.symm.trans q.1) fun q=>nomatch e.symm.trans q.1
theorem Bc{d n k:Nat}(h:d+16*(n+1)+128 < k):d+3+3+16*n+128 < k:=by lia
theorem Ba{d n:Nat}(h:d+2*(n+1)+8 < recursionLimit):d+1+1+2*n+8 < recursionLimit:=by lia
theorem uH{d n:Nat}(h:d+2*n+8 < recursionLimit):d < recursionLimit:=by lia
theorem AI{sc:Scope}{x:Str}(h:sc.names.lookup x=some .globalImplicit)(e:aS x "__debug__"=false):dn sc x=true:=by
 unfold dn;rw[fM,h];show c5 (aS x "__debug__")=true;rw[e];rfl
theorem ES(G:aY prog w T c K base)(S:dX prog w T base c.R E n):sG prog w T base c E n:=by
 intro cx f g gas lsc lpos fpos gp gpos p O σ Q h H ρ ae s Q' EE N X an
 refine jO h fun a hG h=>jO h fun l hlam h=>iN h fun hpl h=>aM h fun fm hfm h=>?_
 refine TH (Bt hG) fun hf lk1 hg lk2 lk3 eF eG hC=>?_
 refine AH (Ea hlam) fun hl q1 q2 q3=>?_
 refine bC (O.lam l hl q3) fun hcd hcn=>?_
 have kf:=AZ hfm
 have hcl:=pj (sc:=lsc) (env:=cx.env) fun y hy=>O.cells y (by rw[←fM];exact kf.cell y hy)
 refine av G.heard fun iH hiH HF=>?_
 refine Call_Name rfl ?_
 refine rT G O.kind hf eF N.keep ?_
 refine callWith_of (P:=K.In) rfl (gE (.inl (G.keep 1183 (.inl (by rw[hiH];rfl))))) ?_
 refine evalArgs_plain ?_
 refine spliced_more (env:=cx.env) (e:=.Lambda o5 (.Call (.Name g gp) gas [] gpos) lsc lpos) (rest:=[]) ?_
 refine CG G N hl hcd hcn q1 q2 hcl fun fa c' ctv pmv aB ao tk aC ay hfa hrec hnew=>?_
 refine spliced_none ⟨G.kin.keeps aC.keep,?_⟩
 (with_reducible refine wpAny_call ?_)
 refine bq aC.inv fun fF du dB de=>?_
 refine sZ (n:=n) (s:={s with heap:=ao,toks:=tk}) G O.frames O.handled O.depth O.units hiH (as:=[.glob fa]) (ob:=σ.ob) (fm':=[("ask",.glob fa)]) (by rw[HF.ps,HF.ds];rfl) dB aC.len (fP O aC.outer aC.self) (.cons .glob .nil) ?_
 intro qual cdv cs aK zB Oh aI vk
 let ch:=sr cx.A (cx.fenv::cx.outer) qual iH ao.objs.size 1183 cdv cs
 refine SQ HF.body fun p1 p2 p3 p4 kk p5 p6 p7 p8 hbody=>?_
 rw[hbody]
 refine wpAny_execs_cons ?_
 refine wpAny_Try_except ?_
 refine wpAny_execs_cons ?_
 (with_reducible refine wpAny_Return_some ?_)
 refine Call_Name rfl ?_
 refine dT aI.ns fun mh mch fC Fh nsh=>?_
 obtain⟨hdb,rask,hna,hra⟩:=Fh "ask" (.glob fa) rfl
 have hma:mh "ask"=some (.ref fa):=by rw[←hra.inv];exact xM hna HF.ask
 (with_reducible refine wpAny_Name ?_ hdb)
 refine wpAny_loadName_local Oh.kind HF.ask nsh hma ?_
 refine callWith_of (P:=fun h=>h.get? fa=some (kla_obj "<lambda>" l.qual o5 (.Call (.Name g gp) gas [] gpos) lsc (iG cx.env.cells lsc.names []) pmv c' ctv)) rfl (fun h hh=>⟨.frame,.inl rfl,(Looks.ld (part:=none) hh).andThen .now⟩) ?_
 refine evalArgs_nil3 ⟨fC.frz _ _ hfa,?_⟩
 (with_reducible refine wpAny_call ?_)
 refine kla_callFunE (uH Oh.depth) (fC.frz _ _ hfa) rfl lk3 lk2 rfl (hrec.keeps vk) ?_
 refine wpAny_pure (a:=[]) ?_
 refine wpAny_newFunctionEnv kf.none (fun x hx=>nomatch hx) (fun bf hns hsb=>⟨((G.nolimit.keeps aI.keep).fresh _ hsb),?_⟩) lk1
 refine kla_codeExpr ?_
 have noCell:∀x,lsc.names.lookup x≠some .cell:=fun x e=>kf.none _ (cj e) rfl
 let clos:=iG cx.env.cells lsc.names []
 let LY:=aK.objs.size
 let cl:Cx:=⟨(cx.A.deeper ch.fenv).deeper (envX l.qual lsc LY fa (.ref c') clos),l.qual,lsc,LY,clos,some fa,lsc,LY,fa,clos,.ref c',[],ch.fenv::ch.outer⟩
 have Ocl:cl.Ok n:=⟨Around.frames_deeper Oh.frames,O.handled,lk1,lk1,Ba O.depth,Bc O.units,fun x a hx _=>absurd hx (noCell x),List.nodup_nil,fun x hx=>absurd hx (noCell x),fun l _ hx=>absurd hx (noCell _)⟩
 have Ru:∀b o,aK.get? b=some o→bf.get? b=some o:=fun b o e=>hsb.extBut b o (Nat.ne_of_lt (Heap.lt_size e)) (Heap.get?_push_of_some _ e)
 let mY:cq:=fun x=>(([]:List (Str×Value)).reverse).lookup x
 have pP:=fC.enter (m:=a7 mY) (dq.mpr hns) Ru
 have qN:∀p∈cx.cs,∃o,bf.get? p.2=some o∧o.data=.cell (du p.1):=fun p hp=>(Hs dB p hp).imp fun o q=>⟨Ru _ _ (vk _ _ q.1),q.2⟩
 have Rv:=Cw pP
 have FY:jw (pm w T) (aB.cells bf (cx.cs.map (·.2))) ρ cl fm mY (fun _=>none):=DG rfl rfl kf de O.kept qN
 have bZ:aJ (pm w T) base cl (aB.cells bf (cx.cs.map (·.2))) ρ ⟨fm,σ.ob⟩ (lQ cx ch fF mh mch ae) bf:=⟨⟨mY,fun _=>none,Rv,FY⟩,aC.len,fP (cx:=ch) (f:=mh) (mc:=mch) Oh (l9 O aC.outer aC.self) (.inl rfl),.inl rfl⟩
 have fin:∀v r ob' H' ρ' m' (s':Shared),a8 (pm w T) base H' ρ' ((LY,a7 m')::lQ cx ch fF mh mch ae) ob'.tr s'.heap→ρ'.length=ob'.nx→ob'.nx=σ.ob.nx→(∀a o,(aB.cells bf (cx.cs.map (·.2))) a o→H' a o)→(∀a o,H' a o→(aB.cells bf (cx.cs.map (·.2))) a o∨base.get? a=none)→cF ρ ρ'→s'.gens=s.gens→s'.drawn=s.drawn→s'.os=s.os→
   aj (pm w T) H' ρ' v r→Q v ⟨σ.fm,ob'⟩→Q' r s':=by
  intro v r ob' H' ρ' m' s' I' hlen' hnx' le' new' gr' e1 e2 e3 R' hq
  have hρ:ρ'=ρ:=wM gr' (hlen'.trans (hnx'.trans aC.len.symm))
  rw[hρ]at I' R'
  have B:=xk dB de aC qN I' hnx' le' new'
  exact an v r ⟨σ.fm,ob'⟩ _ ρ s' B.1 ⟨fun a o e=>B.2.1 _ _ (ay.le _ _ e),fun a o e=>(B.2.2.1 a o e).elim (ay.new a o) .inr,ay.grows,e1,e2,e3⟩ (R'.cut B.2.2.2 .refl) hq
 refine D6 G S (cl:=cl) Ocl rfl hg eG hC hpl (σ:=⟨fm,σ.ob⟩) (nx:=σ.ob.nx) (Q:=fun v ob=>Q v ⟨σ.fm,ob⟩) h bZ ?_ ?_
 ·intro v r ob' H' ρ' m' s' I' hlen' hnx' L' R' hq
  exact fin v r ob' H' ρ' m' s' I' hlen' hnx' L'.le L'.new L'.grows L'.gens L'.drawn L'.os R' hq
 ·intro e s' ob' H' ρ' m' s₃ I' hlen' hnx' L' g1 g2 g3 t
  have hgD:dn ch.sc "DecodeError"=true:=AI HF.exc rfl
  have kB:=I'.keepHid
  obtain⟨hp0,gg,dd0,tt0,oo⟩:=s'
  refine pK (env:=cl.fenv) (outer:=cl.outer) Ocl.frames rfl t fun kU tt=>?_
  refine U2 tt fun B aT C a0 t1 t2 t3 t4 t5 hR hfl=>?_
  refine wpAny_looks_onW Oh.frames rfl hfl fun fE hheld Rw=>?_
  refine wpAny_landsW hheld fun vj xS Rx=>?_
  refine bD hR fun hC83 hR=>?_
  have hC83:=Nat.eq_of_beq_eq_true hC83
  subst hC83
  refine av ((G.xc _ _ G.exc.1).cls) fun XP hCls hbase=>?_
  have K3:∀b o,base.get? b=some o→vj.get? b=some o:=fun b o e=>xS.1 _ _ (t1 _ _ (kB _ _ e))
  refine av xS.there fun obE hobE hobc=>?_
  refine wpAny_handleBy_cons (codeAny_handlers_test (rT (cx:=ch) G Oh.kind hgD G.exc.2 K3 ?_)) (by intro q;cases q)
  refine wpAny_excMatches_sub_self (K3 _ _ hCls) hobE hobc hbase (codeAny_handlers_suite ?_)
  refine lands_againW xS fun Nv xT Ry=>?_
  refine wpAny_execs_cons ?_
  (with_reducible refine wpAny_Return_some ?_)
  have K4:=eH Ry (eH Rx (eH Rw t5))
  have VE:a8 (pm w T) base aT ρ' ((LY,a7 m')::lQ cx ch fF mh mch ae) ob'.tr Nv:=I'.rebase (fun b o q=>xT.1 _ _ (t1 _ _ q)) t2 t3 (fun a o q=>xT.1 _ _ (t4 _ _ q)) fun p hp=>⟨(K4 p hp).1.elim (fun q=>q.imp fun o q=>⟨xT.1 _ _ q.1,q.2⟩) fun q=>q.2,(K4 p hp).2⟩
  refine wpAny_Constant_none ?_
  exact fin .none .none ob' aT ρ' m' _ VE hlen' hnx' (fun a o e=>t2 _ _ (L'.le _ _ e)) (fun a o e=>(t3 a o e).elim (L'.new a o) fun e=>.inr (fresh_of_stays kB e)) L'.grows (g1.trans L'.gens) (g2.trans L'.drawn) (g3.trans L'.os) .none hR
end
end
section
section
variable {prog:Program}{w:World}{T:Nat→V}{base:Heap}{c:df}{K:Frag}{E:Ev}{n:Nat}
theorem lS(G:aY prog w T c K base)(S:dX prog w T base c.R E n):∀(cx:Cx) a as fm ob Q,cx.Ok (n+1)→JS c n E a as ob Q→∀H ρ ae s Q' EE bU,aJ (pm w T) base cx H ρ ⟨fm,ob⟩ ae s.heap→fV base c.R cx ae H s EE→ak (pm w T) H ρ as bU→
  dN w T base cx ae H ρ s (fun v σ=>Q v σ.ob∧σ.fm=fm) Q'→codeAny (model prog w) cx.A (.call (.ref a) ⟨bU,[]⟩) (kE Q' EE) s:=by
 intro cx a as fm ob Q O h H ρ ae s Q' EE bU N X hv an
 refine d8 h (fun p hc h=>bD h fun hm h=>aM h fun fa hfz h=>ze hfz fun hf hr=>?_) fun _ h=>d8 h (fun i hi h=>Pp G S O hi h N X hv an) fun _ h=>aM h fun f hc h=>Ft G S O hc h N X hv an
 exact Jx G (O.less.to (Nat.le_of_ble_eq_true hm)) hc hf hr h N X hv an
theorem uI(G:aY prog w T c K base)(S:dX prog w T base c.R E n):∀(cx:Cx) f as fm ob Q,cx.Ok (n+1)→uE c n E f as ob Q→∀H ρ ae s Q' EE rf bU,aJ (pm w T) base cx H ρ ⟨fm,ob⟩ ae s.heap→fV base c.R cx ae H s EE→aj (pm w T) H ρ f rf→ak (pm w T) H ρ as bU→
  dN w T base cx ae H ρ s (fun v σ=>Q v σ.ob∧σ.fm=fm) Q'→wpAny (model prog w) cx.A (PySem.call rf bU) Q' EE s:=by
 intro cx f as fm ob Q O h H ρ ae s Q' EE rf bU N X hf hv an
 cases f with
 |glob a=>exact hf.glob' fun er=>er▸yM (lS G S cx a as fm ob Q O h H ρ ae s Q' EE bU N X hv an)
 |blt i=>exact hf.blt' fun er=>er▸BY O h N hv an
 |typ i=>exact hf.typ' fun er=>er▸Ej O h N hv an
 |_=>exact h.elim
theorem tJ{R:Addr→Prop}{E E':Ev}(S:dX prog w T base R E n)(h1:E'.ex=E.ex)(h2:E'.tr=E.tr)(h3:E'.es=E.es)(h4:E'.ss=E.ss)(h5:E'.call=E.call)(h6:E'.heard=E.heard)
  (h0:∀(c:Cx) e σ Q,c.Ok n→(E'.ex0 e c.sc).run σ Q→∀H ρ ae s Q' EE,aJ (pm w T) base c H ρ σ ae s.heap→dN w T base c ae H ρ s Q Q'→wpAny (model prog w) c.A (eval e c.env) Q' EE s):dX prog w T base R E' n:=
 ⟨h1▸S.ex,h0,h2▸S.tr,h3▸S.es,h4▸S.ss,h5▸S.call,h5▸S.code,h6▸S.heard⟩
theorem uz{R:Addr→Prop}:dX prog w T base R wm n:=⟨fun _ _ _ _ _ h=>h.elim,fun _ _ _ _ _ h=>h.elim,fun _ _ _ _ _ h=>h.elim,fun _ _ _ _ _ h=>h.elim,fun _ _ _ _ _ h=>h.elim,fun _ _ _ _ _ _ _ h=>h.elim,fun _ _ _ _ _ _ _ h=>h.elim,fun _ _ _ _ h=>h.elim⟩
theorem su(G:aY prog w T c K base){a:Addr}{as:List V}{ob:bb}{Q:V→bb→Prop}(h:qc c n a as ob Q):yg prog w T base (n+1) a as ob Q:=
 aM h fun p hc h=>bD h fun hm h=>aM h fun fa hfz h=>ze hfz fun hf hr=>⟨p.1,p.2,fa,Nat.le_succ_of_le (Nat.le_of_ble_eq_true hm),G.spec _ _ _ hc,hf,hr,h⟩
theorem uT(G:aY prog w T c K base)(S:dX prog w T base c.R E n)(h0:∀(c:Cx) e σ Q,c.Ok (n+1)→(E.ex0 e c.sc).run σ Q→∀H ρ ae s Q' EE,aJ (pm w T) base c H ρ σ ae s.heap→dN w T base c ae H ρ s Q Q'→wpAny (model prog w) c.A (eval e c.env) Q' EE s):dX prog w T base c.R (vx c n E) (n+1):=
 ⟨fun cx e σ Q O h=>PW G S (ES G S) cx e O σ Q h,h0,N9 S,Qb S,OL G S,uI G S,lS G S,fun a as ob Q h=>su G h⟩
theorem DN(G:aY prog w T c K base)(R:Addr→Prop):aY prog w T {c with R:=R} K base:=⟨G.kin,G.g,G.nolimit,G.fi,G.keep,G.cm,G.cs,G.ci,G.named,G.spec,G.xc,fun k C e=>⟨(G.nm k C e).inst⟩,G.low,G.lamP,G.bm,G.heard,G.exc⟩
theorem me{G:Prop}{l:List Env}{ae:a6}{H:HP}{e:Addr}{h:Heap}(t:dz base (fun _=>False) l ae H e h):G:=by
 obtain⟨_,_,_,_,_,_,_,_,_,h,_⟩:=t
 exact h.elim
theorem F1{cx:Cx}{ae:a6}{H:HP}{s:Shared}:f5 prog w base (fun _=>False) cx ae H s (fun _ _=>False):=⟨fun _ _ _ _ _ t=>me t,PassesOwn.never⟩
theorem sD{E:Ev}(S:dX prog w T base (fun _=>False) E n):∀(c:Cx) e σ Q,c.Ok n→(E.ex e c.sc).run σ Q→∀H ρ ae s Q' EE,aJ (pm w T) base c H ρ σ ae s.heap→dN w T base c ae H ρ s Q Q'→wpAny (model prog w) c.A (eval e c.env) Q' EE s:=
 fun cx e σ Q O h H ρ ae s Q' EE N a=>wpAny_mono (S.ex cx e σ Q O h H ρ ae s Q' _ N F1 a) (fun _ _ z=>z) fun _ _ z=>z.elim
theorem Hf(G:aY prog w T c K base)(n:Nat):dX prog w T base (fun _=>False) (GJ c n) n:=by
  induction n with
  |zero=>exact uz
  | succ n S=>
    have S':dX prog w T base (fun _=>False) ⟨(GJ c n).ex,(GJ c n).tr,(GJ c n).es,(GJ c n).ss,(GJ c n).call,(GJ c n).ex,(GJ c n).heard⟩ n:=tJ S rfl rfl rfl rfl rfl rfl (sD S)
    exact uT (c:={c with R:=fun _=>False}) (DN G _) S' fun cx e σ Q O=>sD S cx e σ Q O.less
theorem Fn(G:aY prog w T c K base)(n:Nat):dX prog w T base c.R (ev c n) n:=by
  induction n with
  |zero=>exact uz
  | succ n S=>
    have S0:=Hf G n
    have S':dX prog w T base c.R ⟨(ev c n).ex,(ev c n).tr,(ev c n).es,(ev c n).ss,(ev c n).call,(GJ c n).ex,(ev c n).heard⟩ n:=tJ S rfl rfl rfl rfl rfl rfl (sD S0)
    exact uT G S' fun cx e σ Q O=>sD S0 cx e σ Q O.less
noncomputable def dm(T:Nat→V)(w:World)(as bs:List V):Prop:=∀H rs,ak (pm w T) H [] as rs→ak (pm w T) H [] bs rs
end
end
section
noncomputable def bg(KU:V→Prop)(v:V)(ob:bb):Prop:=oP (freeze 12 ob v) fun p=>bP (pS 14 p.1) (KU p.1)
noncomputable def JU(T:Nat→V)(w:World)(v u:V):Prop:=∀H r,aj (pm w T) H [] v r→aj (pm w T) H [] u r
noncomputable def bo(T:Nat→V)(w:World)(KV:V→Prop)(v:V):Prop:=∃u,JU T w v u∧KV u
section
variable {prog:Program}{w:World}{T:Nat→V}{base:Heap}{c:df}{K:Frag}
theorem aV(G:aY prog w T c K base){a:Addr}{i:ag}{m:Nat}{Sp:bM}(hi:c.FI a=some i)
  (h:∀R as KV,Sp as KV R→∃bs,dm T w as bs∧au (ev {c with R:=R} m) i bs ⟨.nil,0⟩ (bg (bo T w KV))):dM prog w T base a (m+1) Sp:=by
 intro B cx R as bU KV H ae s Q' EE k O hS I hout X hv an
 refine av (h R as KV hS) fun bs hsm he=>?_
 have GB:aY prog w T {c with R:=R} K B:=DN (G.mono k) R
 refine rK GB (Fn GB m) O.frames O.handled O.depth O.units hi he I rfl hout X (hsm _ _ hv) fun v r ob' H' ρ' s' I' hl L' R' q=>?_
 refine aM q fun p hf q=>bD q fun hn q=>?_
 refine av q fun u hsu hk=>?_
 refine av (jn 12 _ _ _ _ _ I' R' hf) fun aT fY bu=>?_
 exact an u r p.2.tr aT ρ' s' fY.inv ⟨fun a o e=>fY.le a o (L'.le a o e),fun a o e=>(fY.new a o e).elim (L'.new a o) .inr,L'.grows,L'.gens,L'.drawn,L'.os⟩ (hsu _ _ (kc (GB.named · _ _ ·) 14 _ _ bu hn)) hk
end
theorem F2{P:Pm}{H:HP}{ρ:List Addr}{rs:List Value}{xs:List Int}(h:IntsAre rs xs):ak P H ρ (cC xs) rs:=by
 induction h with
 |nil=>exact .nil
 |cons _ _ _ ih=>exact .cons .int ih
mutual
inductive ba:V→V→Prop
 |refl {v}:ba v v
 |bool {k k' b}:ba (.bool k b) (.bool k' b)
 |int {k k' x}:ba (.int k x) (.int k' x)
 |str {k k' x}:ba (.str k x) (.str k' x)
 |bytes {k k' xs}:ba (.bytes k xs) (.bytes k' xs)
 |irow {k k' xs}:ba (.irow k xs) (.irow k' xs)
 |tup {vs us}:bc vs us→ba (.tup vs) (.tup us)
 |list {vs us}:bc vs us→ba (.list vs) (.list us)
 |inst {C fs gs}:uG fs gs→ba (.inst C fs) (.inst C gs)
 |row {vs l k}:jF vs=some l→ba (.list vs) (.irow k (ph l))
 |unrow {k xs}:ba (.irow k xs) (.list (cC xs))
inductive bc:List V→List V→Prop
 |nil:bc [] []
 |cons {v u vs us}:ba v u→bc vs us→bc (v::vs) (u::us)
inductive uG:List (Str×V)→List (Str×V)→Prop
 |nil:uG [] []
 |cons {x v u fs gs}:ba v u→uG fs gs→uG ((x,v)::fs) ((x,u)::gs)
end
theorem ba.rel{P:Pm}{H:HP}{ρ:List Addr}{v u:V}{r:Value}(l:ba v u):aj P H ρ v r→aj P H ρ u r:=
 ba.rec (motive_1:=fun v u _=>∀r,aj P H ρ v r→aj P H ρ u r) (motive_2:=fun v u _=>∀r,ak P H ρ v r→ak P H ρ u r) (motive_3:=fun v u _=>∀r,bV P H ρ v r→bV P H ρ u r)
  (fun _ h=>h) (fun _ h=>h.bool' fun e=>e▸.bool) (fun _ h=>h.int' fun _ e=>e▸.int) (fun _ h=>h.str' fun _ a e=>e▸.str a) (fun _ h=>h.bytes' fun _ _ e q=>e▸q▸.bytes) (fun _ h=>h.irow' fun _ _ _ a b e=>e▸.irow a b)
  (fun _ i _ h=>h.tup' fun _ _ a b e=>e▸.tup a (i _ b)) (fun _ i _ h=>h.list' fun _ _ _ a b e=>e▸.list a (i _ b)) (fun _ i _ h=>h.inst' fun _ _ _ _ a b c e=>e▸.inst a b (i _ c)) (fun q _ h=>h.list' fun _ _ _ a b e=>e▸.irow a (iJ b q)) (fun _ h=>h.irow' fun _ _ _ a b e=>e▸.list a (F2 b))
  (fun _ h=>h) (fun _ _ i j _ h=>h.cons' fun _ _ a b e=>e▸.cons (i _ a) (j _ b)) (fun _ h=>h) (fun _ _ i j _ h=>h.cons' fun _ _ _ a b e=>e▸.cons (i _ a) (j _ b)) l r
theorem bc.rel{P:Pm}{H:HP}{ρ:List Addr}{vs us:List V}{rs:List Value}(l:bc vs us):ak P H ρ vs rs→ak P H ρ us rs:=by
 induction vs generalizing us rs with
 |nil=>cases l;exact id
 |cons v vs ih=>cases l with|cons a l=>exact fun h=>h.cons' fun _ _ x y e=>e▸.cons (a.rel x) (ih l y)
theorem ba.same{T:Nat→V}{w:World}{v u:V}(l:ba v u):JU T w v u:=fun _ _ h=>l.rel h
theorem bc.same{T:Nat→V}{w:World}{vs us:List V}(l:bc vs us):dm T w vs us:=fun _ _ h=>l.rel h
end
noncomputable def iU{α:Type}:List Str→List α→List α→Option (List (Str×α))
  |[],vs,_=>bO (ju vs) (some [])
  | x::xs,vs,ds=>match vs with
    |[]=>oO (ds.drop (ds.length - (xs.length+1))).head? fun d=>bO (Nat.ble (xs.length+1) ds.length) (oO (iU xs [] ds) fun r=>some ((x,d)::r))
    |v::vs=>oO (iU xs vs ds) fun r=>some ((x,v)::r)
theorem ak.len{P:Pm}{H:HP}{ρ:List Addr}{vs:List V}{rs:List Value}(h:ak P H ρ vs rs):vs.length=rs.length:=
 ak.ind (M:=fun vs rs=>vs.length=rs.length) rfl (fun _ _ _ _ _ _ i=>congrArg (·+1) i) h
theorem ak.drop{P:Pm}{H:HP}{ρ:List Addr}(n:Nat):∀{vs:List V} {rs:List Value},ak P H ρ vs rs→ak P H ρ (vs.drop n) (rs.drop n):=by
  induction n with
  |zero=>exact fun h=>h
  | succ n ih=>
    intro vs rs h
    cases vs with
    |nil=>exact h.nil' fun e=>e▸.nil
    |cons v vs=>exact h.cons' fun r l a b e=>e▸ih b
theorem ak.hd{P:Pm}{H:HP}{ρ:List Addr}{vs:List V}{rs:List Value}{d:V}(h:ak P H ρ vs rs)(e:RK vs=some d):∃r,rs.head?=some r∧aj P H ρ d r:=by
 cases vs with
 |nil=>cases e
 |cons v vs=>exact h.cons' fun r l a b er=>⟨r,by rw[er];rfl,af e▸a⟩
theorem Jv{P:Pm}{H:HP}{ρ:List Addr}(ps:List Str):∀{as ds:List V} {bU rs:List Value} {fm:List (Str×V)},jE ps as ds=some fm→ak P H ρ as bU→ak P H ρ ds rs→∃bs,iU ps bU rs=some bs∧gw P H ρ fm bs:=by
  induction ps with
  |nil=>exact fun e a d=>cH e fun q e=>⟨[],by rw[cU q]at a;rw[show _=[]from a.inv];rfl,af e▸.nil⟩
  | cons x xs ih=>
    intro as ds bU rs fm e a d
    cases as with
    |cons v vs=>exact aA (o:=jE xs vs ds) e fun r er e=>a.cons' fun r' l a1 b1 e2=>(ih er b1 d).elim fun bs h=>⟨(x,r')::bs,by rw[e2];show oO (iU xs l rs) _=_;rw[h.1];rfl,af e▸.cons a1 h.2⟩
    | nil=>exact aA (o:=RK _) e fun q eq e=>cH e fun hb e=>aA e fun r er e=>((d.drop _).hd eq).elim fun r' hr=>(ih er .nil d).elim fun bs h=>⟨(x,r')::bs,by
      rw[show bU=[]from a.inv]
      show oO (rs.drop (rs.length - (xs.length+1))).head? _=_
      rw[←d.len,hr.1]
      show bO (Nat.ble (xs.length+1) ds.length) (oO (iU xs [] rs) _)=_
      rw[hb,h.1];rfl,af e▸.cons hr.2 h.2⟩
theorem z7{α:Type}{ps:List Str}:∀{as ds:List α} {fm:List (Str×α)},iU ps as ds=some fm→as.length≤ps.length∧ps.length≤as.length+ds.length:=by
  induction ps with
  |nil=>exact fun e=>cH e fun q _=>by rw[cU q];exact⟨Nat.le_refl _,Nat.zero_le _⟩
  | cons x xs ih=>
    intro as ds fm e
    cases as with
    |nil=>exact aA (o:=List.head? _) e fun d _ e=>cH e fun hb e=>⟨Nat.zero_le _,by rw[List.length_nil,Nat.zero_add];exact Nat.le_of_ble_eq_true hb⟩
    |cons v vs=>exact aA (o:=iU xs vs ds) e fun r er e=>⟨Nat.succ_le_succ (ih er).1,by rw[List.length_cons,List.length_cons,Nat.add_right_comm];exact Nat.succ_le_succ (ih er).2⟩
theorem GU{α:Type}{l:List α}{n:Nat}{d:α}(h:(l.drop n).head?=some d):l.drop n=d::l.drop (n+1):=by
 rw[←List.drop_drop]
 cases e:l.drop n with
 |nil=>rw[e]at h;cases h
 |cons a r=>rw[e]at h;rw[af h];rfl
theorem MJ{a b:Nat}(h:b+1≤a):a - b=a - (b+1)+1:=by lia
theorem EN {α:Type} {ps:List Str}:∀{as ds:List α} {fm:List (Str×α)},iU ps as ds=some fm→fm=ps.zip (as++ds.drop (ds.length - (ps.length - as.length))):=by
  induction ps with
  |nil=>exact fun e=>cH e fun _ e=>af e▸rfl
  | cons x xs ih=>
    intro as ds fm e
    cases as with
    | nil=>
      refine aA (o:=List.head? _) e fun d ed e=>cH e fun hb e=>aA e fun r er e=>?_
      · have q:=ih er
        rw[List.nil_append,List.length_nil,Nat.sub_zero]at q ⊢
        rw[←af e,q,List.length_cons,GU ed,List.zip_cons_cons,←MJ (Nat.le_of_ble_eq_true hb)]
    |cons v vs=>exact aA (o:=iU xs vs ds) e fun r er e=>by rw[←af e,ih er,List.cons_append,List.zip_cons_cons,List.length_cons,List.length_cons,Nat.add_sub_add_right]
theorem P0{f:(Str×Value)→List (Str×Value)→Sem (ForInStep (List (Str×Value)))}(hf:∀n d s,f (n,d) s=if(s.lookup n).isNone then pure (.yield (s++[(n,d)]))else pure (.yield s))(l:List (Str×Value)):∀(s:List (Str×Value)),(∀p∈l,s.lookup p.1=none)→(l.map (·.1)).Nodup→forIn l s f=pure (s++l):=by
  induction l with
  |nil=>exact fun s _ _=>by rw[List.append_nil];rfl
  | cons p l ih=>
    intro s h hn
    rw[List.forIn_cons,show f p s=_ from hf p.1 p.2 s,if_pos (by rw[h p (.head _)];rfl)]
    show forIn l (s++[p]) f=_
    rw[List.map_cons,List.nodup_cons]at hn
    rw[ih _ (fun q hq=>?_) hn.2,List.append_assoc];rfl
    rw[List.lookup_append,h q (.tail _ hq),List.lookup_cons,beq_eq_false_iff_ne.mpr fun e=>hn.1 (by rw[←e];exact List.mem_map.mpr ⟨q,hq,rfl⟩)];rfl
section
theorem pL{M:Model}{A:Around}{E:Value→Shared→Prop}{s:Shared}{Q:Option (Array Value)→Shared→Prop}(h:Q none s):wpAny M A (seqItems? .none) Q E s:=by
 unfold seqItems?
 exact wpAny_pure h
theorem hV {α:Type} {n:Str} {ps:List Str}:∀{vs:List α},n∈ps.take vs.length→((ps.zip vs).lookup n).isNone=false:=by
  induction ps with
  |nil=>exact fun h=>by rw[List.take_nil]at h;cases h
  | cons p ps ih=>
    intro vs h
    cases vs with
    |nil=>cases h
    | cons v vs=>
      rw[List.zip_cons_cons,List.lookup_cons]
      cases e:n==p with
      |true=>rfl
      | false=>
        rw[List.length_cons,List.take_succ_cons,List.mem_cons]at h
        refine h.elim (fun h=>?_) ih
        rw[h,beq_self_eq_true]at e;cases e
theorem lA {α:Type} {n:Str} {k:Nat}:∀{ps:List Str} {vs:List α},n∉ps.take k→vs.length≤k→(ps.zip vs).lookup n=none:=by
  induction k with
  |zero=>exact fun{ps vs} _ h=>by rw[List.length_eq_zero_iff.mp (Nat.le_zero.mp h),List.zip_nil_right];rfl
  | succ k ih=>
    intro ps vs h hk
    cases ps with
    |nil=>rfl
    | cons p ps=>cases vs with
      |nil=>rfl
      | cons v vs=>
        rw[List.take_succ_cons,List.mem_cons,not_or]at h
        rw[List.zip_cons_cons,List.lookup_cons,beq_eq_false_iff_ne.mpr h.1]
        exact ih h.2 (Nat.le_of_succ_le_succ hk)
theorem Ak{α:Type}(k:Nat):∀(ps:List Str) (vs:List α),(ps.zip vs).drop k=(ps.drop k).zip (vs.drop k):=by
  induction k with
  |zero=>exact fun _ _=>rfl
  | succ k ih=>
    intro ps vs
    cases ps with
    |nil=>rfl
    | cons p ps=>cases vs with
      |nil=>rw[List.zip_nil_right,List.drop_nil,List.drop_nil,List.zip_nil_right]
      |cons v vs=>exact ih ps vs
theorem Ck {α:Type} {ps:List Str}:∀{vs:List α} (pre:List (Str×α)),ps.Nodup→ps.length=vs.length→(∀p∈pre,p.1∉ps)→ps.filterMap (fun n=>((pre++ps.zip vs).lookup n).map fun v=>(n,v))=ps.zip vs:=by
  induction ps with
  |nil=>exact fun _ _ _ _=>rfl
  | cons p ps ih=>
    intro vs pre hn hl hp
    cases vs with
    |nil=>cases hl
    | cons v vs=>
      rw[List.nodup_cons]at hn
      have e1:(pre++(p::ps).zip (v::vs)).lookup p=some v:=by
        have:pre.lookup p=none:=by
          cases q:pre.lookup p with
          |none=>rfl
          |some u=>exact absurd (List.Mem.head _) (hp _ (cj q))
        rw[List.lookup_append,this,List.zip_cons_cons,List.lookup_cons,beq_self_eq_true];rfl
      rw[List.filterMap_cons,e1]
      have ih:=ih (vs:=vs) (pre++[(p,v)]) hn.2 (Nat.succ.inj hl) (fun q hq=>(List.mem_append.mp hq).elim (fun hq z=>hp q hq (.tail _ z)) fun hq=>by
        rw[List.mem_singleton.mp hq];exact hn.1)
      rw[List.append_assoc]at ih
      exact congrArg _ ih
theorem AA{f:(Str×Value)→List (Str×Value)→Sem (ForInStep (List (Str×Value)))}(hf:∀n d s,f (n,d) s=if(s.lookup n).isNone then pure (.yield (s++[(n,d)]))else pure (.yield s))(l1 l2:List (Str×Value)):∀(s:List (Str×Value)),(∀p∈l1,(s.lookup p.1).isNone=false)→(∀p∈l2,s.lookup p.1=none)→(l2.map (·.1)).Nodup→forIn (l1++l2) s f=pure (s++l2):=by
  induction l1 with
  |nil=>exact fun s _ h hn=>P0 hf l2 s h hn
  | cons p l1 ih=>
    intro s h1 h2 hn
    rw[List.cons_append,List.forIn_cons,show f p s=_ from hf p.1 p.2 s,h1 p (.head _)]
    show forIn (l1++l2) s f=_
    exact ih s (fun p hp=>h1 p (.tail _ hp)) h2 hn
theorem uo{α:Type}{p:Str×α}{ps:List Str}{vs:List α}(h:p∈ps.zip vs):p.1∈ps:=(List.of_mem_zip (a:=p.1) (b:=p.2) h).1
theorem Bb{α:Type}{ps:List Str}:∀{as xs:List α},as.length≤ps.length→ps.zip (as++xs)=ps.zip as++(ps.drop as.length).zip xs:=by
  induction ps with
  |nil=>exact fun{as xs} h=>by rw[List.length_eq_zero_iff.mp (Nat.le_zero.mp h)];rfl
  | cons p ps ih=>
    intro as xs h
    cases as with
    |nil=>rfl
    |cons a as=>rw[List.cons_append,List.zip_cons_cons,ih (Nat.le_of_succ_le_succ h),List.zip_cons_cons];rfl
theorem r0{n:Str}{ps:List Str}:∀{k:Nat},ps.Nodup→n∈ps.take k→n∉ps.drop k:=by
  induction ps with
  |nil=>exact fun _ h=>by rw[List.take_nil]at h;cases h
  | cons p ps ih=>
    intro k hn h
    cases k with
    |zero=>cases h
    | succ k=>
      rw[List.nodup_cons]at hn
      rw[List.take_succ_cons,List.mem_cons]at h
      rw[List.drop_succ_cons]
      exact h.elim (fun h z=>hn.1 (h▸List.mem_of_mem_drop z)) fun h=>ih hn.2 h
theorem sf {α:Type} {p:Str×α} {ps:List Str}:∀{vs:List α} {k:Nat},p∈(ps.zip vs).take k→p.1∈ps.take k:=by
  induction ps with
  |nil=>exact fun h=>by rw[List.zip_nil_left,List.take_nil]at h;cases h
  | cons q ps ih=>
    intro vs k h
    cases vs with
    |nil=>rw[List.zip_nil_right,List.take_nil]at h;cases h
    | cons v vs=>cases k with
      |zero=>cases h
      | succ k=>
        rw[List.zip_cons_cons,List.take_succ_cons,List.mem_cons]at h
        rw[List.take_succ_cons,List.mem_cons]
        exact h.imp (fun e=>by rw[e]) ih
theorem pH{n:Str}{ps:List Str}{a b c:Nat}(h:n∈(ps.drop a).take b)(hc:a+b≤c):n∈ps.take c:=by
 have e:(ps.drop a).take b=(ps.take (a+b)).drop a:=by rw[List.drop_take];congr 1;lia
 rw[e]at h
 have h:=List.mem_of_mem_drop h
 exact(List.take_prefix_take_left hc).subset h
section
variable {p a r:Nat}
theorem Wl(h1:a≤p)(h2:p≤a+r):p - r≤a:=Nat.sub_le_iff_le_add.mpr h2
theorem VJ(h2:p≤a+r)(hr:r≤p):p - r+(a - (p - r))=a:=Nat.add_sub_of_le (Nat.sub_le_iff_le_add.mpr h2)
theorem WD(h1:a≤p)(h2:p≤a+r)(hr:r≤p):r - (p - a)=a - (p - r):=by rw[Nat.sub_sub_right r h1,Nat.sub_sub_right a hr,Nat.add_comm]
theorem Wh(h1:a≤p)(h2:p≤a+r):p=a+(r - (r - (p - a))):=by rw[Nat.sub_sub_self (Nat.sub_le_iff_le_add'.mpr h2),Nat.add_sub_of_le h1]
theorem Wx(h1:a≤p)(h2:p≤a+r)(hr:r≤p):p - a=r - (a - (p - r)):=by rw[Nat.sub_sub_right a hr,Nat.sub_sub_right r h2,Nat.add_comm a r,Nat.add_sub_add_left]
end
section
variable {ps:List Str}{bU rs:List Value}(hl:bU.length≤ps.length∧ps.length≤bU.length+rs.length)(hr:rs.length≤ps.length)
include hl hr
theorem MM:(ps.take (ps.length - rs.length)).filter (fun n=>((ps.zip bU).lookup n).isNone)=[]:=by
 rw[List.filter_eq_nil_iff]
 intro a ha
 rw[hV ((List.take_prefix_take_left (Wl hl.1 hl.2)).subset ha)]
 exact fun h=>nomatch h
theorem z5:(ps.drop (ps.length - rs.length)).zip rs=((ps.drop (ps.length - rs.length)).zip rs).take (bU.length - (ps.length - rs.length))++(ps.drop bU.length).zip (rs.drop (bU.length - (ps.length - rs.length))):=by
 have h1:=List.take_append_drop (bU.length - (ps.length - rs.length)) ((ps.drop (ps.length - rs.length)).zip rs)
 rw[Ak,List.drop_drop,VJ hl.2 hr]at h1
 exact h1.symm
theorem Bh(hn:ps.Nodup){f:(Str×Value)→List (Str×Value)→Sem (ForInStep (List (Str×Value)))}(hf:∀n d s,f (n,d) s=if(s.lookup n).isNone then pure (.yield (s++[(n,d)]))else pure (.yield s)) :
  forIn ((ps.drop (ps.length - rs.length)).zip rs) (ps.zip bU) f=pure (ps.zip (bU++rs.drop (rs.length - (ps.length - bU.length)))):=by
 rw[z5 hl hr,AA hf,WD hl.1 hl.2 hr,Bb hl.1]
 ·exact fun p hp=>hV (pH (sf hp) (Nat.le_of_eq (VJ hl.2 hr)))
 ·exact fun p hp=>lA (k:=bU.length) (fun z=>r0 hn z (uo hp)) (Nat.le_refl _)
 ·rw[List.map_fst_zip (by rw[List.length_drop,List.length_drop];exact Nat.le_of_eq (Wx hl.1 hl.2 hr))]
  exact hn.sublist (List.drop_sublist _ _)
end
theorem nK{M:Model}{A:Around}{E:Value→Shared→Prop}{s:Shared}{d:Value}{rs:List Value}(hd:(∃T o n,d=.ref T∧s.heap.get? T=some o∧o.data=.seq rs.toArray n)∨(d=.none∧rs=[])):wpAny M A (seqItems? d) (fun r s'=>(r.getD #[]).toList=rs∧s'=s) E s:=by
 refine hd.elim (fun h=>?_) fun h=>?_
 ·refine Jh h fun T o n e h1 h2=>?_
  rw[e]
  exact wpAny_seqItems h1 h2 ⟨rfl,rfl⟩
 ·rw[h.1]
  exact pL ⟨by rw[h.2];rfl,rfl⟩
theorem E1{s:Shared}{fd:FuncData}{bU rs:List Value}{bs:List (Str×Value)}(hp:fd.params.posonlyargs=[])(hv:fd.params.vararg=none)(hk:fd.params.kwonlyargs=[])(hkw:fd.params.kwarg=none)(hn:(fd.params.args.map (·.arg)).Nodup)
  (hr:rs.length≤(fd.params.args.map (·.arg)).length) (hd:(∃T o n,fd.defaults=.ref T∧s.heap.get? T=some o∧o.data=.seq rs.toArray n)∨(fd.defaults=.none∧rs=[])) (h:iU (fd.params.args.map (·.arg)) bU rs=some bs):BindsTo s fd ⟨bU,[]⟩ bs:=by
 intro M A E Q hq
 have hl:=z7 h
 have he:=EN h
 have hz:=Ck (ps:=fd.params.args.map (·.arg)) (vs:=bU++rs.drop (rs.length - ((fd.params.args.map (·.arg)).length - bU.length))) [] hn (by rw[List.length_append,List.length_drop];exact Wh hl.1 hl.2) (fun p hp=>nomatch hp)
 rw[List.nil_append,←he]at hz
 unfold bindArgs
 simp only [hp,hv,hk,hkw,List.map_nil,List.nil_append,List.forIn_nil,pure_bind]
 generalize hps:fd.params.args.map (·.arg)=ps at *
 refine wpAny_bind (wpAny_mono (nK hd) ?_ fun _ _ x=>x)
 intro r s' hs
 rw[hs.2]
 simp only [hs.1]
 rw[if_neg ?_]
 ·have ed:rs.drop (rs.length - ps.length)=rs:=by rw[Nat.sub_eq_zero_of_le hr];rfl
  simp only [ed,List.append_nil]
  rw[MM hl hr]
  simp only [List.isEmpty_nil,Bool.not_true,Bool.false_eq_true,if_false]
  rw[Bh hl hr hn (fun n d s=>rfl),←he]
  refine wpAny_bind (wpAny_pure (wpAny_pure ?_))
  rw[hz]
  exact hq
 ·rw[decide_eq_false (Nat.not_lt.mpr hl.1)];exact fun h=>nomatch h
end
section
open PySem PySem.Builtin PySem.Builtin.ObjectAttr PySem.W PySem.Calls PyProof.Rows
noncomputable abbrev js:List Value:=[.type "Exception",.type "BaseException",.type "object"]
noncomputable def kC:List Value→List Value
 |.ref _::r=>kC r
 |l=>l
noncomputable def xV(l:List Value):Bool:=kC l==js
theorem lV:∀(l:List Value),∃as:List Addr,l=as.map Value.ref++kC l
  |[]=>⟨[],rfl⟩
  | v :: r=>by
    cases v with
    | ref a=>
      refine cf (lV r) fun as q=>?_
      refine⟨a::as,?_⟩
      show Value.ref a::r=Value.ref a::(as.map Value.ref++kC r)
      rw[←q]
    |_=>exact⟨[],rfl⟩
theorem pA{l:List Value}(e:xV l=true):∃as:List Addr,l=as.map Value.ref++js:=by
 refine cf (lV l) fun as q=>?_
 exact⟨as,by rw[←eq_of_beq e];exact q⟩
theorem uD(self:Value):refuseLoop self "__setattr__" js=pure ():=by kernel_rfl
theorem nC(self:Value):∀as:List Addr,refuseLoop self "__setattr__" (as.map Value.ref++js)=pure ()
  |[]=>uD self
  | a::as=>by
    show refuseLoop self "__setattr__" (.ref a::(as.map Value.ref++js))=_
    rw[refuseLoop_ref]
    exact nC self as
theorem iL(as:List Addr){T:String}(h:js.contains (.type T)=true):(as.map Value.ref++js).contains (.type T)=true:=by
 induction as with
 |nil=>exact h
 |cons a as ih=>rw[List.map_cons,List.cons_append,List.contains_cons,ih,Bool.or_true]
theorem oH(as:List Addr){T:String}(h:js.contains (.type T)=false):(as.map Value.ref++js).contains (.type T)=false:=by
 induction as with
 |nil=>exact h
 |cons a as ih=>rw[List.map_cons,List.cons_append,List.contains_cons,ih];rfl
section
variable {prog:Program}{w:World}{A:Around}{R:Result→Shared→Prop}{s:Shared}{K:Frag}{C x:Addr}{E:Value→Shared→Prop}
noncomputable def gh(K:Frag)(C:Addr):Bool:=(clsIn K C).any fun cd=>xV cd.mro&&cd.hasDict
theorem qr{ox:Obj}{od:Option Obj}{name:Str}{tk:Tok}{v:Value}(X:K.In s.heap)(I:InstAt s.heap x ox C od)(hp:gh K C=true)(ht:findIn K (.ref C) name=some none)
  (h:wpAny (model prog w) A.in1 (storeInOwnDict (.ref x) (.ref C) (.str name tk) name v false)
   (fun fin s'=>match fin with|.done f=>R (.ok f) s'|.again c'=>c'.quiet=true∧codeAny (model prog w) A c' R s') (fun e s'=>R (.error e) s') s) :
  codeAny (model prog w) A (.call (.builtin "object.__setattr__") ⟨[.ref x,.str name tk,v],[]⟩) R s:=by
 have SF:=PySem.F.store_object
 refine av (any_some hp) fun cd hc ho=>?_
 rw[Bool.and_eq_true]at ho
 refine cf (pA ho.1) fun as hmro=>?_
 have ne:cd.mro.isEmpty=false:=by rw[hmro];cases as <;> rfl
 have sub:Looks (model prog w) s.heap (isInstance (.ref x) (.type "object")) true:=I.type.andThen (looks_mroIn X (by unfold mroIn;rw[hc,Option.bind_some,if_neg (by rw[ne];decide),hmro,iL as (by decide)]))
 refine codeAny_call_builtin SF.slot.plain SF.entry (@check_slot (model prog w) _ _ s "object.__setattr__" "object" "__setattr__" (.ref x) [.str name tk,v] [] _ SF.kind SF.split sub (SF.args (.ref x) (.str name tk) v) ?_)
 have hm:Looks (model prog w) s.heap (mroOf (.ref C)) cd.mro:=(looks_clsIn X hc).andThen .now
 rw[osa_eq,refuse_eq]
 refine wpAny_bind (wpAny_bind (I.type.here (wpAny_bind (hm.here ?_))))
 rw[hmro,nC]
 refine wpAny_pure (wpAny_bind (I.type.here (wpAny_bind ((looks_findIn X ht).here (wpAny_bind (wpAny_pure ?_))))))
 exact h
theorem C9{Q:Fin→Shared→Prop}{d:Addr}{es:List DictEntry}{n:Nat}{name:Str}{tk:Tok}{v:Value}(D:s.heap.get? d=some (dictOf es n))(hr:es.toArray.any (·.refKey)=false)(hl:(putL name (PyData.keyHash w.params name) (.str name s.toks) v es).length≤1000)
  (h:∀h',Heap.SameBut d s.heap h'→h'.get? d=some (dictOf (putL name (PyData.keyHash w.params name) (.str name s.toks) v es) (putN name es n))→Q (.done (.ret .none)) {s with heap:=h',toks:=s.toks+1}) :
  wpAny (model prog w) A (storeInDict d (.str name tk) name v) Q E s:=by
 refine wpAny_bind (wpAny_pure (wpAny_bind ?_))
 unfold nsSet
 refine wpAny_bind (wpAny_bind (wpAny_askSetting (wpAny_pure (wpAny_bind (wpAny_mkText (wpAny_bind (wpAny_loadPart D ?_)))))))
 dsimp only
 have c:(!es.toArray.any (·.key.isStr name)&&es.toArray.any (·.refKey))=false:=by rw[hr,Bool.and_false]
 rw[aRefKeyMayBeTheName_at,c]
 refine wpAny_updatePart D ?_
 have D':(s.heap.update d (Obj.putName name (PyData.keyHash w.params name) (.str name s.toks) v)).get? d=some (dictOf (putL name (PyData.keyHash w.params name) (.str name s.toks) v es) (putN name es n)):=by
  rw[Heap.get?_update_self _ D (by rw[putName_dict];rfl),putName_dict]
 refine wpAny_bind (wpAny_lookBehind D' (pastItsLine_dict (by rw[List.size_toArray,sizeLine_eq];lia)) ?_)
 exact wpAny_pure (h _ (Heap.SameBut.update ..) D')
noncomputable abbrev cA(C t:Addr):Obj:={cls:=.ref C,dict:=none,data:=.fields #[.ref t,.none,.none,.none,.bool false,.none]}
theorem sH{Q:Option Addr→Shared→Prop}{t d:Addr}(X:K.In s.heap)(hp:gh K C=true)(hx:s.heap.get? x=some (fh C t d))(h:Q (some d) s):wpAny (model prog w) A (ownDictForStores (.ref x)) Q E s:=by
 refine av (any_some hp) fun cd hc ho=>?_
 rw[Bool.and_eq_true]at ho
 show wpAny _ _ (instanceDict x true) _ _ _
 unfold instanceDict
 refine wpAny_bind (wpAny_loadPart hx (wpAny_bind ((looks_clsIn X hc).here ?_)))
 rw[ho.2]
 exact wpAny_pure h
theorem rd{Q:Option Addr→Shared→Prop}{t:Addr}(X:K.In s.heap)(hp:gh K C=true)(hx:s.heap.get? x=some (cA C t))
  (h:∀h',(∀b o,b≠x→s.heap.get? b=some o→h'.get? b=some o)→h'.get? x=some (fh C t s.heap.objs.size)→h'.get? s.heap.objs.size=some (dictOf [] 0)→Q (some s.heap.objs.size) {s with heap:=h'}):wpAny (model prog w) A (ownDictForStores (.ref x)) Q E s:=by
 refine av (any_some hp) fun cd hc ho=>?_
 rw[Bool.and_eq_true]at ho
 show wpAny _ _ (instanceDict x true) _ _ _
 unfold instanceDict
 refine wpAny_bind (wpAny_loadPart hx (wpAny_bind ((looks_clsIn X hc).here ?_)))
 rw[ho.2]
 refine wpAny_bind (wpAny_alloc ?_)
 have hx':(s.heap.push {cls:=.type "dict",data:=.dict #[]}).get? x=some (cA C t):=Heap.get?_push_of_some _ hx
 have ne:x≠s.heap.objs.size:=Nat.ne_of_lt (Heap.lt_size hx)
 refine wpAny_bind (wpAny_update hx' (wpAny_pure ?_))
 refine h _ (fun b o q e=>?_) ?_ ?_
 ·rw[Heap.get?_update_other _ _ (Ne.symm q)];exact Heap.get?_push_of_some _ e
 ·rw[Heap.get?_update_self _ hx' rfl]
 ·rw[Heap.get?_update_other _ _ ne];exact Heap.get?_push_size _ rfl
theorem yp{h:Heap}{t:Addr}(hx:h.get? x=some (cA C t)):InstAt h x (cA C t) C none:=⟨hx,rfl,rfl,trivial⟩
theorem zt{h:Heap}{t d:Addr}{o:Obj}(hx:h.get? x=some (fh C t d))(hd:h.get? d=some o):InstAt h x (fh C t d) C (some o):=⟨hx,rfl,rfl,hd⟩
theorem Bj{Q:Unit→Shared→Prop}{t:Addr}{name:Str}{v:Value}(X:K.In s.heap)(hp:gh K C=true)(hs:findIn K (.ref C) "__setattr__"=some (some (.builtin "object.__setattr__")))(ht:findIn K (.ref C) name=some none)(hx:s.heap.get? x=some (cA C t))
  (h:∀h' d es n tk,(∀b o,b≠x→s.heap.get? b=some o→h'.get? b=some o)→h'.get? x=some (fh C t d)→h'.get? d=some (dictOf es n)→es.toArray.any (·.refKey)=false→es.length=1→d≠x→s.heap.get? d=none→Q () {s with heap:=h',toks:=tk}) :
  wpAny (model prog w) A (setAttr (.ref x) name v) Q E s:=by
 refine set_plain X (yp hx) hs ?_
 refine qr (s:={s with toks:=s.toks+1}) X (yp hx) hp ht ?_
 refine wpAny_bind (wpAny_pure (wpAny_bind (rd (s:={s with toks:=s.toks+1}) X hp hx fun ao k1 k2 k3=>?_)))
 have ne:s.heap.objs.size≠x:=Ne.symm (Nat.ne_of_lt (Heap.lt_size hx))
 refine C9 (s:={s with heap:=ao,toks:=s.toks+1}) (es:=[]) (n:=0) k3 (by simp) (by simp[putL]) fun aK fZ zD=>?_
 show Q () _
 refine h aK s.heap.objs.size _ _ _ (fun b o q e=>?_) ?_ zD (by simp[putL,DictEntry.refKey]) (by simp[putL]) ne gK
 ·exact(fZ.2 b fun z=>by rw[z]at e;exact absurd (Heap.lt_size e) (Nat.lt_irrefl _)).trans (k1 b o q e)
 ·exact(fZ.2 x (Ne.symm ne)).trans k2
theorem yj(name:Str)(hsh:Int)(key v:Value):∀es:List DictEntry,(putL name hsh key v es).length≤es.length+1
  |[]=>by simp[putL]
  | e::r=>by
    unfold putL
    split
    · simp
    · simp[yj name hsh key v r]
theorem Fy{Q:Unit→Shared→Prop}{t d:Addr}{name:Str}{v:Value}{es:List DictEntry}{n:Nat}(X:K.In s.heap)(hp:gh K C=true)(hs:findIn K (.ref C) "__setattr__"=some (some (.builtin "object.__setattr__")))(ht:findIn K (.ref C) name=some none)(hx:s.heap.get? x=some (fh C t d))
  (hd:s.heap.get? d=some (dictOf es n)) (hr:es.toArray.any (·.refKey)=false) (hl:es.length≤100) (ne:d≠x)
  (h:∀h' tk,(∀b o,b≠d→s.heap.get? b=some o→h'.get? b=some o)→h'.get? x=some (fh C t d)→Q () {s with heap:=h',toks:=tk}) :
  wpAny (model prog w) A (setAttr (.ref x) name v) Q E s:=by
 refine set_plain X (zt hx hd) hs ?_
 refine qr (s:={s with toks:=s.toks+1}) X (zt hx hd) hp ht ?_
 refine wpAny_bind (wpAny_pure (wpAny_bind (sH (s:={s with toks:=s.toks+1}) X hp hx ?_)))
 refine C9 (s:={s with toks:=s.toks+1}) hd hr ?_ fun aK fZ zD=>?_
 ·have:=yj name (PyData.keyHash w.params name) (.str name (s.toks+1)) v es
  exact Nat.le_trans this (by lia)
 ·show Q () _
  exact h aK _ (fun b o q e=>(fZ.2 b q).trans e) ((fZ.2 x (Ne.symm ne)).trans hx)
end
end
section
open PySem PySem.Builtin PySem.Builtin.ObjectAttr PySem.W PySem.Calls PyProof.Rows
noncomputable abbrev nX:String:="Exception.__new__"
noncomputable abbrev iX:String:="Exception.__init__"
section
variable {M:Model}{A:Around}{E:Value→Shared→Prop}{h:Heap}{g:Array GenState}{d:Drawn}{t:Nat}{os:OsState}
variable {nm q:Str}{C N:Addr}{bs:List Value}{as:List Addr}{hdct:Bool}{sn:List Str}{sub:List Value}{ab:Bool}{col:Option Bool}{dd:Option Addr}{k0 k1 k2 k3 k5:Option Value}
noncomputable abbrev IT(nm q:Str)(C N:Addr)(bs:List Value)(as:List Addr)(hdct:Bool)(sn:List Str)(sub:List Value)(ab:Bool)(col:Option Bool)(dd:Option Addr)(k0 k1 k2 k3 k5:Option Value):Obj:=excClassObj nm q C N bs (as.map Value.ref++js) hdct sn sub ab col dd k0 k1 k2 k3 k5 nX
theorem nt{l:List Value}{T:String}(h:l.contains (.type T)=true):(Value.ref C::l).contains (.type T)=true:=by rw[List.contains_cons,h,Bool.or_true]
theorem ow{l:List Value}{T:String}(h:l.contains (.type T)=false):(Value.ref C::l).contains (.type T)=false:=by rw[List.contains_cons,h];rfl
theorem xG{rest:List Value}{Q:Unit→Shared→Prop}(hC:h.get? C=some (IT nm q C N bs as hdct sn sub ab col dd k0 k1 k2 k3 k5))(hq:Q () ⟨h,g,d,t,os⟩):wpAny M A (checkBuiltinCall nX ⟨.ref C::rest,[]⟩) Q E ⟨h,g,d,t,os⟩:=by
 have F:=PySem.F.excBase_Exception
 have hcont:(Value.ref C::(as.map Value.ref++js)).contains (.type "Exception")=true:=nt (iL as (by decide))
 have hstar:=F.noStar
 simp only [checkBuiltinCall,F.newKind,F.newSplit,F.newRow]
 repeat (first|refine wpAny_loadPart_at hC ?_|(refine wpAny_isSubtype_exc hC ?_;rw[hcont])|refine wpAny_staticBase_exc hC ?_|refine wpAny_madeBy_exc hC ?_|simp only [bne_self_eq_false,Bool.false_eq_true,if_false]|wp_step)
 exact hq
end
section
variable {prog:Program}{w:World}{A:Around}{R:Result→Shared→Prop}{h:Heap}{g:Array GenState}{d:Drawn}{t:Nat}{os:OsState}
variable {nm q:Str}{C N:Addr}{bs:List Value}{as:List Addr}{hdct:Bool}{sn:List Str}{sub:List Value}{ab:Bool}{col:Option Bool}{dd:Option Addr}{k0 k1 k2 k3 k5:Option Value}
theorem TB{rest:List Value}(hC:h.get? C=some (IT nm q C N bs as hdct sn sub ab col dd k0 k1 k2 k3 k5))
  (hq:R (.ok (.ret (.ref (h.objs.size+1)))) ⟨(h.push {cls:=.type "tuple",data:=.seq rest.toArray}).push (cA C h.objs.size),g,d,t,os⟩) (hrest:rest.length≤sizeLine) :
  codeAny (model prog w) A (.builtin nX ⟨.ref C::rest,[]⟩) R ⟨h,g,d,t,os⟩:=by
 have F:=PySem.F.excBase_Exception
 have hends:=F.ends
 have hcB:(Value.ref C::(as.map Value.ref++js)).contains (.type "Exception")=true:=nt (iL as (by decide))
 have hcA:(Value.ref C::(as.map Value.ref++js)).contains (.type "AttributeError")=false:=ow (oH as (by decide))
 have hcN:(Value.ref C::(as.map Value.ref++js)).contains (.type "NameError")=false:=ow (oH as (by decide))
 refine codeAny_builtinAt F.entry ?_
 unfold Builtin.«BaseException.__new__»
 refine PySem.wpAt_bind ?_
 show PySem.wpAt _ _ _ (stack >>= _) _ _ _
 refine PySem.wpAt_bind (PySem.wpAt_stack fun p below=>PySem.wpAt_of_wpAny ?_)
 wp_walk
 refine PySem.wpAt_of_wpAny ?_
 rw[F.owner]
 repeat (first|with_reducible refine wpAny_madeHere_exc F.canon hC ?_|with_reducible refine wpAny_loadPart_at hC ?_|(with_reducible refine wpAny_isSubtype_exc hC ?_;first|rw[hcB]|rw[hcA]|rw[hcN])|wp_step)
 show R _ _
 rw[Heap.size_push]
 exact hq
end
section
variable {prog:Program}{w:World}{A:Around}{E:Value→Shared→Prop}{h:Heap}{g:Array GenState}{d:Drawn}{t:Nat}{os:OsState}{K:Frag}{f:Addr}
variable {nm q:Str}{C N:Addr}{bs:List Value}{as:List Addr}{hdct:Bool}{sn:List Str}{sub:List Value}{ab:Bool}{col:Option Bool}{dd:Option Addr}{k0 k1 k2 k3 k5:Option Value}
theorem Bg{rest:List Value}{Q:Fin→Shared→Prop}(X:K.In h)(hC:h.get? C=some (IT nm q C N bs as hdct sn sub ab col dd k0 k1 k2 k3 k5))(hi:findIn K (.ref C) "__init__"=some (some (.ref f)))(hf:typeIn K (.ref f)=some (.type "function"))
  (hq:wpAny (model prog w) A (call (.ref f) (.ref (h.objs.size+1)::rest)) (fun r s'=>r=.none∧Q (.done (.ret (.ref (h.objs.size+1)))) s') E ⟨(h.push {cls:=.type "tuple",data:=.seq rest.toArray}).push (cA C h.objs.size),g,d,t,os⟩) (hrest:rest.length≤sizeLine) :
  wpAny (model prog w) A (Builtin.«type.__call__» ⟨.ref C::rest,[]⟩) Q E ⟨h,g,d,t,os⟩:=by
 have F:=PySem.F.excBase_Exception
 repeat (first|with_reducible refine wpAny_loadPart_at hC ?_|with_reducible refine wpAny_madeBy_exc hC ?_|wp_step)
 refine codeAny_call_builtin_code (Code.quiet_builtin _ F.quiet) (xG hC ?_)
 refine TB hC ?_ hrest
 show wpAny _ _ _ _ _ _
 have up:∀b o,h.get? b=some o→((h.push {cls:=.type "tuple",data:=.seq rest.toArray}).push (cA C h.objs.size)).get? b=some o:=fun b o e=>Heap.get?_push_of_some _ (Heap.get?_push_of_some _ e)
 have Rz:=up _ _ hC
 have RA:K.In ((h.push {cls:=.type "tuple",data:=.seq rest.toArray}).push (cA C h.objs.size)):=X.keeps up
 have hget:((h.push {cls:=.type "tuple",data:=.seq rest.toArray}).push (cA C h.objs.size)).get? (h.objs.size+1)=some (cA C h.objs.size):=by
  have:=@Heap.get?_push_size (h.push {cls:=.type "tuple",data:=.seq rest.toArray}) (cA C h.objs.size) rfl
  rwa [Heap.size_push]at this
 have hcC:(Value.ref C::(as.map Value.ref++js)).contains (.ref C)=true:=by simp
 unfold isInstance
 repeat (first|with_reducible refine wpAny_loadPart_at hget ?_|(with_reducible refine wpAny_isSubtype_exc Rz ?_;rw[hcC])|wp_step)
 show wpAny _ _ (typeLookup (.ref C) _) _ _ _
 refine(looks_findIn (M:=model prog w) RA hi).here ?_
 dsimp only
 refine wpAny_holding (wpAny_bind ((bind_fn (M:=model prog w) RA (.ref (h.objs.size+1)) hf).here ?_))
 dsimp only
 refine wpAny_bind (wpAny_mono hq (fun r s' z=>?_) fun _ _ z=>z)
 obtain⟨rfl,z⟩:=z
 first|exact wpAny_pure (wpAny_pure z)|exact wpAny_pure (wpAny_pure (wpAny_pure z))|exact wpAny_pure z|(wp_walk;exact z)
end
end
section
open PySem PySem.Builtin PySem.Builtin.ObjectAttr PySem.W PySem.Calls PyProof.Rows
section
variable {prog:Program}{w:World}{A:Around}{E:Value→Shared→Prop}{h:Heap}{g:Array GenState}{d:Drawn}{t:Nat}{os:OsState}
variable {nm q:Str}{C N e t0:Addr}{bs:List Value}{as:List Addr}{hdct:Bool}{sn:List Str}{sub:List Value}{ab:Bool}{col:Option Bool}{dd:Option Addr}{k0 k1 k2 k3 k5:Option Value}
theorem te{M:Model}{rest:List Value}{Q:Unit→Shared→Prop}(hC:h.get? C=some (IT nm q C N bs as hdct sn sub ab col dd k0 k1 k2 k3 k5))(he:h.get? e=some (cA C t0))(hq:Q () ⟨h,g,d,t,os⟩) :
  wpAny M A (checkBuiltinCall iX ⟨.ref e::rest,[]⟩) Q E ⟨h,g,d,t,os⟩:=by
 have F:=PySem.F.excBase_Exception
 have hcB:(Value.ref C::(as.map Value.ref++js)).contains (.type "Exception")=true:=nt (iL as (by decide))
 have hshort:=F.noStar
 simp only [checkBuiltinCall,F.initKind,F.initSplit,F.initRow]
 repeat (first|with_reducible refine wpAny_loadPart_at he ?_|with_reducible refine wpAny_loadPart_at hC ?_|(with_reducible refine wpAny_isSubtype_exc hC ?_;rw[hcB])|wp_step)
 refine wpAny_onRaise ?_
 rw[show ∀(a b:String) (n:Nat),Bind.check ⟨.positional,"*","Exception",.self,[⟨"args",.varPos,false⟩]⟩ a b n (List.map (fun x=>x.fst) ({pos:=Value.ref e::rest}:Args).kw)=pure ()from
  fun a b n=>check_star_args _ _ _ _ _ _]
 exact wpAny_pure hq
theorem P6{rest:List Value}{Q:Value→Shared→Prop}(hC:h.get? C=some (IT nm q C N bs as hdct sn sub ab col dd k0 k1 k2 k3 k5))(he:h.get? e=some (cA C t0))(hrest:rest.length≤sizeLine)
  (hq:∀h',(∀b o,b≠e→h.get? b=some o→h'.get? b=some o)→h'.get? e=some (cA C h.objs.size)→Q .none ⟨h',g,d,t,os⟩):wpAny (model prog w) A (call (.builtin iX) (.ref e::rest)) Q E ⟨h,g,d,t,os⟩:=by
 have F:=PySem.F.excBase_Exception
 refine wpAny_call (codeAny_call_builtin F.init.plain F.initEntry (te hC he ?_))
 wp_walk
 refine hq _ (fun b o q x=>?_) ?_
 ·rw[Heap.get?_update_other _ _ (Ne.symm q)]
  exact Heap.get?_push_of_some _ x
 ·rw[Heap.get?_update_self _ (Heap.get?_push_of_some _ he) rfl]
  rfl
end
end
section
open PySem PySem.Builtin PySem.Builtin.ObjectAttr PySem.W PySem.Calls PyProof.Rows
theorem Of:findCls [] (.type "Exception") (.type "type") "__init__"=some (.val (.builtin iX)):=by rfl
noncomputable abbrev sS:Str:="self"
noncomputable abbrev sW:Str:="what"
noncomputable abbrev sA:Str:="at"
noncomputable abbrev uA(p1 p2 p3 p4 p5 p6 p7 p8 p9 p10 p11 p12 p13 p14:Pos):List Stmt:=
  [.Expr (.Call (.Attribute (.Name "Exception" p1) "__init__" p2) [.Name sS p3,.Name sW p4] [] p5) p6,
   .Assign [.Attribute (.Name sS p7) sW p8] (.Name sW p9) p10,
   .Assign [.Attribute (.Name sS p11) sA p12] (.Name sA p13) p14]
section
variable {prog:Program}{w:World}{A:Around}{EE:Value→Shared→Prop}{s:Shared}{base:Heap}{K:Frag}
variable {nm q:Str}{C N e t0:Addr}{bs:List Value}{as:List Addr}{hdct:Bool}{sn:List Str}{sub:List Value}{ab:Bool}{col:Option Bool}{dd:Option Addr}{k0 k1 k2 k3 k5:Option Value}
theorem QS{env:Env}{L:Addr}{m mg mb:cq}{v1 v2:Value}{p1 p2 p3 p4 p5 p6 p7 p8 p9 p10 p11 p12 p13 p14:Pos}{Q:Flow→Shared→Prop}
  (vq:K.In base) (hk:∀b o,base.get? b=some o→s.heap.get? b=some o) (hg:base.Ns mainGlobals mg) (hg0:mg "Exception"=none) (hb:base.Ns builtinsNs mb) (hb0:mb "Exception"=some (.type "Exception"))
  (hC:base.get? C=some (IT nm q C N bs as hdct sn sub ab col dd k0 k1 k2 k3 k5)) (hp:gh K C=true) (hs:findIn K (.ref C) "__setattr__"=some (some (.builtin "object.__setattr__"))) (hw:findIn K (.ref C) sW=some none) (ha:findIn K (.ref C) sA=some none)
  (be:base.get? e=none) (he:s.heap.get? e=some (cA C t0)) (hN:s.heap.Ns L m) (eL:L≠e) (bL:base.get? L=none)
  (ek:env.scope.kind=.function) (el:env.locals=L) (eg:env.globals=mainGlobals) (eb:env.builtins=builtinsNs)
  (k1':env.kindOf sS=some .local) (k2':env.kindOf sW=some .local) (k3':env.kindOf sA=some .local) (k4':env.kindOf "Exception"=some .globalImplicit)
  (m1:m sS=some (.ref e)) (m2:m sW=some v1) (m3:m sA=some v2)
  (hm:qT (.Name "Exception" p1) [.Name sS p3,.Name sW p4] p2 p5=true)
  (h:∀h' t d tk,(∀b o,b≠e→s.heap.get? b=some o→h'.get? b=some o)→h'.get? e=some (fh C t d)→Q .next {s with heap:=h',toks:=tk}) :
  wpAny (model prog w) A (execs (uA p1 p2 p3 p4 p5 p6 p7 p8 p9 p10 p11 p12 p13 p14) env) Q EE s:=by
 subst el
 (with_reducible refine wpAny_execs_cons ?_)
 (with_reducible refine wpAny_Expr ?_ ?_ ?_)
 ·refine jJ hm rfl fun pl=>?_
  have hgs:=hg.keeps hk
  have hbs:=hb.keeps hk
  (with_reducible refine Name_function_global ek k4' ?_ (by decide))
  refine loadGlobal_builtin (by rw[eg];exact hgs) hg0 (by rw[eb];exact hbs) hb0 ?_
  refine method_type (K:=[]) (eW hN) (fun _ _ e=>by cases e) ?_ ?_ Of rfl ?_
  ·rfl
  ·decide +kernel
  refine callWith_of (P:=fun _=>True) rfl (fun h _=>gE (K:=[]) (.inr (.inl ⟨_,rfl⟩)) h (fun _ _ e=>by cases e)) ?_
  refine evalArgs_plain ?_
  refine spliced_more (env:=env) (e:=.Name sS p3) (rest:=[.Name sW p4]) ?_
  (with_reducible refine wpAny_Name ?_ (by decide))
  refine wpAny_loadName_local ek k1' hN m1 ?_
  refine spliced_more (env:=env) (e:=.Name sW p4) (rest:=[]) ?_
  (with_reducible refine wpAny_Name ?_ (by decide))
  refine wpAny_loadName_local ek k2' hN m2 ?_
  refine spliced_none ⟨trivial,?_⟩
  obtain⟨hp0,g0,d0,tk0,VH⟩:=s
  refine P6 (t0:=t0) (rest:=[v1]) (hk _ _ hC) he (by rw[sizeLine_eq];simp) fun ao kk ke=>?_
  have RB:∀b o,base.get? b=some o→ao.get? b=some o:=fun b o x=>kk b o (fun q=>by rw[q,be]at x;cases x) (hk b o x)
  have aC:ao.Ns env.locals m:=let ⟨o,es,ep,x,r⟩:=hN;⟨o,es,ep,kk _ _ eL x,r⟩
  show wpAny _ _ _ _ _ _
  (with_reducible refine wpAny_execs_cons ?_)
  refine plainObj_wpAny_Assign_Attribute ?_ rfl
  (with_reducible refine wpAny_Name ?_ (by decide))
  refine wpAny_loadName_local ek k2' aC m2 ?_
  (with_reducible refine wpAny_Name ?_ (by decide))
  refine wpAny_loadName_local ek k1' aC m1 ?_
  refine Bj (vq.keeps RB) hp hs hw ke fun aK d es n zB GF RC zD RD Wb RE RF=>?_
  have VF:∀b o,base.get? b=some o→aK.get? b=some o:=fun b o x=>GF b o (fun q=>by rw[q,be]at x;cases x) (RB b o x)
  have aI:aK.Ns env.locals m:=let ⟨o,es,ep,x,r⟩:=aC;⟨o,es,ep,GF _ _ eL x,r⟩
  show wpAny _ _ _ _ _ _
  (with_reducible refine wpAny_execs_cons ?_)
  refine plainObj_wpAny_Assign_Attribute ?_ rfl
  (with_reducible refine wpAny_Name ?_ (by decide))
  refine wpAny_loadName_local ek k3' aI m3 ?_
  (with_reducible refine wpAny_Name ?_ (by decide))
  refine wpAny_loadName_local ek k1' aI m1 ?_
  refine Fy (vq.keeps VF) hp hs ha RC zD RD (by lia) RE fun bf RG RH RI=>?_
  show wpAny _ _ _ _ _ _
  (with_reducible refine wpAny_execs_nil ?_)
  refine h bf _ d RG (fun b o q x=>?_) RI
  have ve:=kk b o q x
  exact RH b o (fun z=>by rw[z,RF]at ve;cases ve) (GF b o q ve)
 ·unfold interactive
  rw[ek];rfl
 ·rfl
end
end
section
open PySem PySem.Builtin PySem.Builtin.ObjectAttr PySem.W PySem.Calls PyProof.Rows
section
variable {prog:Program}{w:World}{base:Heap}{K:Frag}
variable {nm q:Str}{C N f:Addr}{bs:List Value}{as:List Addr}{hdct:Bool}{sn:List Str}{sub:List Value}{ab:Bool}{col:Option Bool}{dd:Option Addr}{k0 k1 k2 k3 k5:Option Value}
structure wF(K:Frag)(C f:Addr)(i:ag):Prop where
 over:gh K C=true
 set:findIn K (.ref C) "__setattr__"=some (some (.builtin "object.__setattr__"))
 what:findIn K (.ref C) sW=some none
 at_:findIn K (.ref C) sA=some none
 init:findIn K (.ref C) "__init__"=some (some (.ref f))
 isFn:typeIn K (.ref f)=some (.type "function")
 fn:AD K f i
 ps:i.ps=[sS,sW,sA]
 ds:i.ds=[.none]
 body:∃p1 p2 p3 p4 p5 p6 p7 p8 p9 p10 p11 p12 p13 p14,i.body=uA p1 p2 p3 p4 p5 p6 p7 p8 p9 p10 p11 p12 p13 p14∧qT (.Name "Exception" p1) [.Name sS p3,.Name sW p4] p2 p5=true
 self:i.sc.names.lookup sS=some .local
 what':i.sc.names.lookup sW=some .local
 at':i.sc.names.lookup sA=some .local
 exc:i.sc.names.lookup ("Exception":Str)=some .globalImplicit
theorem Jn{i:ag}{mg mb:cq}{A:Around}{l:List Env}{x:Str}{t:Tok}{e t0:Addr}{s:Shared}{Q:Value→Shared→Prop}{EE:Value→Shared→Prop}
  (J:wF K C f i) (vq:K.In base) (nl:base.NoLimit) (hg:base.Ns mainGlobals mg) (hg0:mg "Exception"=none) (hb:base.Ns builtinsNs mb) (hb0:mb "Exception"=some (.type "Exception"))
  (hC:base.get? C=some (IT nm q C N bs as hdct sn sub ab col dd k0 k1 k2 k3 k5)) (hk:∀b o,base.get? b=some o→s.heap.get? b=some o) (hfr:A.frames=some l) (hh:A.handled=none) (hd:A.depth < recursionLimit) (hx:PyData.strOk x=true)
  (be:base.get? e=none) (he:s.heap.get? e=some (cA C t0))
  (h:∀h' t d tk,(∀b o,b≠e→s.heap.get? b=some o→h'.get? b=some o)→h'.get? e=some (fh C t d)→Q .none {s with heap:=h',toks:=tk}):wpAny (model prog w) A (call (.ref f) [.ref e,.str x t]) Q EE s:=by
 have Fo:=J.fn
 refine cps fun G0 kk=>?_
 refine N3 Fo.obj fun Z hK hcd hbind _=>?_
 refine kk ?_
 have Xh:=vq.keeps hk
 have hb':jE i.ps [.glob e,.str false x] i.ds=some [(sS,.glob e),(sW,.str false x),(sA,.none)]:=by rw[J.ps,J.ds];rfl
 refine av (hbind s [.glob e,.str false x] [.ref e,.str x t] _ (pm w fun _=>.none) (fun _ _=>False) [] Xh hb' (.cons .glob (.cons (.str hx) .nil))) fun bs' hbs hfb=>?_
 have hbn:bs'.map (·.1)=i.ps:=by rw[←hfb.names];exact ml _ hb'
 have hloc:∀x∈bs',x.1∈i.ps:=fun x hx=>by rw[←hbn];exact List.mem_map.mpr ⟨x,hx,rfl⟩
 refine wpAny_call ?_
 refine codeAny_call_function hd (Xh _ _ hK) rfl Fo.co Fo.gen rfl (codeRec_of Xh hcd) (hbs _ _ _ _ ?_)
 refine wpAny_newFunctionEnv_cells Fo.kind (fun x hx=>?_) fun env' he' s' y=>?_
 ·exact(Fo.locs x.1 (hloc x hx)).1.imp id fun q=>⟨q.1,q.2 _⟩
 subst he'
 refine⟨(nl.keeps hk).keeps y.toInCall.keep,codeAny_func ?_⟩
 refine bq y.done fun ao tk rq2 _=>?_;subst rq2
 have gL:=y.toInCall.keep
 obtain⟨p1,p2,p3,p4,p5,p6,p7,p8,p9,p10,p11,p12,p13,p14,hbody,hm⟩:=J.body
 have look:∀{z:Str} {v:V},([(sS,.glob e),(sW,.str false x),(sA,.none)]:List (Str×V)).lookup z=some v→i.sc.names.lookup z=some .local→∃r,bindL (envX Z.qual i.sc s.heap.objs.size f Z.cdv (cellsFrom (s.heap.objs.size+1) i.sc.names [])).kindOf bs' (fun _=>none) z=some r∧aj (pm w fun _=>.none) (fun _ _=>False) [] v r:=by
  intro z v hz hl
  refine av (hfb.look hz) fun r h1 h2=>?_
  exact⟨r,sQ (by rw[hbn];exact Fo.nodup) (cj h1) hl,h2⟩
 refine av (look (z:=sS) rfl J.self) fun r1 e1 g1=>?_
 refine av (look (z:=sW) rfl J.what') fun r2 e2 g2=>?_
 refine av (look (z:=sA) rfl J.at') fun r3 e3 g3=>?_
 cases g1
 have eL:s.heap.objs.size≠e:=fun q=>by rw[←q]at he;exact absurd (Heap.lt_size he) (Nat.lt_irrefl _)
 show wpAny _ _ (execs i.body _) _ _ _
 rw[hbody]
 refine QS (s:={s with heap:=ao,toks:=tk}) vq (fun b o z=>gL _ _ (hk b o z)) hg hg0 hb hb0 hC J.over J.set J.what J.at_ be (gL _ _ he) y.toInCall.ns eL (j0 hk (Nat.le_refl _)) Fo.kind rfl rfl rfl J.self J.what' J.at' J.exc e1 e2 e3 hm fun h' t' d tk' kk ke=>?_
 exact h h' t' d tk' (fun b o z w=>kk b o z (gL _ _ w)) ke
theorem HC{i:ag}{mg mb:cq}(J:wF K C f i)(vq:K.In base)(nl:base.NoLimit)(hg:base.Ns mainGlobals mg)(hg0:mg "Exception"=none)(hb:base.Ns builtinsNs mb)(hb0:mb "Exception"=some (.type "Exception"))
  (hC:base.get? C=some (IT nm q C N bs as hdct sn sub ab col dd k0 k1 k2 k3 k5)) (keep:keepIn K (.ref C)=true):Ed prog w base K C where
 cls:=⟨⟨nm,q,N,bs,_,hdct,sn,sub,ab,col,dd,k0,k1,k2,k3,k5,_⟩,hC,iL as (by decide)⟩
 keep:=keep
 make:=by
  intro A l x t s Q EE hk hfr hh hd hu hx hq
  obtain⟨h,g,d,tk,os⟩:=s
  have hC':=hk _ _ hC
  have f1:=tc_lookup
  have f2:=tc_bind (.ref C)
  have hT:(⟨h,g,d,tk,os⟩:Shared).TypeIs (.ref C) "type":=⟨_,hC',rfl⟩
  refine wpAny_call (codeAny_of_tree ?_)
  show wpAny _ _ (callAny (.ref C) _) _ _ _
  repeat (any_goals (first|assumption|with_reducible refine wpAny_loadPart_at hC' ?_|wp_step))
  refine⟨rfl,?_⟩
  have up:∀b o,h.get? b=some o→((h.push {cls:=.type "tuple",data:=.seq [Value.str x t].toArray}).push (cA C h.objs.size)).get? b=some o:=fun b o e=>Heap.get?_push_of_some _ (Heap.get?_push_of_some _ e)
  have fe:h.get? (h.objs.size+1)=none:=Heap.get?_none_of_le (Nat.le_succ _)
  refine codeAny_call_builtin_at (Code.quiet_builtin _ (by decide +kernel)) entry_typeCall (wpAny_check_type_call_sub hC' (Bg (vq.keeps hk) hC' J.init J.isFn ?_ (by rw[sizeLine_eq];simp)))
  have hget:((h.push {cls:=.type "tuple",data:=.seq [Value.str x t].toArray}).push (cA C h.objs.size)).get? (h.objs.size+1)=some (cA C h.objs.size):=by
   have:=@Heap.get?_push_size (h.push {cls:=.type "tuple",data:=.seq [Value.str x t].toArray}) (cA C h.objs.size) rfl
   rwa [Heap.size_push]at this
  refine Jn (l:=l) J vq nl hg hg0 hb hb0 hC (fun b o z=>up _ _ (hk _ _ z)) ?_ ?_ ?_ hx (fR hk fe) hget fun h' t' d' tk' kk ke=>?_
  ·first|exact hfr|exact(kG _).trans hfr
  ·exact hh
  ·show A.depth+Code.weight (Code.builtin "type.__call__" ⟨[.ref C,.str x t],[]⟩) < _
   have w1:(Code.builtin "type.__call__" ⟨[.ref C,.str x t],[]⟩).weight=1:=by kernel_rfl
   rw[w1];lia
  ·refine⟨rfl,?_⟩
   have:=hq (h.objs.size+1) t' d' h' tk' ke fe fun b o z=>kk b o (fun z'=>by rw[z',fe]at z;cases z) (up _ _ z)
   exact this
end
end
inductive nE(α:Type) where
 |leaf
 |one (k:Nat) (v:α)
 |node (k:Nat) (l r:nE α)
noncomputable def UA(x:Str)(y:List Nat)(v:V):Option V:=match gW x.cps.toList y with
 |true=>some v
 |false=>none
noncomputable def nE.get{α:Type}(t:nE α):Nat→Option α:=@nE.rec α (fun _=>Nat→Option α) (fun _=>none) (fun k v a=>match Nat.beq a k with
 |true=>some v
 |false=>none) (fun k _ _ gl gr a=>match Nat.blt a k with
 |true=>gl a
 |false=>gr a) t
noncomputable def nE.getG(x:Str)(t:nE (List Nat×V)):Nat→Option V:=@nE.rec (List Nat×V) (fun _=>Nat→Option V) (fun _=>none) (fun _ p _=>UA x p.1 p.2) (fun k _ _ gl gr a=>match Nat.blt a k with
 |true=>gl a
 |false=>gr a) t
noncomputable def nE.list{α:Type}(t:nE α):List (Nat×α):=@nE.rec α (fun _=>List (Nat×α)) [] (fun k v=>[(k,v)]) (fun _ _ _ a b=>a++b) t
set_option tactic.hygienic true in
theorem nE.get_mem{α:Type}{t:nE α}{a:Nat}{v:α}(e:t.get a=some v):(a,v)∈t.list:=by
  induction t with
  |leaf=>cases e
  | one k u=>
    show(a,v)∈[(k,u)]
    have e:(match Nat.beq a k with|true=>some u|false=>none)=some v:=e
    cases h:Nat.beq a k with
    |true=>rw[h]at e;cases e;rw[Nat.eq_of_beq_eq_true h];exact .head _
    |false=>rw[h]at e;cases e
  | node k l r ih1 ih2=>
    show(a,v)∈l.list++r.list
    have e:(match Nat.blt a k with|true=>l.get a|false=>r.get a)=some v:=e
    cases h:Nat.blt a k with
    |true=>rw[h]at e;exact List.mem_append_left _ (ih1 e)
    |false=>rw[h]at e;exact List.mem_append_right _ (ih2 e)
theorem nE.getG_mem{x:Str}{t:nE (List Nat×V)}{a:Nat}{v:V}(e:t.getG x a=some v):∃k y,(k,(y,v))∈t.list∧gW x.cps.toList y=true:=by
  induction t with
  |leaf=>cases e
  | one k p=>
    have e:(match gW x.cps.toList p.1 with|true=>some p.2|false=>none)=some v:=e
    cases h:gW x.cps.toList p.1 with
    |true=>rw[h]at e;cases e;exact⟨k,p.1,.head _,h⟩
    |false=>rw[h]at e;cases e
  | node k l r ih1 ih2=>
    have e:(match Nat.blt a k with|true=>l.getG x a|false=>r.getG x a)=some v:=e
    cases h:Nat.blt a k with
    |true=>rw[h]at e;exact(ih1 e).elim fun k q=>q.elim fun y q=>⟨k,y,List.mem_append_left _ q.1,q.2⟩
    |false=>rw[h]at e;exact(ih2 e).elim fun k q=>q.elim fun y q=>⟨k,y,List.mem_append_right _ q.1,q.2⟩
noncomputable def aq:List Stmt→Nat→Stmt
  |[],_=>.Pass ⟨0,0,0,0⟩
  | x::r,n=>match n with
    |0=>x
    |n+1=>aq r n
noncomputable def aD:Stmt→List Stmt
 |.FunctionDef _ _ b _ _ _ _ _ _ _=>b
 |.ClassDef _ _ _ b _ _ _ _ _ _ _=>b
 |_=>[]
noncomputable def Ub:Stmt→Scope
 |.FunctionDef _ _ _ _ _ _ s _ _ _=>s
 |_=>⟨.module,[],false,false,[]⟩
noncomputable def Dk:List Arg→List Str
 |[]=>[]
 |a::r=>a.arg::Dk r
noncomputable def MD:Stmt→List Str
 |.FunctionDef _ a _ _ _ _ _ _ _ _=>Dk a.args
 |_=>[]
noncomputable def bw(st:Stmt)(ds:List V):ag:=⟨MD st,ds,aD st,Ub st⟩
noncomputable def Wk:ag:=bw (aq pw.main.body 0) []
noncomputable def Sl:ag:=bw (aq (aD (aq pw.main.body 2)) 0) [.none]
noncomputable def WC:ag:=bw (aq (aD (aq pw.main.body 2)) 1) []
noncomputable def We:ag:=bw (aq pw.main.body 6) []
noncomputable def Wq:ag:=bw (aq pw.main.body 7) []
noncomputable def U3:ag:=bw (aq pw.main.body 8) []
noncomputable def Su:ag:=bw (aq pw.main.body 9) []
noncomputable def H0:ag:=bw (aq pw.main.body 10) []
noncomputable def Ht:ag:=bw (aq pw.main.body 19) []
noncomputable def Hq:ag:=bw (aq pw.main.body 20) []
noncomputable def SX:ag:=bw (aq pw.main.body 21) []
noncomputable def SW:ag:=bw (aq pw.main.body 22) []
noncomputable def Hh:ag:=bw (aq pw.main.body 23) []
noncomputable def TG:ag:=bw (aq (aD (aq pw.main.body 24)) 0) [(.str true (PySem.Str.ofString "")),(.bool true false),(.int true (0)),(.bool true false),(.int true (-1))]
noncomputable def Ts:ag:=bw (aq (aD (aq pw.main.body 24)) 1) []
noncomputable def Un:ag:=bw (aq (aD (aq pw.main.body 24)) 2) []
noncomputable def UI:ag:=bw (aq (aD (aq pw.main.body 24)) 3) []
noncomputable def Vb:ag:=bw (aq (aD (aq pw.main.body 24)) 4) []
noncomputable def G6:ag:=bw (aq (aD (aq pw.main.body 24)) 5) []
noncomputable def I4:ag:=bw (aq pw.main.body 25) []
noncomputable def IU:ag:=bw (aq pw.main.body 26) []
noncomputable def mv:ag:=bw (aq pw.main.body 27) []
noncomputable def U9:ag:=bw (aq pw.main.body 32) []
noncomputable def Tq:ag:=bw (aq pw.main.body 33) []
noncomputable def Ul:ag:=bw (aq pw.main.body 34) []
noncomputable def Ve:ag:=bw (aq pw.main.body 35) []
noncomputable def Sh:ag:=bw (aq pw.main.body 36) []
noncomputable def Sa:ag:=bw (aq pw.main.body 37) []
noncomputable def SV:ag:=bw (aq pw.main.body 38) []
noncomputable def Si:ag:=bw (aq (aD (aq pw.main.body 39)) 0) [(.int true (0)),(.int true (-1)),(.int true (0)),(.int true (0)),(.bool true false)]
noncomputable def TL:ag:=bw (aq (aD (aq pw.main.body 39)) 1) []
noncomputable def R8:ag:=bw (aq (aD (aq pw.main.body 39)) 2) []
noncomputable def Uh:ag:=bw (aq (aD (aq pw.main.body 39)) 3) []
noncomputable def TC:ag:=bw (aq (aD (aq pw.main.body 39)) 4) []
noncomputable def Tn:ag:=bw (aq (aD (aq pw.main.body 39)) 5) []
noncomputable def Ua:ag:=bw (aq (aD (aq pw.main.body 39)) 6) []
noncomputable def GL:ag:=bw (aq pw.main.body 40) []
noncomputable def Ib:ag:=bw (aq pw.main.body 41) []
noncomputable def UJ:ag:=bw (aq pw.main.body 44) []
noncomputable def U0:ag:=bw (aq pw.main.body 45) []
noncomputable def Uw:ag:=bw (aq pw.main.body 46) []
noncomputable def Uj:ag:=bw (aq pw.main.body 47) []
noncomputable def UN:ag:=bw (aq pw.main.body 48) []
noncomputable def UX:ag:=bw (aq pw.main.body 49) []
noncomputable def Vn:ag:=bw (aq pw.main.body 50) []
noncomputable def UD:ag:=bw (aq pw.main.body 51) [(.int true (0))]
noncomputable def UL:ag:=bw (aq pw.main.body 52) [(.int true (0))]
noncomputable def TQ:ag:=bw (aq pw.main.body 53) []
noncomputable def Vi:ag:=bw (aq pw.main.body 54) []
noncomputable def UW:ag:=bw (aq pw.main.body 55) []
noncomputable def Uv:ag:=bw (aq pw.main.body 56) []
noncomputable def Sd:ag:=bw (aq pw.main.body 57) []
noncomputable def TJ:ag:=bw (aq pw.main.body 58) []
noncomputable def SA:ag:=bw (aq pw.main.body 59) []
noncomputable def UB:ag:=bw (aq pw.main.body 60) []
noncomputable def UY:ag:=bw (aq (aD (aq pw.main.body 62)) 0) []
noncomputable def T8:ag:=bw (aq (aD (aq pw.main.body 62)) 1) []
noncomputable def T1:ag:=bw (aq (aD (aq pw.main.body 62)) 2) []
noncomputable def Uq:ag:=bw (aq (aD (aq pw.main.body 62)) 3) []
noncomputable def TS:ag:=bw (aq (aD (aq pw.main.body 63)) 0) []
noncomputable def SM:ag:=bw (aq (aD (aq pw.main.body 63)) 1) []
noncomputable def TN:ag:=bw (aq (aD (aq pw.main.body 63)) 2) []
noncomputable def SG:ag:=bw (aq (aD (aq pw.main.body 64)) 0) [(.str true (PySem.Str.ofString ""))]
noncomputable def Sk:ag:=bw (aq (aD (aq pw.main.body 64)) 1) []
noncomputable def Uz:ag:=bw (aq (aD (aq pw.main.body 64)) 2) []
noncomputable def Tz:ag:=bw (aq (aD (aq pw.main.body 65)) 0) [(.str true (PySem.Str.ofString ""))]
noncomputable def Vc:ag:=bw (aq (aD (aq pw.main.body 65)) 1) []
noncomputable def Se:ag:=bw (aq (aD (aq pw.main.body 65)) 2) []
noncomputable def Ur:ag:=bw (aq (aD (aq pw.main.body 65)) 3) []
noncomputable def T5:ag:=bw (aq (aD (aq pw.main.body 66)) 0) [(.int true (0)),(.str true (PySem.Str.ofString "")),(.str true (PySem.Str.ofString ""))]
noncomputable def Vg:ag:=bw (aq (aD (aq pw.main.body 66)) 1) []
noncomputable def Sy:ag:=bw (aq (aD (aq pw.main.body 66)) 2) []
noncomputable def TU:ag:=bw (aq (aD (aq pw.main.body 66)) 3) []
noncomputable def Va:ag:=bw (aq (aD (aq pw.main.body 66)) 4) []
noncomputable def SK:ag:=bw (aq (aD (aq pw.main.body 66)) 5) []
noncomputable def Tj:ag:=bw (aq (aD (aq pw.main.body 67)) 0) [(.str true (PySem.Str.ofString ""))]
noncomputable def S5:ag:=bw (aq (aD (aq pw.main.body 67)) 1) []
noncomputable def SO:ag:=bw (aq (aD (aq pw.main.body 67)) 2) []
noncomputable def SS:ag:=bw (aq (aD (aq pw.main.body 67)) 3) []
noncomputable def Sr:ag:=bw (aq (aD (aq pw.main.body 67)) 4) []
noncomputable def TZ:ag:=bw (aq (aD (aq pw.main.body 67)) 5) []
noncomputable def TK:ag:=bw (aq (aD (aq pw.main.body 74)) 0) []
noncomputable def Tg:ag:=bw (aq (aD (aq pw.main.body 74)) 1) []
noncomputable def UH:ag:=bw (aq (aD (aq pw.main.body 74)) 2) []
noncomputable def Vp:ag:=bw (aq (aD (aq pw.main.body 74)) 3) []
noncomputable def Ui:ag:=bw (aq (aD (aq pw.main.body 74)) 4) []
noncomputable def UE:ag:=bw (aq (aD (aq pw.main.body 74)) 5) []
noncomputable def T7:ag:=bw (aq pw.main.body 75) []
noncomputable def Vd:ag:=bw (aq pw.main.body 76) []
noncomputable def Il:ag:=bw (aq pw.main.body 77) []
noncomputable def Jl:ag:=bw (aq pw.main.body 78) []
noncomputable def Tf:ag:=bw (aq pw.main.body 79) []
noncomputable def SY:ag:=bw (aq pw.main.body 80) []
noncomputable def Sj:ag:=bw (aq pw.main.body 86) []
noncomputable def IA:ag:=bw (aq pw.main.body 87) []
noncomputable def UT:ag:=bw (aq pw.main.body 88) []
noncomputable def He:ag:=bw (aq pw.main.body 89) []
noncomputable def Vm:ag:=bw (aq pw.main.body 90) []
noncomputable def HO:ag:=bw (aq pw.main.body 91) []
noncomputable def DF:ag:=bw (aq pw.main.body 92) []
noncomputable def T2:ag:=bw (aq (aD (aq pw.main.body 99)) 0) []
noncomputable def Us:ag:=bw (aq (aD (aq pw.main.body 99)) 1) []
noncomputable def Uk:ag:=bw (aq (aD (aq pw.main.body 100)) 0) []
noncomputable def S8:ag:=bw (aq (aD (aq pw.main.body 100)) 1) []
noncomputable def TX:ag:=bw (aq (aD (aq pw.main.body 100)) 2) []
noncomputable def UO:ag:=bw (aq (aD (aq pw.main.body 100)) 3) []
noncomputable def TY:ag:=bw (aq (aD (aq pw.main.body 100)) 4) []
noncomputable def Te:ag:=bw (aq (aD (aq pw.main.body 100)) 5) []
noncomputable def Sf:ag:=bw (aq pw.main.body 101) []
noncomputable def UZ:ag:=bw (aq pw.main.body 102) []
noncomputable def Hc:ag:=bw (aq pw.main.body 103) []
noncomputable def TM:ag:=bw (aq pw.main.body 104) []
noncomputable def tG:ag:=bw (aq pw.main.body 105) []
noncomputable def OV:ag:=bw (aq pw.main.body 106) []
noncomputable def P9:ag:=bw (aq pw.main.body 107) []
noncomputable def QA:ag:=bw (aq pw.main.body 108) []
noncomputable def Oq:ag:=bw (aq pw.main.body 109) []
noncomputable def OK:ag:=bw (aq pw.main.body 110) []
noncomputable def PJ:ag:=bw (aq pw.main.body 111) []
noncomputable def Qf:ag:=bw (aq pw.main.body 112) []
noncomputable def Pu:ag:=bw (aq pw.main.body 113) []
noncomputable def QD:ag:=bw (aq pw.main.body 114) []
noncomputable def Ph:ag:=bw (aq pw.main.body 115) []
noncomputable def nQ:ag:=bw (aq pw.main.body 116) [(.int true (0))]
noncomputable def Qs:ag:=bw (aq pw.main.body 118) []
noncomputable def P5:ag:=bw (aq (aD (aq pw.main.body 119)) 0) []
noncomputable def Qg:ag:=bw (aq (aD (aq pw.main.body 119)) 1) []
noncomputable def OY:ag:=bw (aq (aD (aq pw.main.body 119)) 2) []
noncomputable def NW:ag:=bw (aq (aD (aq pw.main.body 119)) 3) []
noncomputable def hY:ag:=bw (aq (aD (aq pw.main.body 119)) 4) []
noncomputable def OM:ag:=bw (aq (aD (aq pw.main.body 119)) 5) []
noncomputable def OJ:ag:=bw (aq (aD (aq pw.main.body 119)) 6) []
noncomputable def Qt:ag:=bw (aq (aD (aq pw.main.body 119)) 7) []
noncomputable def QU:ag:=bw (aq (aD (aq pw.main.body 119)) 8) []
noncomputable def zg:ag:=bw (aq pw.main.body 121) []
noncomputable def zf:ag:=bw (aq pw.main.body 122) []
noncomputable def yi:ag:=bw (aq pw.main.body 123) []
noncomputable def Kv:ag:=bw (aq pw.main.body 124) []
noncomputable def yC:ag:=bw (aq pw.main.body 125) []
noncomputable def yN:ag:=bw (aq pw.main.body 126) []
noncomputable def zh:ag:=bw (aq pw.main.body 127) []
noncomputable def yS:ag:=bw (aq pw.main.body 128) []
noncomputable def tU:ag:=bw (aq pw.main.body 129) []
noncomputable def yV:ag:=bw (aq pw.main.body 130) []
noncomputable def yl:ag:=bw (aq pw.main.body 131) []
noncomputable def yU:ag:=bw (aq pw.main.body 132) []
noncomputable def zi:ag:=bw (aq pw.main.body 133) []
noncomputable def v8:nE (ag):=(.node 670 (.node 351 (.node 205 (.node 134 (.node 99 (.node 43 (.node 36 (.one 21 Wk) (.one 36 Sl)) (.node 92 (.one 43 WC) (.one 92 We))) (.node 113 (.node 106 (.one 99 Wq) (.one 106 U3)) (.node 120 (.one 113 Su) (.node 127 (.one 120 H0) (.one 127 Ht))))) (.node 170 (.node 148 (.node 141 (.one 134 Hq) (.one 141 SX)) (.node 155 (.one 148 SW) (.one 155 Hh))) (.node 184 (.node 177 (.one 170 TG) (.one 177 Ts)) (.node 191 (.one 184 Un) (.node 198 (.one 191 UI) (.one 198 Vb)))))) (.node 275 (.node 240 (.node 226 (.node 219 (.one 205 G6) (.one 219 I4)) (.node 233 (.one 226 IU) (.one 233 mv))) (.node 254 (.node 247 (.one 240 U9) (.one 247 Tq)) (.node 261 (.one 254 Ul) (.node 268 (.one 261 Ve) (.one 268 Sh))))) (.node 309 (.node 295 (.node 282 (.one 275 Sa) (.one 282 SV)) (.node 302 (.one 295 Si) (.one 302 TL))) (.node 323 (.node 316 (.one 309 R8) (.one 316 Uh)) (.node 330 (.one 323 TC) (.node 337 (.one 330 Tn) (.one 337 Ua))))))) (.node 479 (.node 415 (.node 379 (.node 365 (.node 358 (.one 351 GL) (.one 358 Ib)) (.node 372 (.one 365 UJ) (.one 372 U0))) (.node 393 (.node 386 (.one 379 Uw) (.one 386 Uj)) (.node 400 (.one 393 UN) (.node 407 (.one 400 UX) (.one 407 Vn))))) (.node 444 (.node 430 (.node 423 (.one 415 UD) (.one 423 UL)) (.node 437 (.one 430 TQ) (.one 437 Vi))) (.node 458 (.node 451 (.one 444 UW) (.one 451 Uv)) (.node 465 (.one 458 Sd) (.node 472 (.one 465 TJ) (.one 472 SA)))))) (.node 576 (.node 514 (.node 500 (.node 493 (.one 479 UB) (.one 493 UY)) (.node 507 (.one 500 T8) (.one 507 T1))) (.node 542 (.node 535 (.one 514 Uq) (.one 535 TS)) (.node 549 (.one 542 SM) (.node 569 (.one 549 TN) (.one 569 SG))))) (.node 624 (.node 603 (.node 583 (.one 576 Sk) (.one 583 Uz)) (.node 610 (.one 603 Tz) (.node 617 (.one 610 Vc) (.one 617 Se)))) (.node 651 (.node 644 (.one 624 Ur) (.one 644 T5)) (.node 658 (.one 651 Vg) (.node 663 (.one 658 Sy) (.one 663 TU)))))))) (.node 987 (.node 828 (.node 758 (.node 709 (.node 697 (.node 677 (.one 670 Va) (.one 677 SK)) (.node 702 (.one 697 Tj) (.one 702 S5))) (.node 723 (.node 716 (.one 709 SO) (.one 716 SS)) (.node 730 (.one 723 Sr) (.node 751 (.one 730 TZ) (.one 751 TK))))) (.node 786 (.node 772 (.node 765 (.one 758 Tg) (.one 765 UH)) (.node 779 (.one 772 Vp) (.one 779 Ui))) (.node 807 (.node 800 (.one 786 UE) (.one 800 T7)) (.node 814 (.one 807 Vd) (.node 821 (.one 814 Il) (.one 821 Jl)))))) (.node 898 (.node 856 (.node 842 (.node 835 (.one 828 Tf) (.one 835 SY)) (.node 849 (.one 842 Sj) (.one 849 IA))) (.node 870 (.node 863 (.one 856 UT) (.one 863 He)) (.node 877 (.one 870 Vm) (.node 884 (.one 877 HO) (.one 884 DF))))) (.node 947 (.node 926 (.node 905 (.one 898 T2) (.one 905 Us)) (.node 933 (.one 926 Uk) (.node 940 (.one 933 S8) (.one 940 TX)))) (.node 961 (.node 954 (.one 947 UO) (.one 954 TY)) (.node 975 (.one 961 Te) (.node 980 (.one 975 Sf) (.one 980 UZ))))))) (.node 1113 (.node 1050 (.node 1015 (.node 1001 (.node 994 (.one 987 Hc) (.one 994 TM)) (.node 1008 (.one 1001 tG) (.one 1008 OV))) (.node 1029 (.node 1022 (.one 1015 P9) (.one 1022 QA)) (.node 1036 (.one 1029 Oq) (.node 1043 (.one 1036 OK) (.one 1043 PJ))))) (.node 1075 (.node 1062 (.node 1055 (.one 1050 Qf) (.one 1055 Pu)) (.node 1067 (.one 1062 QD) (.one 1067 Ph))) (.node 1094 (.node 1080 (.one 1075 nQ) (.one 1080 Qs)) (.node 1099 (.one 1094 P5) (.node 1106 (.one 1099 Qg) (.one 1106 OY)))))) (.node 1183 (.node 1141 (.node 1127 (.node 1120 (.one 1113 NW) (.one 1120 hY)) (.node 1134 (.one 1127 OM) (.one 1134 OJ))) (.node 1162 (.node 1148 (.one 1141 Qt) (.one 1148 QU)) (.node 1169 (.one 1162 zg) (.node 1176 (.one 1169 zf) (.one 1176 yi))))) (.node 1218 (.node 1197 (.node 1190 (.one 1183 Kv) (.one 1190 yC)) (.node 1204 (.one 1197 yN) (.node 1211 (.one 1204 zh) (.one 1211 yS)))) (.node 1232 (.node 1225 (.one 1218 tU) (.one 1225 yV)) (.node 1237 (.one 1232 yl) (.node 1244 (.one 1237 yU) (.one 1244 zi)))))))))
noncomputable def HV(a:Addr):Option ag:=v8.get a
noncomputable def Lk:List Nat→Nat→Nat
 |[],h=>h
 |c::r,h=>Lk r (h*2097152+c+1)
noncomputable def o7:nE (List Nat×V):=(.node 29183283605264840665087744005581412723534796012126323 (.node 3123492626388033541645978128351301 (.node 532163858530414 (.node 365038074331245 (.node 347445842149457 (.node 325455672508526 (.node 150995028 (.one 0 ([70,83],((.int true (100))))) (.one 0 ([71,83],((.int true (101)))))) (.node 343047841775726 (.one 0 ([73,109,109],((.glob 586)))) (.one 0 ([77,101,109],((.glob 680)))))) (.node 365038007222361 (.node 365038007222353 (.one 0 ([78,79,80],((.int true (144))))) (.one 0 ([82,69,80],((.int true (243)))))) (.node 365038074331240 (.one 0 ([82,69,88],((.int true (64))))) (.one 0 ([82,101,103],((.glob 552))))))) (.node 479387275231352 (.node 457397074133107 (.node 431008790872186 (.one 0 ([82,101,108],((.glob 627)))) (.one 0 ([97,110,121],(.blt .any)))) (.node 466193162961013 (.one 0 ([103,112,114],((.glob 814)))) (.one 0 ([105,110,116],(.typ .int))))) (.node 505775571075185 (.node 479387283619951 (.one 0 ([108,97,119],((.glob 1244)))) (.one 0 ([108,101,110],(.blt .len)))) (.node 510173640654963 (.one 0 ([114,105,112],((.glob 835)))) (.one 0 ([115,116,114],(.typ .str))))))) (.node 1106805150198127394929 (.node 710199998681681231948 (.node 654859766460571451461 (.node 540959943164017 (.one 0 ([120,109,109],((.glob 828)))) (.one 0 ([122,105,112],(.typ .zip)))) (.node 654859907198139498606 (.one 0 ([70,79,76,68],((.str true (PySem.Str.ofString "add or adc sbb and sub xor cmp"))))) (.one 0 ([70,111,114,109],((.glob 340)))))) (.node 1005348018210344009845 (.node 968454530062899740777 (.one 0 ([76,79,67,75],((.int true (240))))) (.one 0 ([104,105,103,104],((.glob 821))))) (.node 1014571355062826696812 (.one 0 ([108,105,115,116],(.typ .list))) (.one 0 ([109,97,115,107],((.glob 92))))))) (.node 1856911165733145843708461165 (.node 1508740160749202788608639045 (.node 1373340791770433989554208870 (.one 0 ([119,114,97,112],((.glob 99)))) (.one 0 ([70,114,97,109,101],((.glob 964))))) (.node 1605454134084626365777182790 (.one 0 ([77,79,86,69,68],((.str true (PySem.Str.ofString "movsb movsw movsd movsq stosb stosw stosd stosq lodsb lodsw lodsd lodsq"))))) (.one 0 ([82,69,80,78,69],((.int true (242))))))) (.node 2224424411981865476608229478 (.node 1914939623521475680672940148 (.one 0 ([95,119,97,108,108],((.glob 21)))) (.one 0 ([98,121,116,101,115],(.typ .bytes)))) (.node 2263110222676983143397851238 (.one 0 ([114,97,110,103,101],(.typ .range))) (.node 2839538969308162611003003349499974 (.one 0 ([116,117,112,108,101],(.typ .tuple))) (.one 0 ([69,83,67,65,80,69],((.int true (15))))))))))) (.node 14094076580133572078187388447312980851201933363 (.node 6720579991875928148345810615490492497990 (.node 4583826620764389919901833807003749 (.node 4299873079741360778849879148462201 (.node 4097048712905497374408424778891366 (.one 0 ([76,79,67,75,69,68],((.str true (PySem.Str.ofString "add adc and or sbb sub xor inc dec neg not xchg xadd cmpxchg bts btr btc"))))) (.one 0 ([100,101,99,111,100,101],((.glob 1075))))) (.node 4583826466021940349492306898845797 (.one 0 ([105,115,95,114,101,120],((.glob 141)))) (.one 0 ([112,97,105,114,101,100],((.glob 407)))))) (.node 5869874966999681922028379982447440298085 (.node 4705521078386336835946858873356389 (.one 0 ([112,105,99,107,101,100],((.glob 994)))) (.one 0 ([115,105,103,110,101,100],((.glob 106))))) (.node 6720579423968111075490659927040567803961 (.one 0 ([68,101,99,111,100,101,100],((.glob 908)))) (.one 0 ([78,65,77,69,83,95,56],((.str true (PySem.Str.ofString "al cl dl bl spl bpl sil dil")))))))) (.node 9868193062274675432649900402027840667751 (.node 9187628206738321540852440856824324816999 (.node 6805651922245312662543307250774365438053 (.one 0 ([78,79,95,66,65,83,69],((.int true (5))))) (.one 0 ([79,112,101,114,97,110,100],((.glob 517))))) (.node 9783122186590725708335434077218457780340 (.one 0 ([107,105,110,100,95,111,102],((.glob 386)))) (.one 0 ([114,101,112,101,97,116,115],((.glob 358)))))) (.node 12131612193651161465229638139362471946659823685 (.node 9868193183969191082999264447911734280295 (.one 0 ([115,108,111,116,95,111,102],((.glob 282)))) (.one 0 ([115,111,114,116,95,111,102],((.glob 155))))) (.node 12666830333627752740910729419478342890900422737 (.one 0 ([67,79,77,80,65,82,69,68],((.str true (PySem.Str.ofString "cmpsb cmpsw cmpsd cmpsq scasb scasw scasd scasq"))))) (.node 14094076580133572078187388447312980851197739063 (.one 0 ([70,82,79,77,95,82,73,80],((.int true (5))))) (.one 0 ([78,65,77,69,83,95,49,54],((.str true (PySem.Str.ofString "ax cx dx bx sp bp si di")))))))))) (.node 17840604495746990773009851205906802583829217388 (.node 14807700766768675550817122327822536372853407827 (.node 14094077771122586468295113235597726299126235225 (.node 14094076580133572078187388447312980851208224821 (.one 0 ([78,65,77,69,83,95,51,50],((.str true (PySem.Str.ofString "eax ecx edx ebx esp ebp esi edi"))))) (.one 0 ([78,65,77,69,83,95,54,52],((.str true (PySem.Str.ofString "rax rcx rdx rbx rsp rbp rsi rdi")))))) (.node 14450892671770030386247425681865464108837503092 (.one 0 ([78,79,95,73,78,68,69,88],((.int true (4))))) (.one 0 ([80,114,101,102,105,120,101,115],((.glob 208)))))) (.node 15699730914992794740047366763100726870818160707 (.node 14807703489028908993158434056517264505439256691 (.one 0 ([82,69,71,73,83,84,69,82],((.int true (3))))) (.one 0 ([82,101,103,105,115,116,101,114],((.glob 789))))) (.node 17126981585169992522876015196859335569968201830 (.one 0 ([87,73,84,72,95,83,73,66],((.int true (4))))) (.one 0 ([95,108,97,119,95,100,117,101],((.glob 1176))))))) (.node 18375823061076702959585735333617505949297148017 (.node 18375823061076094487162226137824743277738328181 (.node 17840605686734869348218457237555987940028448871 (.one 0 ([99,97,110,95,108,111,99,107],((.glob 351)))) (.one 0 ([99,111,100,101,115,95,111,102],((.glob 1080))))) (.node 18375823061076702959585735333617501551250636901 (.one 0 ([102,105,101,108,100,95,97,116],((.glob 1036)))) (.one 0 ([102,105,116,115,95,109,111,100],((.glob 980)))))) (.node 19981476204947357444097812664283346698164502645 (.node 18911041796546503355873941382193700900960206949 (.one 0 ([102,105,116,115,95,110,111,112],((.glob 987)))) (.one 0 ([105,115,95,102,105,120,101,100],((.glob 240))))) (.node 20516694259853438119124673803173945584549625972 (.one 0 ([111,99,116,101,116,95,97,116],((.glob 863)))) (.node 21408724408076867706621822074445525971527270521 (.one 0 ([114,101,120,95,98,105,116,115],((.glob 134)))) (.one 0 ([119,105,116,104,95,114,101,120],((.glob 219))))))))))) (.node 171132564194784778763650239854301815166690425558168588721198202996 (.node 84740913087048423993493174440823462166386199832316642066537 (.node 41155904304655665947237836165824490633970997646065767 (.node 35917883685302420159334481022124087659784118974021749 (.node 35917883685302420159334481022124023096153472703135846 (.node 35917883685302420159334481022123940085787548819914861 (.one 0 ([77,105,110,116,69,114,114,111,114],((.glob 46)))) (.one 0 ([95,108,97,119,95,99,101,108,108],((.glob 1162))))) (.node 35917883685302420159334481022124041542862362038501478 (.one 0 ([95,108,97,119,95,108,105,110,101],((.glob 1225)))) (.one 0 ([95,108,97,119,95,110,97,109,101],((.glob 1218)))))) (.node 38536894084183129765101144026366665953414208573931622 (.node 38162750557056311629614267806048943664478420541112422 (.one 0 ([95,108,97,119,95,115,111,114,116],((.glob 1169)))) (.one 0 ([101,110,117,109,101,114,97,116,101],(.typ .enumerate)))) (.node 40407616179966175076243006916438763043944237038043238 (.one 0 ([102,105,116,115,95,115,105,122,101],((.glob 975)))) (.one 0 ([107,105,110,100,95,115,105,122,101],((.glob 268))))))) (.node 78463810977515718419206873647653419647569955709591371120741 (.node 57278581022103324802070971666836250540096607021206889037908 (.node 43026626400440157458398548167130361470140064387301493 (.one 0 ([109,101,109,111,114,121,95,111,102],((.glob 884)))) (.one 0 ([114,101,120,95,111,99,116,101,116],((.glob 127))))) (.node 75325261606399341041988625544509361912855098704737568030821 (.one 0 ([72,73,71,72,95,78,65,77,69,83],((.str true (PySem.Str.ofString "ah ch dh bh"))))) (.one 0 ([95,108,97,119,95,104,101,97,114,100],((.glob 1183)))))) (.node 80817726747297906644439511922207980309272988611913155870836 (.node 80033091649384256805397939289322764846969866877907649953894 (.one 0 ([99,104,101,99,107,95,117,115,101,100],((.glob 1055)))) (.one 0 ([101,118,101,114,121,95,115,105,122,101],((.glob 379))))) (.node 80817726747297906644439511922208135051648772053941302067316 (.one 0 ([102,111,108,100,95,102,111,114,109,115],((.glob 458)))) (.one 0 ([102,111,108,100,95,110,97,109,101,115],((.glob 365)))))))) (.node 113539894488247757550769759907495685774698465820977048850916180083 (.node 90233378602086770200206031950560613823884891077096010416229 (.node 90233375608931773757504254760749853036561668444953144983654 (.node 85525553048835954751738883294777274978141762139448655478900 (.one 0 ([107,105,110,100,95,119,105,100,116,104],((.glob 275)))) (.one 0 ([108,111,97,100,95,102,111,114,109,115],((.glob 423))))) (.node 90233375608931773757504254760749988436225795180504297767022 (.one 0 ([114,101,97,100,95,102,114,97,109,101],((.glob 1067)))) (.one 0 ([114,101,97,100,95,109,111,100,114,109],((.glob 877)))))) (.node 92587292127004227543511611397588236502615004444079203287139 (.node 91802651042781655257132919993967904637844347058509313998964 (.one 0 ([114,109,95,111,112,101,114,97,110,100],((.glob 1015)))) (.one 0 ([116,101,115,116,95,102,111,114,109,115],((.glob 465))))) (.node 94156565690126661079716046717513796177691309542439968047220 (.one 0 ([117,110,112,97,99,107,95,115,105,98],((.glob 856)))) (.one 0 ([119,105,100,101,95,115,105,122,101,115],((.glob 372))))))) (.node 157968523028383590864888530037919384132407868765546627108075208805 (.node 121767424336599226383159003512828659887945321277575687168013107311 (.node 115185406107308415902940588405316137388305919801760503736303616115 (.one 0 ([68,101,99,111,100,101,69,114,114,111,114],((.glob 83)))) (.one 0 ([69,110,99,111,100,101,69,114,114,111,114],((.glob 71))))) (.node 128349418242102853301268913235501498529579597382415298439820607572 (.one 0 ([73,110,115,116,114,117,99,116,105,111,110],((.glob 733)))) (.one 0 ([77,79,83,84,95,79,67,84,69,84,83],((.int true (15))))))) (.node 161259536850855297644027077849922372449881745480718516273136271476 (.node 161259525081287298927664111777876939138048145576537770932402389107 (.one 0 ([95,108,97,119,95,116,117,114,110,101,100],((.glob 1211)))) (.one 0 ([97,99,99,117,109,117,108,97,116,111,114],((.glob 393))))) (.node 167841541741302301414295495582916890976461059167500831985814732916 (.one 0 ([97,114,105,116,104,95,102,111,114,109,115],((.glob 479)))) (.node 169487059637463572720068021532838972709368657432632825945736085606 (.one 0 ([101,97,114,108,121,95,110,97,109,101,115],((.glob 800)))) (.one 0 ([102,114,111,109,95,108,105,116,116,108,101],((.glob 113)))))))))) (.node 407203217111737790211199782859675984950317939151747171744082263954948206 (.node 190878620451914685115644842183396133040422228208536677083884028020 (.node 185942105210671891696177305366530565510081480376228443913420013669 (.node 179360073642551491996969749340159608304863792076353884201301311592 (.node 174423574094058921460053547499996515139114742568136610089128689766 (.one 0 ([103,114,111,117,112,95,102,111,114,109,115],((.glob 430)))) (.one 0 ([105,115,95,114,101,108,97,116,105,118,101],((.glob 254))))) (.node 184296599084075251809493016083519659534797283507698163647881674855 (.one 0 ([108,97,116,101,95,101,110,100,105,110,103],((.glob 807)))) (.one 0 ([111,112,101,114,97,110,100,115,95,111,102],((.glob 1050)))))) (.node 189233104125024732066504534656252064092805620194256831748795007093 (.node 189233104125024732064720474700087085061267470055706972614658359397 (.one 0 ([112,114,101,102,105,120,95,119,111,114,100],((.glob 1062)))) (.one 0 ([114,101,103,95,111,112,101,114,97,110,100],((.glob 1008))))) (.node 190878611036262082035623697705770874182441842042658288256963051636 (.one 0 ([114,101,103,105,115,116,101,114,95,97,116],((.glob 1001)))) (.one 0 ([115,104,111,114,116,95,102,111,114,109,115],((.glob 444))))))) (.node 331284004006020704349482710546082542130214928988741362189741141463662693 (.node 238110357567641928096729891750963022468708568678752242166865671521042547 (.node 197460630050186493847890392068844905976297525772253777424843538554 (.one 0 ([115,116,111,114,101,95,102,111,114,109,115],((.glob 415)))) (.one 0 ([119,105,116,104,95,108,101,103,97,99,121],((.glob 226))))) (.node 276070039813717561883825803869153013793501448258240806415596784420126835 (.one 0 ([68,65,84,65,95,100,101,99,111,100,101,114],((.int true (102))))) (.one 0 ([79,112,101,114,97,110,100,69,114,114,111,114],((.glob 59)))))) (.node 389948847953756189295520024400719748150037823437618328419448006052413541 (.node 365792747258503855254426918901550069170197341011920550879450286086160486 (.one 0 ([95,108,97,119,95,114,101,102,117,115,101,100],((.glob 1232)))) (.one 0 ([105,115,95,105,109,109,101,100,105,97,116,101],((.glob 247))))) (.node 400301462537422870544545837672955498516773847899822470922344805217337460 (.one 0 ([112,108,117,115,95,111,112,101,114,97,110,100],((.glob 1022)))) (.node 403752322546779339954715820769581910763773794982628407259607934150115450 (.one 0 ([115,105,110,103,108,101,95,102,111,114,109,115],((.glob 472)))) (.one 0 ([116,97,107,101,115,95,109,101,109,111,114,121],((.glob 261))))))))) (.node 1457002458003242918174631113024361070577074851681723591753021837328391757248564559989 (.node 745411940257978494070587900881373500307436496201497868393639770020763190427749 (.node 499353612593695404791913285945317745368942088935226723929271592611490218115188 (.node 407203217111737790211199782859675984950317939287146798977378046162501734 (.one 0 ([117,110,112,97,99,107,95,109,111,100,114,109],((.glob 849)))) (.one 0 ([117,110,112,97,99,107,95,116,104,114,101,101],((.glob 842))))) (.node 730937929103305742128485934740515608989151130364446066471855547878366454480999 (.one 0 ([68,65,84,65,95,112,114,101,102,105,120,101,115],((.int true (102))))) (.one 0 ([100,105,115,112,95,119,105,100,116,104,95,111,102],((.glob 870)))))) (.node 839492998959777235699914392938237842418460091308705583686038913812991880200309 (.node 832255993382435100451535537441765744374706263252003160746371181167430177128564 (.one 0 ([102,105,120,101,100,95,111,112,101,114,97,110,100],((.glob 1029)))) (.one 0 ([114,101,97,100,95,112,114,101,102,105,120,101,115],((.glob 233))))) (.node 1123106256626019004487057642045689283689982725889903038353795477933938560188471574645 (.one 0 ([115,101,103,109,101,110,116,95,111,99,116,101,116],((.glob 148)))) (.one 0 ([73,110,115,116,114,117,99,116,105,111,110,83,101,116],((.glob 1151))))))) (.node 3819444049223547610672520711498270388473111621103360571339590788076982515931309158940278886 (.node 3055555618806416892335763987941278206720674071996500091855324555240835325790284043413094517 (.node 3055555618806416892335763987941274283530592878179613819734021162812096892393216112553099381 (.one 0 ([95,108,97,119,95,97,110,121,95,114,105,103,104,116],((.glob 1197)))) (.one 0 ([95,108,97,119,95,109,97,100,101,95,114,105,103,104,116],((.glob 1204))))) (.node 3373842505285867907833529271566508020460632506293075892711158050441929049621409573491441780 (.one 0 ([95,108,97,119,95,114,101,97,100,95,114,105,103,104,116],((.glob 1190)))) (.one 0 ([105,109,109,101,100,105,97,116,101,95,102,111,114,109,115],((.glob 437)))))) (.node 13718443220801720913012262768525962126750119656699967254552405804356281995371069829811867223413168799860 (.node 3819444200994511393801747393577683342737149859958268876697371285276575197969490927197093989 (.one 0 ([119,104,111,108,101,95,105,109,109,101,100,105,97,116,101],((.glob 400)))) (.one 0 ([119,114,105,116,116,101,110,95,111,112,101,114,97,110,100],((.glob 1043))))) (.node 28182526251553596285081903283804476973975418186045246968332576758553289712806689322056791008346943707215298677 (.one 0 ([97,99,99,117,109,117,108,97,116,111,114,95,102,111,114,109,115],((.glob 451)))) (.node 30237501851385913170171706291894844353171171430958135974478725389558122213310365597865053732312363518394368101 (.one 0 ([95,108,97,119,95,100,101,99,111,100,101,100,95,114,105,103,104,116],((.glob 1237)))) (.one 0 ([102,114,111,109,95,108,105,116,116,108,101,95,115,105,103,110,101,100],((.glob 120))))))))))))
noncomputable def QI(x:Str)(a:Nat):Option V:=o7.getG x a
noncomputable def G0(x:Str):Option V:=QI x (Lk x.cps.toList 0)
noncomputable def S7:List (Str×c6):=[((PySem.Str.ofString "at"),.own),((PySem.Str.ofString "what"),.own),((PySem.Str.ofString "__init__"),.fn 36),((PySem.Str.ofString "told"),.fn 43)]
noncomputable def TR:List (Str×c6):=[((PySem.Str.ofString "at"),.own),((PySem.Str.ofString "what"),.own),((PySem.Str.ofString "__init__"),.fn 36),((PySem.Str.ofString "told"),.fn 43)]
noncomputable def US:List (Str×c6):=[((PySem.Str.ofString "at"),.own),((PySem.Str.ofString "what"),.own),((PySem.Str.ofString "__init__"),.fn 36),((PySem.Str.ofString "told"),.fn 43)]
noncomputable def UP:List (Str×c6):=[((PySem.Str.ofString "at"),.own),((PySem.Str.ofString "what"),.own),((PySem.Str.ofString "__init__"),.fn 36),((PySem.Str.ofString "told"),.fn 43)]
noncomputable def PT:List (Str×c6):=[((PySem.Str.ofString "is_data"),.own),((PySem.Str.ofString "is_lock"),.own),((PySem.Str.ofString "repeat"),.own),((PySem.Str.ofString "rex"),.own),((PySem.Str.ofString "segment"),.own),((PySem.Str.ofString "__init__"),.fn 170),((PySem.Str.ofString "told"),.fn 177),((PySem.Str.ofString "has_rex"),.fn 184),((PySem.Str.ofString "bits"),.fn 191),((PySem.Str.ofString "count"),.fn 198),((PySem.Str.ofString "octets"),.fn 205)]
noncomputable def OS:List (Str×c6):=[((PySem.Str.ofString "digit"),.own),((PySem.Str.ofString "escape"),.own),((PySem.Str.ofString "is_wide"),.own),((PySem.Str.ofString "kinds"),.own),((PySem.Str.ofString "must"),.own),((PySem.Str.ofString "name"),.own),((PySem.Str.ofString "number"),.own),((PySem.Str.ofString "opcode"),.own),((PySem.Str.ofString "places"),.own),((PySem.Str.ofString "size"),.own),((PySem.Str.ofString "__init__"),.fn 295),((PySem.Str.ofString "told"),.fn 302),((PySem.Str.ofString "slots"),.fn 309),((PySem.Str.ofString "has_modrm"),.fn 316),((PySem.Str.ofString "has_plus"),.fn 323),((PySem.Str.ofString "memory_size"),.fn 330),((PySem.Str.ofString "needs_memory"),.fn 337)]
noncomputable def Ou:List (Str×c6):=[((PySem.Str.ofString "kind"),.own),((PySem.Str.ofString "__init__"),.fn 493),((PySem.Str.ofString "told"),.fn 500),((PySem.Str.ofString "symbol"),.fn 507),((PySem.Str.ofString "registers"),.fn 514)]
noncomputable def QM:List (Str×c6):=[((PySem.Str.ofString "register"),.own),((PySem.Str.ofString "kind"),.own),((PySem.Str.ofString "__init__"),.fn 535),((PySem.Str.ofString "told"),.fn 542),((PySem.Str.ofString "registers"),.fn 549),((PySem.Str.ofString "symbol"),.fn 507)]
noncomputable def Pw:List (Str×c6):=[((PySem.Str.ofString "name"),.own),((PySem.Str.ofString "worth"),.own),((PySem.Str.ofString "kind"),.own),((PySem.Str.ofString "__init__"),.fn 569),((PySem.Str.ofString "told"),.fn 576),((PySem.Str.ofString "symbol"),.fn 583),((PySem.Str.ofString "registers"),.fn 514)]
noncomputable def Qc:List (Str×c6):=[((PySem.Str.ofString "name"),.own),((PySem.Str.ofString "worth"),.own),((PySem.Str.ofString "kind"),.own),((PySem.Str.ofString "__init__"),.fn 603),((PySem.Str.ofString "told"),.fn 610),((PySem.Str.ofString "symbol"),.fn 617),((PySem.Str.ofString "target"),.fn 624),((PySem.Str.ofString "registers"),.fn 514)]
noncomputable def O2:List (Str×c6):=[((PySem.Str.ofString "base"),.own),((PySem.Str.ofString "index"),.own),((PySem.Str.ofString "name"),.own),((PySem.Str.ofString "scale"),.own),((PySem.Str.ofString "segment"),.own),((PySem.Str.ofString "size"),.own),((PySem.Str.ofString "worth"),.own),((PySem.Str.ofString "kind"),.own),((PySem.Str.ofString "__init__"),.fn 644),((PySem.Str.ofString "told"),.fn 651),((PySem.Str.ofString "symbol"),.fn 658),((PySem.Str.ofString "registers"),.fn 663),((PySem.Str.ofString "is_rip"),.fn 670),((PySem.Str.ofString "is_absolute"),.fn 677)]
noncomputable def OA:List (Str×c6):=[((PySem.Str.ofString "name"),.own),((PySem.Str.ofString "operands"),.own),((PySem.Str.ofString "prefix"),.own),((PySem.Str.ofString "__init__"),.fn 697),((PySem.Str.ofString "told"),.fn 702),((PySem.Str.ofString "memory_at"),.fn 709),((PySem.Str.ofString "memory"),.fn 716),((PySem.Str.ofString "symbols"),.fn 723),((PySem.Str.ofString "replaced"),.fn 730)]
noncomputable def ON:List (Str×c6):=[((PySem.Str.ofString "kind"),.own),((PySem.Str.ofString "name"),.own),((PySem.Str.ofString "number"),.own),((PySem.Str.ofString "size"),.own),((PySem.Str.ofString "__init__"),.fn 751),((PySem.Str.ofString "code"),.fn 758),((PySem.Str.ofString "is_extended"),.fn 765),((PySem.Str.ofString "is_high"),.fn 772),((PySem.Str.ofString "needs_rex"),.fn 779),((PySem.Str.ofString "told"),.fn 786)]
noncomputable def QJ:List (Str×c6):=[((PySem.Str.ofString "form"),.own),((PySem.Str.ofString "instruction"),.own),((PySem.Str.ofString "length"),.own),((PySem.Str.ofString "prefixes"),.own),((PySem.Str.ofString "__init__"),.fn 898),((PySem.Str.ofString "told"),.fn 905)]
noncomputable def PH:List (Str×c6):=[((PySem.Str.ofString "b"),.own),((PySem.Str.ofString "begin"),.own),((PySem.Str.ofString "code_at"),.own),((PySem.Str.ofString "disp"),.own),((PySem.Str.ofString "escape"),.own),((PySem.Str.ofString "mod"),.own),((PySem.Str.ofString "modrm_at"),.own),((PySem.Str.ofString "must"),.own),((PySem.Str.ofString "opcode"),.own),((PySem.Str.ofString "prefixes"),.own),((PySem.Str.ofString "r"),.own),((PySem.Str.ofString "reg"),.own),((PySem.Str.ofString "rest_at"),.own),((PySem.Str.ofString "rm"),.own),((PySem.Str.ofString "sib"),.own),((PySem.Str.ofString "w"),.own),((PySem.Str.ofString "width"),.own),((PySem.Str.ofString "x"),.own),((PySem.Str.ofString "__init__"),.fn 926),((PySem.Str.ofString "has_rex"),.fn 933),((PySem.Str.ofString "is_narrow"),.fn 940),((PySem.Str.ofString "take_code"),.fn 947),((PySem.Str.ofString "take_must"),.fn 954),((PySem.Str.ofString "take_modrm"),.fn 961)]
noncomputable def xA:List (Str×c6):=[((PySem.Str.ofString "by_code"),.own),((PySem.Str.ofString "by_name"),.own),((PySem.Str.ofString "forms"),.own),((PySem.Str.ofString "__init__"),.fn 1094),((PySem.Str.ofString "told"),.fn 1099),((PySem.Str.ofString "find"),.fn 1106),((PySem.Str.ofString "has"),.fn 1113),((PySem.Str.ofString "at"),.fn 1120),((PySem.Str.ofString "names"),.fn 1127),((PySem.Str.ofString "codes"),.fn 1134),((PySem.Str.ofString "counts"),.fn 1141),((PySem.Str.ofString "memory_sizes"),.fn 1148)]
noncomputable def Jz:nE (List (Str×c6)):=(.node 586 (.node 208 (.node 71 (.node 59 (.one 46 S7) (.one 59 TR)) (.node 83 (.one 71 US) (.one 83 UP))) (.node 517 (.node 340 (.one 208 PT) (.one 340 OS)) (.node 552 (.one 517 Ou) (.one 552 QM)))) (.node 789 (.node 680 (.node 627 (.one 586 Pw) (.one 627 Qc)) (.node 733 (.one 680 O2) (.one 733 OA))) (.node 964 (.node 908 (.one 789 ON) (.one 908 QJ)) (.node 1151 (.one 964 PH) (.one 1151 xA)))))
noncomputable def Wn(a:Addr):Option (List (Str×c6)):=Jz.get a
noncomputable def R5(a:Addr):Option (List (Str×c6)):=match Nat.blt a 200 with
 |true=>none
 |false=>Wn a
noncomputable def RX(a:Addr)(x:Str):Option c6:=match R5 a with
 |some l=>lk x l
 |none=>none
noncomputable def LN:nE (Addr):=(.node 586 (.node 208 (.node 71 (.node 59 (.one 46 (36)) (.one 59 (36))) (.node 83 (.one 71 (36)) (.one 83 (36)))) (.node 517 (.node 340 (.one 208 (170)) (.one 340 (295))) (.node 552 (.one 517 (493)) (.one 552 (535))))) (.node 789 (.node 680 (.node 627 (.one 586 (569)) (.one 627 (603))) (.node 733 (.one 680 (644)) (.one 733 (697)))) (.node 964 (.node 908 (.one 789 (751)) (.one 908 (898))) (.node 1151 (.one 964 (926)) (.one 1151 (1094))))))
noncomputable def SE(a:Addr):Option Addr:=match Nat.blt a 200 with
 |true=>none
 |false=>LN.get a
noncomputable def Vh:nE (List (Str×Addr)):=(.node 586 (.node 208 (.node 71 (.node 59 (.one 46 [((PySem.Str.ofString "__init__"),(36:Addr)),((PySem.Str.ofString "told"),(43:Addr))]) (.one 59 [((PySem.Str.ofString "__init__"),(36:Addr)),((PySem.Str.ofString "told"),(43:Addr))])) (.node 83 (.one 71 [((PySem.Str.ofString "__init__"),(36:Addr)),((PySem.Str.ofString "told"),(43:Addr))]) (.one 83 [((PySem.Str.ofString "__init__"),(36:Addr)),((PySem.Str.ofString "told"),(43:Addr))]))) (.node 517 (.node 340 (.one 208 [((PySem.Str.ofString "__init__"),(170:Addr)),((PySem.Str.ofString "told"),(177:Addr)),((PySem.Str.ofString "has_rex"),(184:Addr)),((PySem.Str.ofString "bits"),(191:Addr)),((PySem.Str.ofString "count"),(198:Addr)),((PySem.Str.ofString "octets"),(205:Addr))]) (.one 340 [((PySem.Str.ofString "__init__"),(295:Addr)),((PySem.Str.ofString "told"),(302:Addr)),((PySem.Str.ofString "slots"),(309:Addr)),((PySem.Str.ofString "has_modrm"),(316:Addr)),((PySem.Str.ofString "has_plus"),(323:Addr)),((PySem.Str.ofString "memory_size"),(330:Addr)),((PySem.Str.ofString "needs_memory"),(337:Addr))])) (.node 552 (.one 517 [((PySem.Str.ofString "__init__"),(493:Addr)),((PySem.Str.ofString "told"),(500:Addr)),((PySem.Str.ofString "symbol"),(507:Addr)),((PySem.Str.ofString "registers"),(514:Addr))]) (.one 552 [((PySem.Str.ofString "__init__"),(535:Addr)),((PySem.Str.ofString "told"),(542:Addr)),((PySem.Str.ofString "registers"),(549:Addr)),((PySem.Str.ofString "symbol"),(507:Addr))])))) (.node 789 (.node 680 (.node 627 (.one 586 [((PySem.Str.ofString "__init__"),(569:Addr)),((PySem.Str.ofString "told"),(576:Addr)),((PySem.Str.ofString "symbol"),(583:Addr)),((PySem.Str.ofString "registers"),(514:Addr))]) (.one 627 [((PySem.Str.ofString "__init__"),(603:Addr)),((PySem.Str.ofString "told"),(610:Addr)),((PySem.Str.ofString "symbol"),(617:Addr)),((PySem.Str.ofString "target"),(624:Addr)),((PySem.Str.ofString "registers"),(514:Addr))])) (.node 733 (.one 680 [((PySem.Str.ofString "__init__"),(644:Addr)),((PySem.Str.ofString "told"),(651:Addr)),((PySem.Str.ofString "symbol"),(658:Addr)),((PySem.Str.ofString "registers"),(663:Addr)),((PySem.Str.ofString "is_rip"),(670:Addr)),((PySem.Str.ofString "is_absolute"),(677:Addr))]) (.one 733 [((PySem.Str.ofString "__init__"),(697:Addr)),((PySem.Str.ofString "told"),(702:Addr)),((PySem.Str.ofString "memory_at"),(709:Addr)),((PySem.Str.ofString "memory"),(716:Addr)),((PySem.Str.ofString "symbols"),(723:Addr)),((PySem.Str.ofString "replaced"),(730:Addr))]))) (.node 964 (.node 908 (.one 789 [((PySem.Str.ofString "__init__"),(751:Addr)),((PySem.Str.ofString "code"),(758:Addr)),((PySem.Str.ofString "is_extended"),(765:Addr)),((PySem.Str.ofString "is_high"),(772:Addr)),((PySem.Str.ofString "needs_rex"),(779:Addr)),((PySem.Str.ofString "told"),(786:Addr))]) (.one 908 [((PySem.Str.ofString "__init__"),(898:Addr)),((PySem.Str.ofString "told"),(905:Addr))])) (.node 1151 (.one 964 [((PySem.Str.ofString "__init__"),(926:Addr)),((PySem.Str.ofString "has_rex"),(933:Addr)),((PySem.Str.ofString "is_narrow"),(940:Addr)),((PySem.Str.ofString "take_code"),(947:Addr)),((PySem.Str.ofString "take_must"),(954:Addr)),((PySem.Str.ofString "take_modrm"),(961:Addr))]) (.one 1151 [((PySem.Str.ofString "__init__"),(1094:Addr)),((PySem.Str.ofString "told"),(1099:Addr)),((PySem.Str.ofString "find"),(1106:Addr)),((PySem.Str.ofString "has"),(1113:Addr)),((PySem.Str.ofString "at"),(1120:Addr)),((PySem.Str.ofString "names"),(1127:Addr)),((PySem.Str.ofString "codes"),(1134:Addr)),((PySem.Str.ofString "counts"),(1141:Addr)),((PySem.Str.ofString "memory_sizes"),(1148:Addr))])))))
noncomputable def RN(a:Addr):Option (List (Str×Addr)):=match Nat.beq a 517 with
 |true=>Vh.get a
 |false=>none
noncomputable def SH(a:Addr)(x:Str):Option Addr:=match RN a with
 |some l=>lk x l
 |none=>none
noncomputable def X0(x:Str):Option Addr:=match aS x (PySem.Str.ofString "DecodeError")with
 |true=>some 83
 |false=>none
noncomputable def ig:df:=⟨G0,HV,fun _=>none,SE,RX,SH,X0,fun _=>none,fun _ _=>none,fun _=>False⟩
noncomputable def Qq(r:Value):Option V:=match r with
 |.none=>some .none
 |.bool b=>some (.bool true b)
 |.int x _=>some (.int true x)
 |.str x _=>bO (PyData.strOk x) (some (.str true x))
 |.ref a=>some (.glob a)
 |_=>none
theorem yn{r:Value}{v:V}(h:Qq r=some v)(P:Pm)(H:HP)(ρ:List Addr):aj P H ρ v r:=by
 cases r with
 |none=>exact af h▸.none
 |bool b=>exact af h▸.bool
 |int x t=>exact af h▸.int
 |str x t=>exact cH h fun e h=>af h▸.str e
 |ref a=>exact af h▸.glob
 |_=>cases h
theorem D4{rs:List Value}:∀{ds:List V},rs.map Qq=ds.map some→∀P H ρ,ak P H ρ ds rs:=by
  induction rs with
  | nil=>
    intro ds h P H ρ
    cases ds with
    |nil=>exact .nil
    |cons _ _=>cases h
  | cons r rs ih=>
    intro ds h P H ρ
    cases ds with
    |nil=>cases h
    |cons d ds=>exact .cons (yn (List.cons.inj h).1 P H ρ) (ih (List.cons.inj h).2 P H ρ)
noncomputable def OP:List Nat:=[208,207,340,339,517,516,552,551,586,585,627,626,680,679,733,732,789,788,908,907,964,963,1151,1150,83,82,46,45,2]
noncomputable def Ax:List Nat:=[29,163,290,408,416,562,596,637,690,1068]
noncomputable def BW(v:Value):Option Addr:=match v with
 |.ref d=>some d
 |_=>none
noncomputable def B3(v:Value):Bool:=match v with
 |.none=>true
 |_=>false
noncomputable def pX(o:Obj):Option (Array Value):=match o.data with
 |.seq xs _=>some xs
 |_=>none
noncomputable def qq(o:Obj):Option FuncData:=match o.data with
 |.func f=>some f
 |_=>none
theorem Hu{v:Value}{d:Addr}(h:BW v=some d):v=.ref d:=by
 cases v with
 |ref _=>exact congrArg _ (af h)
 |_=>cases h
theorem JA{v:Value}(h:B3 v=true):v=.none:=by
 cases v with
 |none=>rfl
 |_=>cases h
theorem IE{o:Obj}{xs:Array Value}(h:pX o=some xs):∃n,o.data=.seq xs n:=by
 unfold pX at h
 revert h
 cases o.data with
 |seq ys n=>exact fun h=>⟨n,by rw[af h]⟩
 |_=>exact fun h=>nomatch h
theorem HQ{o:Obj}{f:FuncData}(h:qq o=some f):o=⟨o.cls,o.dict,.func f,o.slots⟩:=by
 have e:o.data=.func f:=by
  unfold qq at h
  revert h
  cases o.data with
  |func g=>exact fun h=>congrArg _ (af h)
  |_=>exact fun h=>nomatch h
 rw[←e]
noncomputable def oj(K:Frag)(v:Value):Option (List (Option V)):=bX (B3 v) (some []) (oO (BW v) fun d=>oO (K.lookup d) fun o=>oO (pX o) fun xs=>some (xs.toList.map Qq))
noncomputable abbrev gq:=FuncBody×Scope×List Str×Option (List (Option V))×List Bool
noncomputable def PK(f:FuncData)(l:zr):Bool:=bX (lj (f.scope.names.lookup l.key)) (aH (f.code==.ref l.code) (f.qualname==l.fn)) true
noncomputable def mT(cd:Bool)(dfl:Option (List (Option V)))(f:FuncData):gq:=(f.body,f.scope,f.params.args.map (·.arg),dfl,
   [ju f.params.posonlyargs,mE f.params.vararg,ju f.params.kwonlyargs,mE f.params.kwarg,ju f.closure,Nat.beq f.globals mainGlobals,Nat.beq f.builtins builtinsNs,cd,bH (PK f) jv])
noncomputable def qO(K:Frag)(a:Addr):Option gq:=oO (K.lookup a) fun o=>oO (qq o) fun f=>some (mT (codeIn K f.code f.qualname) (oj K f.defaults) f)
noncomputable def nv(i:ag):Option gq:=some (.stmts i.body,i.sc,i.ps,some (i.ds.map some),[true,true,true,true,true,true,true,true,true])
noncomputable def IZ(i:ag)(x:Str):Bool:=aH (bX (nZ (i.sc.names.lookup x)) true (lj (i.sc.names.lookup x))) (c5 (x==("__debug__":Str)))
noncomputable def td(i:ag):Bool:=aH (decide ((cellsFrom 0 i.sc.names []).map (·.1)).Nodup) (aH (c5 i.sc.isCoroutine) (aH (c5 i.sc.isGenerator) (aH (ye i.sc) (aH (bH (IZ i) i.ps) (aH (decide i.ps.Nodup) (Nat.ble i.ds.length i.ps.length))))))
theorem ux{α:Type}{f:α→Bool}{l:List α}(h:bH f l=true):∀x∈l,f x=true:=by
 induction l with
 |nil=>exact fun _ hx=>nomatch hx
 |cons y r ih=>exact fun x hx=>(List.mem_cons.mp hx).elim (fun e=>e▸(bF h).1) (ih (bF h).2 x)
theorem BM{f:FuncData}{i:ag}(h1:f.body=.stmts i.body)(h2:f.scope=i.sc)(h3:f.closure=[])(h4:f.globals=mainGlobals)(h5:f.builtins=builtinsNs) :
  f=R3.fn ⟨f.name,f.qualname,f.params,f.doc,f.pyModule,f.annotations,f.defaults,f.kwdefaults,f.code,f.closureTuple,.none,none,#[]⟩ i:=by
 show f=fnX f.name f.qualname f.params i.body i.sc [] f.defaults f.kwdefaults f.doc f.pyModule f.annotations f.code f.closureTuple
 unfold fnX
 rw[←h1,←h2,←h3,←h4,←h5]
theorem LH{K:Frag}{v:Value}{ds:List V}(h:oj K v=some (ds.map some)){s:Shared}(X:K.In s.heap)(P:Pm)(H:HP)(ρ:List Addr):∃rs,ak P H ρ ds rs∧((∃T o n,v=.ref T∧s.heap.get? T=some o∧o.data=.seq rs.toArray n)∨(v=.none∧rs=[])):=
 iV h (fun e h=>⟨[],by rw[List.map_eq_nil_iff.mp (af h).symm];exact .nil,.inr ⟨JA e,rfl⟩⟩) fun _ h=>aA h fun d ed h=>aA h fun o eo h=>aA h fun xs ex h=>(IE ex).elim fun n en=>⟨xs.toList,D4 (af h) P H ρ,.inl ⟨d,o,n,Hu ed,X _ _ eo,en⟩⟩
theorem Jf{K:Frag}{a:Addr}{i:ag}(h:qO K a=nv i)(hs:td i=true):AD K a i:=by
 refine aA h fun o hK h=>aA h fun f hf h=>?_
 have h:=af h
 refine az hs fun s1 hs=>az hs fun s2 hs=>az hs fun s3 hs=>az hs fun s4 hs=>az hs fun s5 hs=>az hs fun s6 s7=>?_
 have hb:bH id (mT (codeIn K f.code f.qualname) (oj K f.defaults) f).2.2.2.2=true:=by rw[h];rfl
 refine ij hb fun b1 hb=>ij hb fun b2 hb=>ij hb fun b3 hb=>ij hb fun b4 hb=>ij hb fun b5 hb=>ij hb fun b6 hb=>ij hb fun b7 hb=>ij hb fun b8 hb=>ij hb fun b9 _=>?_
 have h1:f.body=.stmts i.body:=congrArg (fun z:gq=>z.1) h
 have h2:f.scope=i.sc:=congrArg (fun z:gq=>z.2.1) h
 have h3:f.params.args.map (·.arg)=i.ps:=congrArg (fun z:gq=>z.2.2.1) h
 have h4:oj K f.defaults=some (i.ds.map some):=congrArg (fun z:gq=>z.2.2.2.1) h
 have hw:=BM (i:=i) h1 h2 (cU b5) (Nat.eq_of_beq_eq_true b6) (Nat.eq_of_beq_eq_true b7)
 have hp:=of_decide_eq_true s6
 refine⟨⟨⟨f.name,f.qualname,f.params,f.doc,f.pyModule,f.annotations,f.defaults,f.kwdefaults,f.code,f.closureTuple,o.cls,o.dict,o.slots⟩,?_,b8,fun s as bU fm P H ρ X hb hv=>?_,fun l hl e=>?_⟩,of_decide_eq_true s1,cX s2,cX s3,yd s4,fun x hx=>az (ux s5 x hx) fun z1 z2=>⟨?_,cX z2⟩,hp⟩
 ·show K.lookup a=some ⟨o.cls,o.dict,.func _,o.slots⟩
  rw[hK,HQ hf]
  exact congrArg (fun z=>some (⟨o.cls,o.dict,.func z,o.slots⟩:Obj)) hw
 ·refine(LH h4 X P H ρ).elim fun rs d=>(Jv i.ps hb hv d.1).elim fun bs g=>⟨bs,?_,g.2⟩
  exact E1 (rs:=rs) (cU b1) (jS b2) (cU b3) (jS b4) (h3▸hp) (by show _≤(f.params.args.map (·.arg)).length;rw[h3,←d.1.len];exact Nat.le_of_ble_eq_true s7) d.2 (by show iU (f.params.args.map (·.arg)) _ _=_;rw[h3];exact g.1)
 ·refine iV (ux b9 l hl) (fun _ q=>az q fun q1 q2=>⟨eq_of_beq q1,eq_of_beq q2⟩) fun q _=>?_
  rw[h2,e]at q;cases q
 ·exact iV z1 (fun q _=>.inl (ix q)) fun _ q=>.inr ⟨iw q,fun n=>jB _ _ _ (iw q)⟩
noncomputable def Ql(K:Frag)(C:Addr)(name:Str):Bool:=aH (plainGet K C name) (aH (hasDictIn K C) (aH (oB (findIn K (.ref C) name) (noGet K)) (aH (findIn K (.ref C) "__setattr__"==some (some (.builtin "object.__setattr__"))) (aH (plainOver K C) (takerIn K C name==some none)))))
noncomputable def J7(K:Frag)(C:Addr)(name:Str)(f:Addr):Bool:=aH (plainGet K C name) (aH (findIn K (.ref C) name==some (some (.ref f))) (typeIn K (.ref f)==some (.type "function")))
noncomputable def V2(K:Frag)(C:Addr)(name:Str):c6→Bool
 |.own=>Ql K C name
 |.fn f=>J7 K C name f
theorem IW{K:Frag}{C:Addr}{name:Str}(h:Ql K C name=true):FO K C name:=
 az h fun a h=>az h fun b h=>az h fun c h=>az h fun d h=>az h fun e f=>⟨a,b,kF c fun x hx c=>⟨x,hx,c⟩,eq_of_beq d,e,eq_of_beq f⟩
theorem Ct{K:Frag}{C:Addr}{name:Str}{f:Addr}(h:J7 K C name f=true):w9 K C name f:=
 az h fun a h=>az h fun b c=>⟨a,eq_of_beq b,eq_of_beq c⟩
noncomputable def Fq(K:Frag)(C:Addr)(name:Str)(f:Addr):Bool:=aH (specialIn K (.ref C) "__getattribute__"==some (some (.builtin "type.__getattribute__"))) (aH (readsIn K C (.type "type")) (match findCls K (.ref C) (.type "type") name with
 |some (.val v)=>v==.ref f
 |_=>false))
set_option tactic.hygienic true in
theorem DD{K:Frag}{C:Addr}{name:Str}{f:Addr}(h:Fq K C name f=true):wX K C name f:=by
 refine az h fun a h=>az h fun b c=>⟨eq_of_beq a,_,b,?_⟩
 split at c
 ·rename_i v hv
  rw[hv,eq_of_beq c]
 ·cases c
noncomputable def Gb(K:Frag)(C f:Addr):Bool:=aH (makesIn K C) (aH (findIn K (.ref C) "__init__"==some (some (.ref f))) (typeIn K (.ref f)==some (.type "function")))
theorem FR{K:Frag}{C f:Addr}(h:Gb K C f=true):vt K C f:=
 az h fun a h=>az h fun b c=>⟨a,eq_of_beq b,eq_of_beq c⟩
noncomputable def MH(K:Frag):Bool:=(Jz.list.all fun p=>Nat.blt p.1 200||p.2.all fun q=>V2 K p.1 q.1 q.2)&&(LN.list.all fun p=>Nat.blt p.1 200||(Gb K p.1 p.2&&keepIn K (.ref p.1)))&&((RN 517).any fun l=>l.all fun q=>Fq K 517 q.1 q.2)
noncomputable def Ez(h:Heap)(e:List Nat×V):Option V×Option Value×Bool:=match e.2 with
 |.blt _=>(none,h.nsMap builtinsNs ⟨e.1.toArray⟩,(h.nsMap mainGlobals ⟨e.1.toArray⟩).isNone)
 |.typ _=>(none,h.nsMap builtinsNs ⟨e.1.toArray⟩,(h.nsMap mainGlobals ⟨e.1.toArray⟩).isNone)
 |_=>((h.nsMap mainGlobals ⟨e.1.toArray⟩).bind Qq,none,true)
noncomputable def DR(e:List Nat×V):Option V×Option Value×Bool:=match e.2 with
 |.blt s=>(none,some (.builtin s.name),true)
 |.typ s=>(none,some (.type s.name),true)
 |v=>(some v,none,true)
noncomputable def vZ(K:Frag):Option (Value×List Value×Bool×List Bool×Option Value):=match K.lookup 83 with
 |some ⟨c,_,.cls cd,sl⟩=>some (c,cd.mro,cd.hasDel,[Nat.beq sl.size 6],(sl.toList[4]?).join)
 |_=>none
noncomputable def wY:Option (Value×List Value×Bool×List Bool×Option Value):=some (.type "type",[.ref 83,.ref 46,.type "Exception",.type "BaseException",.type "object"],false,[true],some (.builtin nX))
noncomputable def RP(K:Frag):Bool:=gh K 83&&(findIn K (.ref 83) "__setattr__"==some (some (.builtin "object.__setattr__")))&&(findIn K (.ref 83) sW==some none)&&(findIn K (.ref 83) sA==some none)&&(findIn K (.ref 83) "__init__"==some (some (.ref 36)))&&(typeIn K (.ref 36)==some (.type "function"))&&keepIn K (.ref 83)
noncomputable def Kr:List Nat:=OP++(v8.list.flatMap fun p=>[p.1,p.1 - 1])++Ax
noncomputable def qS(h:Heap)(K:Frag)(l:zr):Option (Value×Option Value×Value×Bool)×Option Obj×Bool:=(match h.get? l.code with
  | some ⟨c,_,.fields vs,_⟩=>some (c,vs[11]?,vs.getD 11 .none,(match vs.getD 18 .none,vs.getD 7 .none,vs.getD 9 .none,vs.getD 10 .none with
    |.str _ _,.int _ _,.bool _,.int _ _=>true
    |_,_,_,_=>false)&&!(Nat.beq l.code l.P))
  |_=>none,h.get? l.P,(K.lookup l.P).isNone)
noncomputable def rj(l:zr):Option (Value×Option Value×Value×Bool)×Option Obj×Bool:=(some (.type "code",some (.ref l.P),.ref l.P,true),some (tabObj #[]),true)
theorem AQ:(v8.list.all fun p=>td p.2)=true:=by kernel_rfl
section
noncomputable def eO(v:V):Option Int:=oO (vI v) fun p=>some p.2
noncomputable def Lc(v:V):Option Bool:=oO (vB v) fun p=>some p.2
noncomputable def JV(v:V):Option Str:=oO (vS v) fun p=>some p.2
noncomputable def Bq(v:V):Option (List Int):=oO (vY v) fun p=>some p.2
noncomputable def Hy(v:V):Option (List Int):=oO (vW v) fun p=>some p.2
noncomputable def JQ(v:V):Option Unit:=oO (vM v) fun n=>bO (Nat.beq n 1) (some ())
noncomputable def nh{α β:Type}(a:Option α)(b:Option β):Option (α×β):=oO a fun x=>oO b fun y=>some (x,y)
noncomputable def gU{α:Type}(f:V→Option α)(as:List V):Option α:=oO (xW as) f
noncomputable def fT{α β:Type}(f:V→Option α)(g:V→Option β)(as:List V):Option (α×β):=oO (GI as) fun p=>nh (f p.1) (g p.2)
noncomputable def v7{α β γ:Type}(f:V→Option α)(g:V→Option β)(k:V→Option γ)(as:List V):Option (α×β×γ):=oO (NN as) fun p=>nh (f p.1) (nh (g p.2.1) (k p.2.2))
noncomputable def Cs{α β γ δ:Type}(f:V→Option α)(g:V→Option β)(k:V→Option γ)(l:V→Option δ)(as:List V):Option (α×β×γ×δ):=oO (V7 as) fun p=>nh (f p.1) (nh (g p.2.1) (nh (k p.2.2.1) (l p.2.2.2)))
noncomputable def mX:List (Str×V)→List Str→Bool
  |[],l=>ju l
  | p::r,l=>match l with
    |[]=>false
    |y::s=>bX (aS p.1 y) (mX r s) false
noncomputable def pv:List (Str×V)→Nat→V
  |[],_=>.none
  | p::r,n=>match n with
    |0=>p.2
    |n+1=>pv r n
noncomputable def oT{α:Type}(o:Option α)(P:α→Prop):Prop:=oP o P
noncomputable def fv{α β:Type}(o:Option (α×β))(P:α→β→Prop):Prop:=oT o fun p=>P p.1 p.2
noncomputable def xj{α β γ:Type}(o:Option (α×β×γ))(P:α→β→γ→Prop):Prop:=oT o fun p=>P p.1 p.2.1 p.2.2
noncomputable def DU{α β γ δ:Type}(o:Option (α×β×γ×δ))(P:α→β→γ→δ→Prop):Prop:=oT o fun p=>P p.1 p.2.1 p.2.2.1 p.2.2.2
theorem M8{α:Type}{o:Option α}{P:α→Prop}(h:oT o P):∃x,o=some x∧P x:=aM h fun x e h=>⟨x,e,h⟩
theorem dc{v:V}{x:Int}(h:eO v=some x):∃k,v=.int k x:=aA h fun p e q=>⟨p.1,by rw[wK e,af q]⟩
theorem C6{v:V}{x:Bool}(h:Lc v=some x):∃k,v=.bool k x:=aA h fun p e q=>⟨p.1,by rw[Ot e,af q]⟩
theorem wL{v:V}{x:Str}(h:JV v=some x):∃k,v=.str k x:=aA h fun p e q=>⟨p.1,by rw[EM e,af q]⟩
theorem xn{v:V}{x:List Int}(h:Bq v=some x):∃k,v=.bytes k x:=aA h fun p e q=>⟨p.1,by rw[P7 e,af q]⟩
theorem xJ{v:V}{x:List Int}(h:Hy v=some x):∃k,v=.irow k x:=aA h fun p e q=>⟨p.1,by rw[NZ e,af q]⟩
theorem xr{v:V}{x:Unit}(h:JQ v=some x):v=.named 1:=aA h fun p e q=>cH q fun b _=>by rw[PD e,Nat.eq_of_beq_eq_true b]
theorem bT{α β:Type}{a:Option α}{b:Option β}{p:α×β}(h:nh a b=some p):a=some p.1∧b=some p.2:=aA h fun x e h=>aA h fun y f h=>by rw[←af h];exact⟨e,f⟩
theorem j8{α:Type}{f:V→Option α}{as:List V}{P:α→Prop}(h:oT (gU f as) P):∃a x,as=[a]∧f a=some x∧P x:=
 aM h fun x e h=>aA e fun a q e=>⟨a,x,Cg q,e,h⟩
theorem gR{α β:Type}{f:V→Option α}{g:V→Option β}{as:List V}{P:α→β→Prop}(h:fv (fT f g as) P):∃a b x y,as=[a,b]∧f a=some x∧g b=some y∧P x y:=
 aM h fun x e h=>aA e fun p q e=>⟨p.1,p.2,x.1,x.2,D9 q,(bT e).1,(bT e).2,h⟩
theorem yF{α β γ:Type}{f:V→Option α}{g:V→Option β}{k:V→Option γ}{as:List V}{P:α→β→γ→Prop}(h:xj (v7 f g k as) P):∃a b c x y z,as=[a,b,c]∧f a=some x∧g b=some y∧k c=some z∧P x y z:=
 aM h fun x e h=>aA e fun p q e=>⟨p.1,p.2.1,p.2.2,x.1,x.2.1,x.2.2,zk q,(bT e).1,(bT (bT e).2).1,(bT (bT e).2).2,h⟩
theorem yc{α β γ δ:Type}{f:V→Option α}{g:V→Option β}{k:V→Option γ}{l:V→Option δ}{as:List V}{P:α→β→γ→δ→Prop}(h:DU (Cs f g k l as) P):∃a b c d x y z u,as=[a,b,c,d]∧f a=some x∧g b=some y∧k c=some z∧l d=some u∧P x y z u:=
 aM h fun x e h=>aA e fun p q e=>⟨p.1,p.2.1,p.2.2.1,p.2.2.2,x.1,x.2.1,x.2.2.1,x.2.2.2,Qh q,(bT e).1,(bT (bT e).2).1,(bT (bT (bT e).2).2).1,(bT (bT (bT e).2).2).2,h⟩
theorem pW{a b:Str}(h:aS a b=true):a=b:=by rw[dw]at h;exact eq_of_beq h
theorem nY{fs:List (Str×V)}:∀{ns:List Str},mX fs ns=true→fs=ns.zip (fs.map (·.2))∧(fs.map (·.2)).length=ns.length:=by
  induction fs with
  |nil=>exact fun h=>by rw[cU h];exact⟨rfl,rfl⟩
  | cons p r ih=>
    intro ns h
    cases ns with
    |nil=>cases h
    | cons y s=>
      refine ij h fun e h=>⟨?_,congrArg (·+1) (ih h).2⟩
      show p::r=(y,p.2)::s.zip (r.map (·.2))
      rw[←(ih h).1,←pW e]
theorem dW{α:Type}{l:List α}{n:Nat}(h:l.length=n+1):∃a r,l=a::r∧r.length=n:=by
 cases l with
 |nil=>cases h
 |cons a r=>exact⟨a,r,rfl,Nat.succ.inj h⟩
theorem El{α:Type}{l:List α}(h:l.length=0):l=[]:=List.length_eq_zero_iff.mp h
section
variable {as:List V}
theorem dI{P:Int→Prop}(h:oT (gU eO as) P):∃k x,as=[.int k x]∧P x:=by
 refine dT (j8 h) fun a x0 q e0 g=>?_
 exact(dc e0).elim fun k0 f0=>⟨k0,x0,by rw[q,f0],g⟩
theorem dS{P:Str→Prop}(h:oT (gU JV as) P):∃k x,as=[.str k x]∧P x:=by
 refine dT (j8 h) fun a x0 q e0 g=>?_
 exact(wL e0).elim fun k0 f0=>⟨k0,x0,by rw[q,f0],g⟩
theorem dY{P:List Int→Prop}(h:oT (gU Bq as) P):∃k x,as=[.bytes k x]∧P x:=by
 refine dT (j8 h) fun a x0 q e0 g=>?_
 exact(xn e0).elim fun k0 f0=>⟨k0,x0,by rw[q,f0],g⟩
theorem dR{P:List Int→Prop}(h:oT (gU Hy as) P):∃k x,as=[.irow k x]∧P x:=by
 refine dT (j8 h) fun a x0 q e0 g=>?_
 exact(xJ e0).elim fun k0 f0=>⟨k0,x0,by rw[q,f0],g⟩
theorem dV{P:V→Prop}(h:oT (gU some as) P):∃v,as=[v]∧P v:=by
 refine dT (j8 h) fun a x0 q e0 g=>?_
 exact⟨a,q,(by rw[af e0];exact g)⟩
theorem VX{P:V→V→Prop}(h:fv (fT some some as) P):∃v u,as=[v,u]∧P v u:=by
 refine nU (gR h) fun a b x0 x1 q e0 e1 g=>?_
 exact⟨a,b,q,(by rw[af e0,af e1];exact g)⟩
theorem Ws{P:List Int→V→Prop}(h:fv (fT Hy some as) P):∃k x u,as=[.irow k x,u]∧P x u:=by
 refine nU (gR h) fun a b x0 x1 q e0 e1 g=>?_
 exact(xJ e0).elim fun k0 f0=>⟨k0,x0,b,by rw[q,f0],(by rw[af e1];exact g)⟩
theorem Wj{P:Int→Int→Prop}(h:fv (fT eO eO as) P):∃k x l y,as=[.int k x,.int l y]∧P x y:=by
 refine nU (gR h) fun a b x0 x1 q e0 e1 g=>?_
 exact(dc e0).elim fun k0 f0=>(dc e1).elim fun k1 f1=>⟨k0,x0,k1,x1,by rw[q,f0,f1],g⟩
theorem NG{P:List Int→Int→Prop}(h:fv (fT Bq eO as) P):∃k x l y,as=[.bytes k x,.int l y]∧P x y:=by
 refine nU (gR h) fun a b x0 x1 q e0 e1 g=>?_
 exact(xn e0).elim fun k0 f0=>(dc e1).elim fun k1 f1=>⟨k0,x0,k1,x1,by rw[q,f0,f1],g⟩
theorem Wu{P:List Int→Int→Prop}(h:fv (fT Hy eO as) P):∃k x l y,as=[.irow k x,.int l y]∧P x y:=by
 refine nU (gR h) fun a b x0 x1 q e0 e1 g=>?_
 exact(xJ e0).elim fun k0 f0=>(dc e1).elim fun k1 f1=>⟨k0,x0,k1,x1,by rw[q,f0,f1],g⟩
theorem Ud{P:V→Int→Prop}(h:fv (fT some eO as) P):∃v l y,as=[v,.int l y]∧P v y:=by
 refine nU (gR h) fun a b x0 x1 q e0 e1 g=>?_
 exact(dc e1).elim fun k1 f1=>⟨a,k1,x1,by rw[q,f1],(by rw[af e0];exact g)⟩
theorem P8{P:Int→Int→Bool→Prop}(h:xj (v7 eO eO Lc as) P):∃k x l y m z,as=[.int k x,.int l y,.bool m z]∧P x y z:=by
 refine Qx (yF h) fun a b c x0 x1 x2 q e0 e1 e2 g=>?_
 exact(dc e0).elim fun k0 f0=>(dc e1).elim fun k1 f1=>(C6 e2).elim fun k2 f2=>⟨k0,x0,k1,x1,k2,x2,by rw[q,f0,f1,f2],g⟩
theorem OO{P:Unit→List Int→Int→Prop}(h:xj (v7 JQ Bq eO as) P):∃k x l y,as=[.named 1,.bytes k x,.int l y]∧P () x y:=by
 refine Qx (yF h) fun a b c x0 x1 x2 q e0 e1 e2 g=>?_
 exact(xn e1).elim fun k1 f1=>(dc e2).elim fun k2 f2=>⟨k1,x1,k2,x2,by rw[q,xr e0,f1,f2],g⟩
theorem Wt{P:Unit→V→Prop}(h:fv (fT JQ some as) P):∃v,as=[.named 1,v]∧P () v:=by
 refine nU (gR h) fun a b x0 x1 q e0 e1 g=>?_
 exact⟨b,by rw[q,xr e0],(by rw[af e1];exact g)⟩
theorem QW{P:Unit→Int→Int→Int→Prop}(h:DU (Cs JQ eO eO eO as) P):∃k x l y m z,as=[.named 1,.int k x,.int l y,.int m z]∧P () x y z:=by
 obtain⟨a,b,c,d,x0,x1,x2,x3,q,e0,e1,e2,e3,g⟩:=yc h
 exact(dc e1).elim fun k1 f1=>(dc e2).elim fun k2 f2=>(dc e3).elim fun k3 f3=>⟨k1,x1,k2,x2,k3,x3,by rw[q,xr e0,f1,f2,f3],g⟩
theorem O6{P:Int→Int→Int→Int→Prop}(h:DU (Cs eO eO eO eO as) P):∃k x l y m z n u,as=[.int k x,.int l y,.int m z,.int n u]∧P x y z u:=by
 obtain⟨a,b,c,d,x0,x1,x2,x3,q,e0,e1,e2,e3,g⟩:=yc h
 exact(dc e0).elim fun k0 f0=>(dc e1).elim fun k1 f1=>(dc e2).elim fun k2 f2=>(dc e3).elim fun k3 f3=>⟨k0,x0,k1,x1,k2,x2,k3,x3,by rw[q,f0,f1,f2,f3],g⟩
end
end
structure Pf where
 seg:Str
 data:Bool
 rep:Int
 lock:Bool
 rex:Int
noncomputable abbrev s0(x:String):Str:=Str.ofString x
noncomputable def kZ:Pf:=⟨s0 "",false,0,false,-1⟩
noncomputable def bW(x:Int):Bool:=x.fdiv 16==4
inductive DM where
 |seg|data|rep|lock|barred|none
noncomputable def bj(x:Int):DM:=if x==100||x==101 then .seg else if x==102 then .data else if x==242||x==243 then .rep else if x==240 then .lock else if x==38||x==46||x==54||x==62||x==103 then .barred else .none
noncomputable def l0:DM→Str
 |.seg=>s0 "segment"
 |.data=>s0 "data"
 |.rep=>s0 "repeat"
 |.lock=>s0 "lock"
 |.barred=>s0 "barred"
 |.none=>s0 ""
noncomputable def d6(p:Pf)(x:Int):Option Pf:=match bj x with
  |.barred=>none
  | s=>if 0≤p.rex then none else match s with
    |.seg=>if p.seg != s0 "" then none else some {p with seg:=if x==100 then s0 "fs" else s0 "gs",rex:=-1}
    |.data=>if p.data then none else some {p with data:=true,rex:=-1}
    |.rep=>if p.rep != 0||p.lock then none else some {p with rep:=x,lock:=false,rex:=-1}
    |_=>if p.lock||p.rep != 0 then none else some {p with rep:=0,lock:=true,rex:=-1}
noncomputable def gx:List Int→Pf→Nat→Option (Pf×Nat)
  |[],p,n=>some (p,n)
  | x :: r,p,n=>if bW x then(if 0≤p.rex then none else gx r {p with rex:=x} (n+1))else match bj x with
    |.none=>some (p,n)
    | _=>match d6 p x with
      |some p'=>gx r p' (n+1)
      |none=>none
noncomputable def rp(xs:List Int)(at_:Nat):Option (Pf×Nat):=gx (xs.drop at_) kZ at_
noncomputable def pg(p:Pf):V:=.inst 208 [(s0 "segment",.str false p.seg),(s0 "is_data",.bool false p.data),(s0 "repeat",.int false p.rep),(s0 "is_lock",.bool false p.lock),(s0 "rex",.int false p.rex)]
noncomputable def MV:List Str:=[s0 "segment",s0 "is_data",s0 "repeat",s0 "is_lock",s0 "rex"]
noncomputable def VO(fs:List (Str×V)):Option Pf:=oO (nh (JV (pv fs 0)) (nh (Lc (pv fs 1)) (nh (eO (pv fs 2)) (nh (Lc (pv fs 3)) (eO (pv fs 4)))))) fun p=>some ⟨p.1,p.2.1,p.2.2.1,p.2.2.2.1,p.2.2.2.2⟩
noncomputable def HZ(v:V):Option Pf:=oO (vN v) fun p=>bO (aH (Nat.beq p.1 208) (mX p.2 MV)) (VO p.2)
noncomputable def ib:bM:=fun as KV R=>fv (fT Bq eO as) fun xs at_=>0≤at_∧bN xs.length=true∧xs.length≤90∧(∀p e,rp xs at_.toNat=some (p,e)→KV (.tup [pg p,.int false (Int.ofNat e)]))∧(rp xs at_.toNat=none→R 83)
noncomputable def lr:bM:=fun as KV _=>oT (gU eO as) fun x=>KV (.str false (l0 (bj x)))
noncomputable def gv:bM:=fun as KV R=>fv (fT some eO as) fun v x=>oP (HZ v) fun p=>(∀q,d6 p x=some q→KV (pg q))∧(d6 p x=none→R 83)
noncomputable def kQ(s:Str):List Int:=if aS s (s0 "")then[]else if aS s (s0 "fs")then[100]else[101]
noncomputable def f6(p:Pf):List Int:=kQ p.seg++(if p.data then[102]else[])++(if p.rep==0 then[]else[p.rep])++(if p.lock then[240]else[])++(if 0≤p.rex then[p.rex]else[])
structure Pf.Ok(p:Pf):Prop where
 seg:p.seg=s0 ""∨p.seg=s0 "fs"∨p.seg=s0 "gs"
 rep:p.rep=0∨p.rep=242∨p.rep=243
 lock:p.lock=true→p.rep=0
 rex:p.rex=-1∨(64≤p.rex∧p.rex < 80)
noncomputable def iM:bM:=fun as KV _=>oT (gU some as) fun v=>match HZ v with
  |some p=>p.Ok∧KV (.bytes false (f6 p))
  |none=>False
noncomputable def iq:bM:=fun as KV _=>DU (Cs eO eO eO eO as) fun w r x b=>(0≤w∧w≤1)∧(0≤r∧r≤1)∧(0≤x∧x≤1)∧(0≤b∧b≤1)∧KV (.int false (64+8*w+4*r+2*x+b))
noncomputable def Ms(size:Int):List String:=if size==64 then["rax","rcx","rdx","rbx","rsp","rbp","rsi","rdi","r8","r9","r10","r11","r12","r13","r14","r15"]
 else if size==32 then["eax","ecx","edx","ebx","esp","ebp","esi","edi","r8d","r9d","r10d","r11d","r12d","r13d","r14d","r15d"]
 else if size==16 then["ax","cx","dx","bx","sp","bp","si","di","r8w","r9w","r10w","r11w","r12w","r13w","r14w","r15w"]
 else["al","cl","dl","bl","spl","bpl","sil","dil","r8b","r9b","r10b","r11b","r12b","r13b","r14b","r15b"]
noncomputable def fA(n size:Int):Str:=s0 ((Ms size).getD n.toNat "")
noncomputable def iK(n:Int):Str:=s0 (["","","","","ah","ch","dh","bh"].getD n.toNat "")
noncomputable def Er(name kind:Str)(n size:Int):V:=.inst 789 [(s0 "name",.str false name),(s0 "kind",.str false kind),(s0 "number",.int false n),(s0 "size",.int false size)]
noncomputable def BQ:bM:=fun as KV _=>fv (fT eO eO as) fun n size=>(0≤n∧n < 16)∧(size=8∨size=16∨size=32∨size=64)∧KV (Er (fA n size) (s0 "gpr") n size)
noncomputable def wy:bM:=fun as KV _=>oT (gU eO as) fun n=>(4≤n∧n < 8)∧KV (Er (iK n) (s0 "high") n 8)
noncomputable def ck(d:Int):Str:=s0 (["add","or","adc","sbb","and","sub","xor","cmp"].getD d.toNat "")
noncomputable def qE(n:Int):String:=if n==8 then "8" else if n==16 then "16" else if n==32 then "32" else "64"
noncomputable def lY(d size:Int)(rm r:String)(num:Int):V:=.inst 340 [(s0 "name",.str false (ck d)),(s0 "kinds",.tup [.str true (s0 rm),.str true (s0 r)]),(s0 "opcode",.int false (8*d+(if size==8 then 0 else 1))),(s0 "escape",.int true 0),(s0 "digit",.int true (-1)),(s0 "size",.int true size),
 (s0 "must",.int true 0),(s0 "is_wide",.bool true false),(s0 "number",.int false num),(s0 "places",.tup [.str true (s0 "rm"),.str true (s0 "reg")])]
noncomputable def EU(d:Int):List V:=[lY d 8 "rm8" "r8" (19*d)]
noncomputable def Gi(d:Int):List V:=[lY d 16 "rm16" "r16" (19*d+1),lY d 32 "rm32" "r32" (19*d+2),lY d 64 "rm64" "r64" (19*d+3)]
noncomputable def yO(k:Nat):Option Addr:=match Nat.beq k 1 with
 |true=>some 1151
 |false=>none
noncomputable def oK:bM:=fun as KV _=>fv (fT Hy eO as) fun xs k=>xs.length≤63∧(0≤k∧k < 18)∧∀y,0≤y→KV (.int false y)
inductive L7 where
 |seg|rep|barred|data|lock|rex|none
noncomputable def dp(x:Int):L7:=if x==100||x==101 then .seg else if x==242||x==243 then .rep else if x==38||x==46||x==54||x==62||x==103 then .barred else if x==102 then .data else if x==240 then .lock else if decide (64≤x)&&decide (x < 80)then .rex else .none
noncomputable def jW:bM:=fun as KV _=>oT (gU eO as) fun x=>(dp x=.seg→KV (.str true (s0 "segment")))∧(dp x=.rep→KV (.str true (s0 "repeat")))∧(dp x=.barred→KV (.str true (s0 "barred")))∧(dp x=.data→KV (.str true (s0 "data")))∧
   (dp x=.lock→KV (.str true (s0 "lock")))∧(dp x=.rex→KV (.str true (s0 "rex")))∧(dp x=.none→KV (.str true (s0 "")))
noncomputable def bB(o k:Int):Int:=if o < 0 then 0 else(o.fdiv k).fmod 2
noncomputable def j5:bM:=fun as KV _=>oT (gU eO as) fun o=>KV (.tup [.int false (bB o 8),.int false (bB o 4),.int false (bB o 2),.int false (bB o 1)])
noncomputable def jN:bM:=fun as KV _=>fv (fT some eO as) fun v x=>oP (HZ v) fun p=>KV (pg {p with rex:=x})
noncomputable def B2(d size:Int)(v:V):Prop:=∃num,0≤d∧d < 7∧(size=8∨size=16∨size=32∨size=64)∧ba v (lY d size ("rm"++qE size) ("r"++qE size) num)
noncomputable def gY:bM:=fun as KV _=>oT (gU some as) fun v=>(∃d size,B2 d size v)∧KV (.bool true true)
noncomputable def jf:bM:=fun as KV _=>oT (gU JV as) fun x=>(∃d,0≤d∧d < 7∧x=ck d)∧KV (.list [])
noncomputable def pE(y:Int):Int:=if 127 < y then y - 256 else y
noncomputable def C5:bM:=fun as KV _=>oT (gU Bq as) fun xs=>∃y,xs=[y]∧0≤y∧y < 256∧KV (.int false (pE y))
noncomputable def oQ:bM:=fun as KV _=>oT (gU eO as) fun m=>((64≤m∧m < 128)∨(192≤m∧m < 256))∧(m < 128→KV (.tup [.int true 1,.int false ((m.fdiv 8).fmod 8),.int false (m.fmod 8)]))∧(192≤m→KV (.tup [.int true 3,.int false ((m.fdiv 8).fmod 8),.int false (m.fmod 8)]))
noncomputable def jT:bM:=fun as KV _=>fv (fT Bq eO as) fun xs a=>bN xs.length=true∧0≤a∧a.toNat < xs.length∧KV (.int false (aW xs a.toNat))
noncomputable def jR:bM:=fun as KV _=>xj (v7 eO eO Lc as) fun n size b=>(0≤n∧n < 16)∧(size=8∨size=16∨size=32∨size=64)∧KV (.str false (if size==8&&!b&&decide (4≤n)&&decide (n < 8)then iK n else fA n size))
noncomputable abbrev Mc:=List (Nat×Nat×bM)
noncomputable def yT{α:Type}(a:Nat):List (Nat×α)→Option α
 |[]=>none
 |p::r=>bX (Nat.beq a p.1) (some p.2) (yT a r)
noncomputable def HN{α:Type}(M:α→Prop):List α→Prop
 |[]=>True
 |p::r=>M p∧HN M r
theorem Ki{α:Type}{M:Nat→α→Prop}{l:List (Nat×α)}{a:Nat}{y:α}(e:yT a l=some y)(h:HN (fun p=>M p.1 p.2) l):M a y:=by
 induction l with
 |nil=>cases e
 |cons p r ih=>exact iV e (fun q e=>by rw[Nat.eq_of_beq_eq_true q,←af e];exact h.1) fun _ e=>ih e h.2
theorem MO{α:Type}{f:α→Bool}{l:List α}(h:bH f l=true):HN (fun p=>f p=true) l:=by
 induction l with
 |nil=>trivial
 |cons p r ih=>exact ij h fun a b=>⟨a,ih b⟩
theorem Hd{α:Type}{f:Nat→Bool}{l:List (Nat×α)}{a:Nat}(h:bH (fun p=>f p.1) l=true)(e:(yT a l).isSome=true):f a=true:=
 sv e fun y e=>Ki (M:=fun a _=>f a=true) e (MO h)
noncomputable def Iw:Mc:=[(155,41,lr),(226,41,gv),(219,41,jN),(1162,41,oK),(1169,41,jW),(127,41,iq),(134,41,j5),(205,41,iM),(814,41,BQ),(821,41,wy),(351,41,gY),(358,41,jf),(120,41,C5),(849,41,oQ),(863,41,jT)]
noncomputable def CT(lv:Nat)(a:Nat):Option (Nat×bM):=match Nat.ble 1 lv with
 |false=>none
 |true=>yT a Iw
noncomputable def KG:Stmt→Expr
 |.While t _ _ _=>t
 |_=>.Constant .none 0 ⟨0,0,0,0⟩
noncomputable def J9:Stmt→List Stmt
 |.While _ b _ _=>b
 |_=>[]
noncomputable def Om(E:Ev)(t:Expr)(body:List Stmt)(sc:Scope)(f:cb Fl):cb Fl:=⟨fun σ Q=>(E.tr t sc).run σ fun g ai=>match g with
  | true=>(E.ss body sc).run ai fun r aw=>match r with
    |.next=>f.run aw Q
    |.cont=>f.run aw Q
    |.brk=>Q .next aw
    |.ret v=>Q (.ret v) aw
  |false=>Q .next ai⟩
noncomputable def PE(lv:Nat):df:={ig with C:=CT lv,NM:=yO}
structure FD where
 nm:Str
 ks:List Str
 op:Int
 dg:Int
 sz:Int
 pl:List Str
noncomputable def Js(a b c d:String)(s:Int):Str:=if s==8 then s0 a else if s==16 then s0 b else if s==32 then s0 c else s0 d
noncomputable def Qy(s:Int):Str:=Js "rm8" "rm16" "rm32" "rm64" s
noncomputable def rS(s:Int):Str:=Js "r8" "r16" "r32" "r64" s
noncomputable def VG(s:Int):Str:=Js "imm8" "imm16" "imm32" "simm32" s
noncomputable def WE(s:Int):Str:=Js "al" "ax" "eax" "rax" s
noncomputable def Qz(op s:Int):Int:=if s==8 then op else op+1
noncomputable def OW:List Int:=[8,16,32,64]
noncomputable def FT(nm:Str)(op:Int):List FD:=OW.map fun s=>⟨nm,[Qy s,rS s],Qz op s,-1,s,[s0 "rm",s0 "reg"]⟩
noncomputable def PA(nm:Str)(op:Int):List FD:=OW.map fun s=>⟨nm,[rS s,Qy s],Qz op s,-1,s,[s0 "reg",s0 "rm"]⟩
noncomputable def Lu(nm:Str)(op dg:Int):List FD:=[16,32,64].map fun s=>⟨nm,[Qy s,s0 "simm8"],op,dg,s,[s0 "rm",s0 "imm"]⟩
noncomputable def Pa(nm:Str)(op:Int):List FD:=OW.map fun s=>⟨nm,[WE s,VG s],Qz op s,-1,s,[s0 "fixed",s0 "imm"]⟩
noncomputable def PX(nm:Str)(op dg:Int):List FD:=OW.map fun s=>⟨nm,[Qy s,VG s],Qz op s,dg,s,[s0 "rm",s0 "imm"]⟩
noncomputable def sd(nm:Str)(op dg:Int):List FD:=OW.map fun s=>⟨nm,[Qy s],Qz op s,dg,s,[s0 "rm"]⟩
noncomputable def lX(nm:Str)(d:Int):List FD:=FT nm (8*d)++(PA nm (8*d+2)++(Lu nm 131 d++(Pa nm (8*d+4)++PX nm 128 d)))
noncomputable def M4:List FD:=lX (s0 "add") 0++(lX (s0 "or") 1++(lX (s0 "adc") 2++(lX (s0 "sbb") 3++(lX (s0 "and") 4++(lX (s0 "sub") 5++(lX (s0 "xor") 6++(lX (s0 "cmp") 7 ++
 (FT (s0 "test") 132++(Pa (s0 "test") 168++(PX (s0 "test") 246 0++(sd (s0 "inc") 254 0++(sd (s0 "dec") 254 1++(sd (s0 "not") 246 2++sd (s0 "neg") 246 3)))))))))))))
noncomputable def Fw:List Str→List V
 |[]=>[]
 |x::r=>.str true x::Fw r
noncomputable def V1(f:FD)(n:Int):V:=.inst 340 [(s0 "name",.str true f.nm),(s0 "kinds",.tup (Fw f.ks)),(s0 "opcode",.int true f.op),(s0 "escape",.int true 0),(s0 "digit",.int true f.dg),(s0 "size",.int true f.sz),
 (s0 "must",.int true 0),(s0 "is_wide",.bool true false),(s0 "number",.int true n),(s0 "places",.tup (Fw f.pl))]
noncomputable def KP(k:V)(v:V):List (V×List V)→List (V×List V)
  |[]=>[(k,[v])]
  | (j,l)::r=>match bY k j with
    |true=>(j,bJ l [v])::r
    |false=>(j,l)::KP k v r
noncomputable def rH(key:FD→V):List FD→Int→List (V×List V)→List (V×List V)
 |[],_,acc=>acc
 |f::r,n,acc=>rH key r (n+1) (KP (key f) (V1 f n) acc)
noncomputable def rn:List (V×List V)→List (V×V)
 |[]=>[]
 |(k,l)::r=>(k,.list l)::rn r
noncomputable def OT:List FD→Int→List V
 |[],_=>[]
 |f::r,n=>V1 f n::OT r (n+1)
noncomputable def dG:V:=.inst 1151 [(s0 "forms",.list (OT M4 0)),(s0 "by_name",.dict (rn (rH (fun f=>.str true f.nm) M4 0 []))),(s0 "by_code",.dict (rn (rH (fun f=>.tup [.int true 0,.int true 0,.int true f.op]) M4 0 [])))]
section
structure eY(h:Heap)(K:Frag):Prop where
 kin:K.In h
 lam:∀l∈jv,qS h K l=rj l
 fn:∀p∈v8.list,qO K p.1=nv p.2
 gl:∀p∈o7.list,Ez h p.2=DR p.2
 xc:vZ K=wY
 cls:MH K=true
 xcb:RP K=true
 ex:h.nsMap mainGlobals "Exception"=none
 bx:h.nsMap builtinsNs "Exception"=some (.type "Exception")
 sm:∃o,h.get? sysModules=some o
 ns:h.Ns mainGlobals (h.nsMap mainGlobals)
 nb:h.Ns builtinsNs (h.nsMap builtinsNs)
 lim:h.Ns cStatics (h.nsMap cStatics)
 lim0:h.nsMap cStatics "sys.recursionlimit"=none
noncomputable def kA:List Addr:=jv.map (·.P)
theorem FQ{h B:Heap}{a:Addr}{m:Str→Option Value}(k:∀o,h.get? a=some o→B.get? a=some o)(n:h.Ns a m):B.Ns a m:=
 let ⟨o,es,ep,e,r⟩:=n;⟨o,es,ep,k _ e,r⟩
section
variable {h B:Heap}{K:Frag}{prog:Program}{w:World}{T:Nat→V}
set_option tactic.hygienic true in
theorem i9(S:eY h K){l:zr}(hl:l∈jv):CodeHd h l.code l.P∧h.get? l.P=some (tabObj #[])∧K.lookup l.P=none:=by
 have e:=S.lam l hl
 unfold qS rj at e
 refine bC (Prod.mk.inj e) fun e1 e=>?_
 refine bC (Prod.mk.inj e) fun e2 e3=>?_
 refine⟨?_,e2,Option.isNone_iff_eq_none.mp e3⟩
 split at e1
 case h_2=>cases e1
 rename_i c od vs sl hc
 simp only [Option.some.injEq,Prod.mk.injEq]at e1
 refine AH e1 fun rq0 a1 a2 a3=>?_;subst rq0
 refine bC (Bool.and_eq_true_iff.mp a3) fun a3 a4=>?_
 split at a3
 case h_2=>cases a3
 rename_i x1 t1 x2 t2 x3 x4 t4 q1 q2 q3 q4
 refine⟨_,vs,x1,t1,x2,t2,x3,x4,t4,hc,rfl,rfl,a1,a2,q1,q2,q3,q4,fun z=>?_⟩
 rw[z,Nat.beq_refl]at a4
 cases a4
theorem HM(S:eY h K)(k:∀b o,h.get? b=some o→b∉kA→B.get? b=some o):K.In B:=fun a o e=>k a o (S.kin a o e) fun q=>by
 refine av (List.mem_map.mp q) fun l hl rq2=>?_;subst rq2
 rw[(i9 S hl).2.2]at e
 cases e
theorem KN(S:eY h K)(x:Str)(v:V)(e:G0 x=some v):∃r,(∀P H ρ,aj P H ρ v r)∧(h.nsMap mainGlobals x=some r∨(h.nsMap mainGlobals x=none∧h.nsMap builtinsNs x=some r)):=by
  have e:o7.getG x (Lk x.cps.toList 0)=some v:=e
  refine bq (nE.getG_mem e) fun k y hm hy=>?_
  have hy:=pT hy
  have hx:x=⟨y.toArray⟩:=by rw[←hy]
  have g:=S.gl _ hm
  rw[hx]
  unfold Ez DR at g
  dsimp only at g
  cases v with
  | blt s=>
    refine bC (Prod.mk.inj g) fun _ g=>?_
    refine bC (Prod.mk.inj g) fun g1 g2=>?_
    exact⟨_,fun _ _ _=>.blt,.inr ⟨Option.isNone_iff_eq_none.mp g2,g1⟩⟩
  | typ s=>
    refine bC (Prod.mk.inj g) fun _ g=>?_
    refine bC (Prod.mk.inj g) fun g1 g2=>?_
    exact⟨_,fun _ _ _=>.typ,.inr ⟨Option.isNone_iff_eq_none.mp g2,g1⟩⟩
  | _=>
    refine bC (Prod.mk.inj g) fun g1 g=>?_
    refine av (Option.bind_eq_some_iff.mp g1) fun r h1 h2=>?_
    exact⟨r,yn h2,.inl h1⟩
theorem BI(S:eY h K)(a:Addr)(i:ag)(e:HV a=some i):AD K a i:=
 have m:=nE.get_mem e
 Jf (S.fn _ m) (List.all_eq_true.mp AQ _ m)
theorem yv(S:eY h K)(a:Addr)(e:(HV a).isSome=true):keepIn K (.ref a)=true:=by
 refine cf (Option.isSome_iff_exists.mp e) fun i e=>?_
 refine av ((BI S a i e).obj) fun Z hK _=>?_
 unfold keepIn
 dsimp only
 rw[hK]
theorem k6(S:eY h K):(∀p∈Jz.list,Nat.blt p.1 200=false→∀q∈p.2,V2 K p.1 q.1 q.2=true)∧(∀p∈LN.list,Nat.blt p.1 200=false→Gb K p.1 p.2=true∧keepIn K (.ref p.1)=true)∧∀l,RN 517=some l→∀q∈l,Fq K 517 q.1 q.2=true:=by
 have e:=S.cls
 unfold MH at e
 refine bC (Bool.and_eq_true_iff.mp e) fun e e3=>?_
 refine bC (Bool.and_eq_true_iff.mp e) fun e1 e2=>?_
 refine⟨fun p hp hb q hq=>?_,fun p hp hb=>?_,fun l hl q hq=>?_⟩
 ·have z:=List.all_eq_true.mp e1 p hp
  rw[hb,Bool.false_or]at z
  exact List.all_eq_true.mp z q hq
 ·have z:=List.all_eq_true.mp e2 p hp
  rw[hb,Bool.false_or]at z
  exact Bool.and_eq_true_iff.mp z
 ·rw[hl]at e3
  exact List.all_eq_true.mp e3 q hq
set_option tactic.hygienic true in
theorem Qe(S:eY h K):∀C name x,RX C name=some x→match x with|.own=>FO K C name|.fn f=>w9 K C name f:=by
 intro C name x e
 unfold RX R5 at e
 split at e
 case h_2=>cases e
 rename_i l hl
 split at hl
 ·cases hl
 rename_i hb
 have m:(C,l)∈Jz.list:=nE.get_mem hl
 rw[fM]at e
 have z:=(k6 S).1 _ m hb _ (cj e)
 cases x with
 |own=>exact IW z
 |fn f=>exact Ct z
set_option tactic.hygienic true in
theorem J8(S:eY h K):∀C f,SE C=some f→vt K C f∧keepIn K (.ref C)=true:=by
 intro C f e
 unfold SE at e
 split at e
 ·cases e
 rename_i hb
 have z:=(k6 S).2.1 _ (nE.get_mem e) hb
 exact⟨FR z.1,z.2⟩
set_option tactic.hygienic true in
theorem Ob(S:eY h K):∀C name f,SH C name=some f→wX K C name f:=by
 intro C name f e
 unfold SH at e
 split at e
 case h_2=>cases e
 rename_i l hl
 have hC:C=517:=by
  unfold RN at hl
  split at hl
  ·rename_i hb
   exact Nat.eq_of_beq_eq_true hb
  ·cases hl
 subst hC
 rw[fM]at e
 have z:=(k6 S).2.2 _ hl _ (cj e)
 exact DD z
theorem HU:HV 36=some Sl:=by kernel_rfl
theorem Pc{x:Str}{C:Addr}(e:X0 x=some C):C=83:=by
 unfold X0 at e
 split at e
 ·cases e;rfl
 ·cases e
theorem K7(S:eY h K):wF K 83 36 Sl:=by
 have e:=S.xcb
 unfold RP at e
 simp only [Bool.and_eq_true,beq_iff_eq]at e
 obtain⟨⟨⟨⟨⟨⟨e1,e2⟩,e3⟩,e4⟩,e5⟩,e6⟩,e7⟩:=e
 exact⟨e1,e2,e3,e4,e5,e6,BI S _ _ HU,by kernel_rfl,by kernel_rfl,⟨_,_,_,_,_,_,_,_,_,_,_,_,_,_,rfl,rfl⟩,by kernel_rfl,by kernel_rfl,by kernel_rfl,by kernel_rfl⟩
end
end
section
noncomputable def Kc(n:Nat):V→Bool:=@Nat.rec (fun _=>V→Bool) (fun _=>false) (fun _ f v=>match v with
 |.ref _=>false
 |.named _=>false
 |.tup vs=>bH f vs
 |.list vs=>bH f vs
 |.inst _ fs=>bH (fun p=>f p.2) fs
 |.dict aU=>bH (fun p=>aH (f p.1) (f p.2)) aU
 |_=>true) n
theorem Ig{P:Pm}{H:HP}{ρ:List Addr}(n:Nat):DA P H ρ (Kc n):=by
  induction n with
  |zero=>exact fun _ _ _ e=>nomatch e
  | succ n ih=>
    intro v r hv e
    cases hv with
    |none=>exact .none
    |bool=>exact .bool
    |int=>exact .int
    |str h=>exact .str h
    |bytes=>exact .bytes
    |irow a b=>exact .irow a b
    |tup a b=>exact .tup a (fI ih b e)
    |inst a b c=>exact .inst a b (qu ih c e)
    |list a b=>exact .list a (fI ih b e)
    |dict a b c d=>exact .dict a b c (qF ih d e)
    |ref=>cases e
    |glob=>exact .glob
    |blt=>exact .blt
    |typ=>exact .typ
    |named a=>cases e
    |rng a=>exact .rng a
theorem Az:Kc 6 dG=true:=by kernel_rfl
noncomputable abbrev TI:Nat→V:=fun _=>dG
theorem vy(w:World):∀k H ρ r,aj (pm w TI) H ρ (TI k) r→aj (pm w TI) H [] (TI k) r:=fun _ _ _ _ h=>Ig 6 _ _ h Az
noncomputable def wJ:List (Str×V):=match dG with
 |.inst _ fs=>fs
 |_=>[]
theorem F3:dG=.inst 1151 wJ:=by kernel_rfl
theorem GX:R5 1151=some xA:=by kernel_rfl
theorem wq:(xA.all fun q=>match q.2 with|.fn _=>(lk q.1 wJ).isNone|.own=>true)=true:=by kernel_rfl
theorem Ie{c:df}(hc:c.CM=RX):∀k D,yO k=some D→QO TI c k D:=by
 intro k D e
 unfold yO at e
 split at e
 case h_2=>cases e
 cases e
 refine⟨wJ,F3,fun name f e=>?_⟩
 rw[hc]at e
 have e:(match R5 1151 with|some l=>lk name l|none=>none)=some (.fn f):=e
 rw[GX]at e
 dsimp only at e
 rw[fM]at e
 have z:=List.all_eq_true.mp wq _ (cj e)
 exact Option.isNone_iff_eq_none.mp z
theorem Br{α:Type}{l:List α}{n:Nat}(h:l.length=n+1){G:Prop}(k:∀a t,l=a::t→t.length=n→G):G:=by
 cases l with
 |nil=>cases h
 |cons a t=>exact k a t rfl (Nat.succ.inj h)
theorem WA{α:Type}{a:Array α}(h:a.size=6):∃k0 k1 k2 k3 k4 k5,a=#[k0,k1,k2,k3,k4,k5]:=
 Br (l:=a.toList) h fun a0 _ e h=>Br h fun a1 _ e1 h=>Br h fun a2 _ e2 h=>Br h fun a3 _ e3 h=>Br h fun a4 _ e4 h=>Br h fun a5 _ e5 h=>by
  refine⟨a0,a1,a2,a3,a4,a5,?_⟩
  rw[e1,e2,e3,e4,e5,List.eq_nil_of_length_eq_zero h]at e
  exact congrArg List.toArray e
section
variable {h B:Heap}{K:Frag}{prog:Program}{w:World}
set_option tactic.hygienic true in
theorem MY(S:eY h K):∃nm q N bs hdct sn sub ab col dd k0 k1 k2 k3 k5,K.lookup 83=some (IT nm q 83 N bs [46] hdct sn sub ab col dd k0 k1 k2 k3 k5):=by
 have e:=S.xc
 unfold vZ wY at e
 split at e
 case h_2=>cases e
 rename_i c dd cd sl hK
 simp only [Option.some.injEq,Prod.mk.injEq,List.cons.injEq,and_true]at e
 refine w5 e fun rq0 e2 e3 e4 e5=>?_;subst rq0
 refine Gk (WA (Nat.eq_of_beq_eq_true e4)) fun k0 k1 k2 k3 k4 k5 rq6=>?_;subst rq6
 have e5:k4=some (.builtin nX):=e5
 subst e5
 obtain⟨nm,bs,mro,ns,q,hdct,sn,sub,ab,col,hd⟩:=cd
 dsimp only at e2 e3
 subst e2 e3
 exact⟨nm,q,ns,bs,hdct,sn,sub,ab,col,dd,k0,k1,k2,k3,k5,hK⟩
noncomputable def HA(h B:Heap):Prop:=∃bm ob,h.nsMap mainGlobals "__builtins__"=some (.ref bm)∧bm≠builtinsNs∧B.get? bm=some ob∧ob.cls=.type "module"∧ob.dict=some builtinsNs∧ob.data=.plain
theorem wD:∃i,HV 1183=some i∧yx i:=by
 refine⟨Kv,by kernel_rfl,by kernel_rfl,by kernel_rfl,⟨_,_,_,_,_,_,_,_,_,rfl⟩,by kernel_rfl,by kernel_rfl⟩
theorem zZ:X0 "DecodeError"=some 83∧G0 "DecodeError"=some (.glob 83):=⟨by kernel_rfl,by kernel_rfl⟩
theorem jm{a:Nat}(h1:a≠1185)(h2:a≠1227):a∉kA:=by
 show a∉[1185,1227]
 simp only [List.mem_cons,List.not_mem_nil,or_false,not_or]
 exact⟨h1,h2⟩
theorem EX (S:eY h K) (k:∀b o,h.get? b=some o→b∉kA→B.get? b=some o) (hb:HA h B) {C:Addr→Option (Nat×bM)} {J:Nat→Nat→Option JT}
    (hC:∀a,(C a).isSome=true→(HV a).isSome=true) (hS:∀a m Sp,C a=some (m,Sp)→dM prog w TI B a m Sp):aY prog w TI {ig with C:=C,NM:=yO,J:=J} K B:=by
  have kin:=HM S k
  have nG:B.Ns mainGlobals (h.nsMap mainGlobals):=FQ (fun o e=>k _ o e (jm (by decide) (by decide))) S.ns
  have nB:B.Ns builtinsNs (h.nsMap builtinsNs):=FQ (fun o e=>k _ o e (jm (by decide) (by decide))) S.nb
  have nL:B.NoLimit:=⟨_,FQ (fun o e=>k _ o e (jm (by decide) (by decide))) S.lim,S.lim0⟩
  exact {
    kin:=kin
    g:=⟨_,_,nG,nB,fun x v e=>KN S x v e⟩
    nolimit:=nL
    fi:=fun a i e=>BI S a i e
    keep:=fun a e=>by
      rcases e with e|e|e
      · exact yv S a e
      · exact yv S a (hC a e)
      · refine cf (Option.isSome_iff_exists.mp e) fun f e=>?_
        exact(J8 S a f e).2
    cm:=Qe S
    cs:=Ob S
    ci:=fun a f e=>(J8 S a f e).1
    named:=vy w
    spec:=hS
    xc:=fun x D e=>by
      obtain rfl:=Pc e
      obtain⟨nm,q,N,bs,hdct,sn,sub,ab,col,dd,k0,k1,k2,k3,k5,hK⟩:=MY S
      have z:=S.xcb
      unfold RP at z
      simp only [Bool.and_eq_true,beq_iff_eq]at z
      exact HC (K7 S) kin nL nG S.ex nB S.bx (kin _ _ hK) z.2
    nm:=Ie rfl
    low:=by
      refine cf S.sm fun o e=>?_
      exact⟨o,k _ o e (jm (by decide) (by decide))⟩
    lamP:=fun l hl=>by
      refine SU ((i9 S hl).1) fun o vs file tf flags tg inF text tt e r=>?_
      refine⟨o,vs,file,tf,flags,tg,inF,text,tt,k _ _ e ?_,r⟩
      have:l=⟨1189,1185,"ahead",779,47,"_law_read_right"⟩∨l=⟨1231,1227,"iset",833,22,"_law_refused"⟩:=by
        rcases List.mem_cons.mp hl with e|e
        · exact .inl e
        · exact .inr (List.mem_singleton.mp e)
      rcases this with rfl|rfl
      · exact jm (by decide) (by decide)
      · exact jm (by decide) (by decide)
    bm:=let ⟨bm,ob,h1,h2,h3,h4,h5,h6⟩:=hb;⟨_,bm,ob,nG,h1,h2,h3,h4,h5,h6⟩
    heard:=wD
    exc:=zZ}
end
theorem ir{prog:Program}{w:World}{T:Nat→V}{base:Heap}{a:Addr}{m:Nat}{S S':bM}(x:dM prog w T base a m S)(h:∀R as KV,S' as KV R→∃bs,dm T w as bs∧S bs (bo T w KV) R):dM prog w T base a m S':=by
 intro B cx R as bU KV H ae s Q' EE k O hS I hout X hv an
 refine av (h R as KV hS) fun bs hsm he=>?_
 exact x B cx R bs bU _ H ae s Q' EE k O he I hout X (hsm _ _ hv) fun v r ob' H' ρ' s' I' L' R' ⟨u,hu,hk⟩=>an u r ob' H' ρ' s' I' L' (hu _ _ R') hk
theorem vz{prog:Program}{w:World}{T:Nat→V}{base:Heap}{K:Frag}{P:df→Prop}(G:∀c,P c→aY prog w T c K base){a:Addr}{i:ag}{m:Nat}{Sp:bM}(hi:∀c,P c→c.FI a=some i)
  (h:∀R as KV,Sp as KV R→∃c,P c∧∃bs,dm T w as bs∧au (ev {c with R:=R} m) i bs ⟨.nil,0⟩ (bg (bo T w KV))):dM prog w T base a (m+1) Sp:=by
 intro B cx R as bU KV H ae s Q' EE k O hS I hout X hv an
 obtain⟨c,hc,bs,hsm,he⟩:=h R as KV hS
 exact aV (G c hc) (hi c hc) (Sp:=fun as' KV' R'=>as'=as∧R'=R∧KV'=KV) (fun R' as' KV' ⟨e1,e2,e3⟩=>by subst e1 e2 e3;exact⟨bs,hsm,he⟩) B cx R as bU KV H ae s Q' EE k O ⟨rfl,rfl,rfl⟩ I hout X hv an
end
structure Dc where
 P:Pf
 n:Nat
 d:Int
 is8:Bool
 w:Int
 md:Bool
 m:Int
 y:Int
noncomputable def VT(p:Pf):V:=.inst 208 [(s0 "segment",.str false p.seg),(s0 "is_data",.bool true p.data),(s0 "repeat",.int true p.rep),(s0 "is_lock",.bool true p.lock),(s0 "rex",.int false p.rex)]
noncomputable def Km(D:Dc):bM:=fun as KV _=>fv (fT Bq eO as) fun xs a=>(0≤a∧bN xs.length=true∧xs.length≤90∧rp xs a.toNat=some (D.P,D.n))∧KV (.tup [VT D.P,.int false (Int.ofNat D.n)])
noncomputable def wQ(m:Int):Bool:=match m==102 with
  |true=>true
  | false=>match m==242 with
    |true=>true
    |false=>m==243
noncomputable def FV(D:Dc):bM:=fun as KV _=>DU (Cs JQ eO eO eO as) fun _ m e o=>match e==0 with
  | true=>match m==0 with
    |true=>o=8*D.d+(match D.is8 with|true=>0|false=>1)∧KV (.list (match D.is8 with|true=>EU D.d|false=>Gi D.d))
    | false=>match wQ m with
      |true=>o=8*D.d+(match D.is8 with|true=>0|false=>1)∧KV (.list [])
      |false=>False
  |false=>False
noncomputable def yZ(D:Dc):bM:=fun as KV _=>oT (gU eO as) fun o=>o=D.P.rex∧KV (.tup [.int true D.w,.int false (bB o 4),.int false (bB o 2),.int false (bB o 1)])
noncomputable def oG(D:Dc):bM:=fun as KV _=>fv (fT Bq eO as) fun xs a=>match D.md with
  |true=>(0≤a∧bN xs.length=true∧a.toNat+1 < xs.length∧aW xs a.toNat=D.m∧aW xs (a.toNat+1)=D.y)∧KV (.tup [.int true 1,.int false ((D.m.fdiv 8).fmod 8),.int false (D.m.fmod 8),.int true (-1),.int false (pE D.y),.int true 1,.int false (a+2)])
  |false=>(0≤a∧bN xs.length=true∧a.toNat < xs.length∧aW xs a.toNat=D.m)∧KV (.tup [.int true 3,.int false ((D.m.fdiv 8).fmod 8),.int false (D.m.fmod 8),.int true (-1),.int true 0,.int true 0,.int false (a+1)])
noncomputable def L3:List Str:=[s0 "begin",s0 "prefixes",s0 "code_at",s0 "w",s0 "r",s0 "x",s0 "b",s0 "escape",s0 "opcode",s0 "must",s0 "modrm_at",s0 "mod",s0 "reg",s0 "rm",s0 "sib",s0 "disp",s0 "width",s0 "rest_at"]
noncomputable def JB(v:V):Bool:=match eO v with
 |some _=>true
 |none=>false
noncomputable def zY(v:V):Int:=match eO v with
 |some x=>x
 |none=>0
noncomputable def Qu(v:V):Bool:=match v with
 |.inst C fs=>aH (Nat.beq C 964) (aH (mX fs L3) (aH (JB (pv fs 7)) (JB (pv fs 8))))
 |_=>false
noncomputable def PQ(v:V):Int:=match v with
 |.inst _ fs=>zY (pv fs 8)
 |_=>0
noncomputable def E0:bM:=fun as KV _=>fv (fT some some as) fun _ fr=>Qu fr=true∧true=true∧(0≤PQ fr∧PQ fr < 56)∧KV (.bool true true)
noncomputable def j2(n size:Int)(b:Bool):Bool:=match size==8 with
  | true=>match b with
    |true=>false
    |false=>aH (decide (4≤n)) (decide (n < 8))
  |false=>false
noncomputable def Je(n size:Int)(b:Bool):V:=.inst 789 [(s0 "name",.str false (match j2 n size b with|true=>iK n|false=>fA n size)),(s0 "kind",.str false (match j2 n size b with|true=>s0 "high"|false=>s0 "gpr")),(s0 "number",.int false n),(s0 "size",.int false size)]
noncomputable def De:bM:=fun as KV _=>xj (v7 eO eO Lc as) fun n size b=>(0≤n∧n < 16)∧(size=8∨size=16∨size=32∨size=64)∧KV (Je n size b)
noncomputable def Lx(rm b disp size:Int)(seg:Str):V:=.inst 680 [(s0 "kind",.str true (s0 "mem")),(s0 "base",Er (fA (rm+8*b) 64) (s0 "gpr") (rm+8*b) 64),(s0 "index",.none),(s0 "scale",.int true 1),(s0 "worth",.int false disp),(s0 "size",.int false size),(s0 "segment",.str false seg),(s0 "name",.str true (s0 ""))]
noncomputable def ud:List V→Option (List Int×Str)
  |[]=>none
  | a :: r=>match r with
    | []=>match JV a with
      |some s=>some ([],s)
      |none=>none
    | _ :: _=>match eO a with
      | some x=>match ud r with
        |some p=>some (x::p.1,p.2)
        |none=>none
      |none=>none
noncomputable def VI(l:List Int):Int:=match Nat.beq l.length 7 with
 |true=>aW l 0
 |false=>0
noncomputable def CL:bM:=fun as KV _=>fv (ud as) fun l seg=>VI l=1∧(0≤aW l 1∧aW l 1 < 8∧aW l 1≠4)∧(aW l 5=0∨aW l 5=1)∧KV (Lx (aW l 1) (aW l 5) (aW l 3) (aW l 6) seg)
noncomputable def LR(D:Dc):Mc:=[(233,91,Km D),(1120,41,FV D),(134,41,yZ D),(877,91,oG D),(884,91,CL),(987,41,E0),(1001,91,De),(351,41,gY),(358,41,jf)]
noncomputable def CD(D:Dc)(a:Nat):Option (Nat×bM):=yT a (LR D)
noncomputable def HJ(D:Dc):df:={ig with C:=CD D,NM:=yO}
noncomputable def U1(p:Pf):V:=.tup [.str false p.seg,.bool false p.data,.int false p.rep,.bool false p.lock,.int false p.rex]
noncomputable def B4:bM:=fun as KV _=>oT (gU Hy as) fun xs=>xs.length≤6∧(∀p e,gx xs kZ 0=some (p,e)→KV (.tup [U1 p,.int false (Int.ofNat e)]))∧(gx xs kZ 0=none→KV .none)
noncomputable def d3:List Int→Prop
 |[]=>True
 |x::r=>(0≤x∧x < 256)∧d3 r
noncomputable def qb(v:V):Option (List Int):=match v with
  |.irow _ xs=>some xs
  | .list vs=>match jF vs with
    |some l=>some (ph l)
    |none=>none
  |_=>none
noncomputable def fy:bM:=fun as KV _=>fv (fT some some as) fun v u=>match qb v with
    | some xs=>match qb u with
      |some ah=>xs.length≤6∧ah.length≤3∧d3 xs∧d3 ah∧KV (.bool true true)
      |none=>False
    |none=>False
noncomputable def kJ:bM:=fun as KV _=>fv (fT some eO as) fun v _=>match qb v with
  |some xs=>xs.length≤3∧∀ys:List Int,ys.Perm xs→KV (.irow false ys)
  |none=>False
noncomputable def fu:bM:=fun as KV _=>oT (gU Hy as) fun xs=>xs.length≤63∧KV (.bool true true)
noncomputable def JH:bM:=fun as KV R=>fv (fT Bq eO as) fun xs a=>(0≤a∧bN xs.length=true∧xs.length≤90)∧(∀p e,rp xs a.toNat=some (p,e)→KV (.tup [pg p,.int false (Int.ofNat e)]))∧(rp xs a.toNat=none→R 83)
structure Ln where
 d:Int
 size:Int
 word:Str
 lock:Bool
 base:Int
 number:Int
 idle:Int
 has:Bool
 disp:Int
noncomputable def bI(b:Bool):Int:=match b with
 |true=>1
 |false=>0
noncomputable def Ln.rexv(L:Ln):Int:=64+8*bI (L.size==64)+4*L.number.fdiv 8+2*L.idle+L.base.fdiv 8
noncomputable def Ln.legacy(L:Ln):List Int:=kQ L.word++(if L.size==16 then[102]else[])++(if L.lock then[240]else[])
noncomputable def Ln.rexl(L:Ln):List Int:=if L.has then[L.rexv]else[]
noncomputable def Ln.t0(L:Ln):Int:=8*L.d+bI (decide (8 < L.size))
noncomputable def Ln.t1(L:Ln):Int:=64+8*L.number.fmod 8+L.base.fmod 8
noncomputable def Ln.pf(L:Ln):Pf:=⟨L.word,L.size==16,0,L.lock,if L.has then L.rexv else -1⟩
structure Ln.Ok(L:Ln):Prop where
 d:0≤L.d∧L.d < 7
 size:L.size=8∨L.size=16∨L.size=32∨L.size=64
 word:L.word=s0 ""∨L.word=s0 "fs"∨L.word=s0 "gs"
 base:0≤L.base∧L.base < 16∧L.base.fmod 8≠4
 number:0≤L.number∧L.number < 16
 idle:L.idle=0∨L.idle=1
 has:L.has=false→L.rexv=64
 disp:0≤L.disp∧L.disp < 256
noncomputable def mu(n size:Int)(b:Bool):Str:=if size==8&&!b&&decide (4≤n)&&decide (n < 8)then iK n else fA n size
noncomputable def lT(b:Bool):Str:=match b with
 |true=>s0 "lock"
 |false=>s0 ""
noncomputable def Qk(L:Ln):V:=.tup [.str false (ck L.d),.str false (lT L.lock),.tup [.tup [.str false (s0 "mem"),.str false (fA L.base 64),.str false (s0 ""),.int false 1,.int false (L.disp - 256*bI (decide (127 < L.disp))),.int false L.size,.str false L.word,.str false (s0 "")],.tup [.str false (s0 "reg"),.str false (mu L.number L.size L.has)]]]
noncomputable def dK(lg rx:List Int)(L:Ln):V:=.tup [.irow false lg,.irow false rx,.irow false [L.t0,L.t1,L.disp],Qk L]
noncomputable def rz:bM:=fun as KV _=>oT (gU Hy as) fun xs=>xs.length≤63∧∀L:Ln,L.Ok→
    ((L.legacy=[]→(L.rexl=[]→KV (dK [] [] L))∧(∀r,L.rexl=[r]→KV (dK [] [r] L)))∧
     (∀x,L.legacy=[x]→(L.rexl=[]→KV (dK [x] [] L))∧(∀r,L.rexl=[r]→KV (dK [x] [r] L))))∧
     (∀x y,L.legacy=[x,y]→(L.rexl=[]→KV (dK [x,y] [] L))∧(∀r,L.rexl=[r]→KV (dK [x,y] [r] L)))∧
     (∀x y z,L.legacy=[x,y,z]→(L.rexl=[]→KV (dK [x,y,z] [] L))∧(∀r,L.rexl=[r]→KV (dK [x,y,z] [r] L)))
noncomputable def FL:Mc:=(233,91,JH)::(1176,91,B4)::(1218,91,jR)::Iw
noncomputable def CB(a:Nat):Option (Nat×bM):=yT a FL
noncomputable def CC(a:Nat):Option (Nat×bM):=yT a ((1190,141,fy)::FL)
noncomputable def ic(l c l' c':Nat):Bool:=aH (Nat.beq l l') (Nat.beq c c')
noncomputable def JC (l c:Nat):Option JT:=match ic l c 788 22 with
  |true=>some .itemI
  | false => match ic l c 792 21 with
    |true=>some .itemS
    | false => match ic l c 793 23 with
      |true=>some .itemI
      | false => match ic l c 798 11 with
        |true=>some .itemI
        | false => match ic l c 799 24 with
          |true=>some .bit
          | false => match ic l c 799 50 with
            |true=>some .bit
            | false => match ic l c 799 76 with
              |true=>some .bit
              | false => match ic l c 818 29 with
                |true=>some .itemI
                | false=>match ic l c 819 21 with
                  |true=>some .itemS
                  | false=>match ic l c 826 14 with
                    |true=>some .itemI
                    | false=>match ic l c 830 11 with
                      |true=>some .itemS
                      |false=>none
noncomputable def OF:df:={ig with C:=CB,NM:=yO,J:=JC}
noncomputable def Og:df:={ig with C:=CC,NM:=yO,J:=JC}
section
noncomputable def BZ{α κ:Type}(f:α→κ)(l:List α):List κ:=@List.rec α (fun _=>List κ) [] (fun x _ r=>f x::r) l
noncomputable def FW{α κ:Type}(f:α→κ)(l:List α):List κ:=@List.rec α (fun _=>List κ) [] (fun x _ r=>f x::r) l
theorem ia{α κ:Type}{f g:α→κ}{l:List α}(h:BZ f l=FW g l):∀x,x∈l→f x=g x:=by
  intro x m
  induction l with
  |nil=>cases m
  | cons a r ih=>
    have h:f a::BZ f r=g a::FW g r:=h
    cases m with
    |head=>exact(List.cons.inj h).1
    |tail _ m=>exact ih (List.cons.inj h).2 m
noncomputable def Aq{α β:Type}(l:List α)(r:List β):List (α×β):=l.flatMap fun a=>r.map fun b=>(a,b)
theorem jo{α β:Type}{l:List α}{r:List β}{a:α}{b:β}(h:a∈l)(k:b∈r):(a,b)∈Aq l r:=List.mem_flatMap.mpr ⟨a,h,List.mem_map.mpr ⟨b,k,rfl⟩⟩
theorem la{α β κ:Type}{f g:α→β→κ}{l:List α}{r:List β}(h:BZ (fun p=>f p.1 p.2) (Aq l r)=FW (fun p=>g p.1 p.2) (Aq l r)):∀x y,x∈l→y∈r→f x y=g x y:=
 fun x y m n=>ia (f:=fun p:α×β=>f p.1 p.2) (g:=fun p=>g p.1 p.2) h (x,y) (jo m n)
theorem lJ{α β γ κ:Type}{f g:α→β→γ→κ}{l:List α}{r:List β}{t:List γ}(h:BZ (fun p=>f p.1 p.2.1 p.2.2) (Aq l (Aq r t))=FW (fun p=>g p.1 p.2.1 p.2.2) (Aq l (Aq r t))):∀x y z,x∈l→y∈r→z∈t→f x y z=g x y z:=
 fun x y z m n o=>ia (f:=fun p:α×β×γ=>f p.1 p.2.1 p.2.2) (g:=fun p=>g p.1 p.2.1 p.2.2) h (x,y,z) (jo m (jo n o))
theorem lq{α β γ δ κ:Type}{f g:α→β→γ→δ→κ}{l:List α}{r:List β}{t:List γ}{u:List δ}(h:BZ (fun p=>f p.1 p.2.1 p.2.2.1 p.2.2.2) (Aq l (Aq r (Aq t u)))=FW (fun p=>g p.1 p.2.1 p.2.2.1 p.2.2.2) (Aq l (Aq r (Aq t u)))):∀x y z v,x∈l→y∈r→z∈t→v∈u→f x y z v=g x y z v:=
 fun x y z v m n o q=>ia (f:=fun p:α×β×γ×δ=>f p.1 p.2.1 p.2.2.1 p.2.2.2) (g:=fun p=>g p.1 p.2.1 p.2.2.1 p.2.2.2) h (x,y,z,v) (jo m (jo n (jo o q)))
noncomputable def Nb(i k:Nat):List Int:=@Nat.rec (fun _=>Nat→List Int) (fun _=>[]) (fun _ r i=>Int.ofNat i::r (i+1)) k i
theorem D1{k:Nat}:∀{i n:Nat},i≤n→n < i+k→Int.ofNat n∈Nb i k:=by
  induction k with
  |zero=>intro i n h1 h2;exact absurd h1 (Nat.not_le_of_lt h2)
  | succ k ih=>
    intro i n h1 h2
    rcases Nat.eq_or_lt_of_le h1 with e|e
    · rw[e];exact .head _
    · exact .tail _ (ih e (by rw[Nat.succ_add];exact h2))
theorem BV{i k:Nat}{n:Int}(h1:Int.ofNat i≤n)(h2:n < Int.ofNat (i+k)):n∈Nb i k:=by
 cases n with
 |ofNat n=>exact D1 (Int.ofNat_le.mp h1) (Int.ofNat_lt.mp h2)
 |negSucc n=>exact absurd (Int.le_trans (Int.natCast_nonneg i) h1) (Int.not_le.mpr (Int.negSucc_lt_zero n))
theorem fg{k:Nat}{n:Int}(h1:0≤n)(h2:n < Int.ofNat k):n∈Nb 0 k:=BV h1 (by rw[Nat.zero_add];exact h2)
section
variable {α:Type}{x a b c d e f g:α}{p:Prop}{l:List α}
theorem NL(h:x=a∨p)(k:p→x∈l):x∈a::l:=List.mem_cons.mpr (h.imp_right k)
theorem in1(h:x=a):x∈[a]:=List.mem_singleton.mpr h
theorem pJ(h:x=a∨x=b):x∈[a,b]:=NL h in1
theorem BA(h:x=a∨x=b∨x=c):x∈[a,b,c]:=NL h pJ
theorem V5(h:x=a∨x=b∨x=c∨x=d):x∈[a,b,c,d]:=NL h BA
theorem Wy(h:x=a∨x=b∨x=c∨x=d∨x=e∨x=f∨x=g):x∈[a,b,c,d,e,f,g]:=NL h fun h=>NL h fun h=>NL h V5
theorem vb(b:Bool):b∈[true,false]:=by cases b with|true=>exact .head _|false=>exact .tail _ (.head _)
end
end
noncomputable def Hr(x:Int):Bool:=eK (fun y=>gy 8 y (.int x)) [.int 38,.int 46,.int 54,.int 62,.int 103]
noncomputable def C7(x:Int)(a b c d e f g h:Prop):Prop:=bz false (x==100) a (bz false (x==101) b (bz false (x==102) c (bz false (x==243) d (bz false (x==242) e (bz false (x==240) f (bz false (Hr x) g h))))))
theorem vA(R:Addr→Prop)(KU:V→Prop)(x:Int):au (ev {ig with R:=R} 40) Hh [.int false x] ⟨.nil,0⟩ (bg KU) =
  C7 x (KU (.str true (s0 "segment"))) (KU (.str true (s0 "segment"))) (KU (.str true (s0 "data"))) (KU (.str true (s0 "repeat"))) (KU (.str true (s0 "repeat"))) (KU (.str true (s0 "lock"))) (KU (.str true (s0 "barred"))) (KU (.str true (s0 ""))):=by kernel_rfl
theorem lW{x:Int}:Hr x=(x==38||x==46||x==54||x==62||x==103):=by
 unfold Hr
 rw[mM]
 simp only [List.any_cons,List.any_nil,Bool.or_false]
 have c:∀a:Int,gy 8 (.int a) (.int x)=(x==a):=fun a=>Bool.beq_comm
 rw[c,c,c,c,c]
 simp only [Bool.or_assoc]
theorem uy(x:Int):bj x=if x==100||x==101 then .seg else if x==102 then .data else if x==242||x==243 then .rep else if x==240 then .lock else if Hr x then .barred else .none:=by rw[lW];rfl
theorem tA{x:Int}{a b c d e f g h:Prop}(ha:x=100→bj x=.seg→a)(hb:x=101→bj x=.seg→b)(hc:x=102→bj x=.data→c)(hd:x=243→bj x=.rep→d)(he:x=242→bj x=.rep→e)(hf:x=240→bj x=.lock→f)(hg:bj x=.barred→g)(hh:bj x=.none→h):C7 x a b c d e f g h:=
 ⟨fun q=>ha (eq_of_beq q) (by rw[eq_of_beq q];rfl),fun e1=>⟨fun q=>hb (eq_of_beq q) (by rw[eq_of_beq q];rfl),fun e2=>⟨fun q=>hc (eq_of_beq q) (by rw[eq_of_beq q];rfl),fun e3=>⟨fun q=>hd (eq_of_beq q) (by rw[eq_of_beq q];rfl),fun e4=>⟨fun q=>he (eq_of_beq q) (by rw[eq_of_beq q];rfl),fun e5=>⟨fun q=>hf (eq_of_beq q) (by rw[eq_of_beq q];rfl),fun e6=>
  ⟨fun q=>hg (by rw[uy,e1,e2,e3,e4,e5,e6,q];rfl),fun q=>hh (by rw[uy,e1,e2,e3,e4,e5,e6,q];rfl)⟩⟩⟩⟩⟩⟩⟩
theorem An(T:Nat→V)(w:World):∀R as KV,lr as KV R→∃bs,dm T w as bs∧au (ev {ig with R:=R} 40) Hh bs ⟨.nil,0⟩ (bg (bo T w KV)):=by
 intro R as KV h
 replace h:=dI h
 obtain⟨k,x,rfl,h⟩:=h
 refine⟨[.int false x],(bc.cons .int .nil).same,?_⟩
 rw[vA]
 have out:∀{s:DM},bj x=s→bo T w KV (.str true (l0 s)):=fun e=>⟨_,ba.same .str,e▸h⟩
 exact tA (fun _ e=>out e) (fun _ e=>out e) (fun _ e=>out e) (fun _ e=>out e) (fun _ e=>out e) (fun _ e=>out e) (fun e=>out e) (fun e=>out e)
section
theorem lE{a b:Bool}(h:aH a b=true):a=true∧b=true:=by
 cases a
 ·cases h
 ·exact⟨rfl,h⟩
theorem Dv{v:V}{x:Str}(h:JV v=some x):ba v (.str false x):=(wL h).elim fun k e=>e▸.str
theorem uu{v:V}{x:Bool}(h:Lc v=some x):ba v (.bool false x):=(C6 h).elim fun k e=>e▸.bool
theorem tX{v:V}{x:Int}(h:eO v=some x):ba v (.int false x):=(dc h).elim fun k e=>e▸.int
theorem M7{fs:List (Str×V)}{p:Pf}(h:VO fs=some p):bc [pv fs 0,pv fs 1,pv fs 2,pv fs 3,pv fs 4] [.str false p.seg,.bool false p.data,.int false p.rep,.bool false p.lock,.int false p.rex]:=
 aA h fun u q h=>by
  have q2:=bT (bT q).2
  have q3:=bT q2.2
  have q4:=bT q3.2
  rw[←af h]
  exact .cons (Dv (bT q).1) (.cons (uu q2.1) (.cons (tX q3.1) (.cons (uu q4.1) (.cons (tX q4.2) .nil))))
theorem qj(ns:List Str):∀{vs us:List V},bc vs us→uG (ns.zip vs) (ns.zip us):=by
  induction ns with
  |nil=>exact fun _=>.nil
  | cons n s ih=>
    intro vs us h
    cases h with
    |nil=>exact .nil
    |cons a b=>exact .cons a (ih b)
theorem T6{vs:List V}(h:vs.length=5):vs=[pv (MV.zip vs) 0,pv (MV.zip vs) 1,pv (MV.zip vs) 2,pv (MV.zip vs) 3,pv (MV.zip vs) 4]:=by
 refine bq (dW h) fun a v1 rq2 h1=>?_;subst rq2
 refine bq (dW h1) fun b v2 rq2 h2=>?_;subst rq2
 refine bq (dW h2) fun c v3 rq2 h3=>?_;subst rq2
 refine bq (dW h3) fun d v4 rq2 h4=>?_;subst rq2
 refine bq (dW h4) fun e v5 rq2 h5=>?_;subst rq2
 rw[El h5];rfl
theorem lB{v:V}{p:Pf}(h:HZ v=some p):ba v (pg p):=
 aA h fun q e h=>cH h fun b h=>az b fun q1 q2=>by
  have n:=nY q2
  have l:=M7 h
  have n1:=n.1
  have f:=T6 n.2
  rw[←n1]at f
  rw[←f]at l
  rw[OD e,show q.1=208 from Nat.eq_of_beq_eq_true q1,n1]
  exact .inst (qj MV l)
noncomputable def NF(ks:Bool)(s:Str)(kd d kr:Bool)(r:Int)(kl l kx:Bool)(x:Int):V:=.inst 208 [(s0 "segment",.str ks s),(s0 "is_data",.bool kd d),(s0 "repeat",.int kr r),(s0 "is_lock",.bool kl l),(s0 "rex",.int kx x)]
noncomputable def Gp(R83:Prop)(p:Pf)(c:Bool)(Z:Prop):Prop:=bz false (decide (0≤p.rex)) R83 (bz false c R83 Z)
noncomputable def FC(R83:Prop)(p:Pf)(c d:Bool)(Z:Prop):Prop:=bz false (decide (0≤p.rex)) R83 (bz false c R83 (bz false d R83 Z))
noncomputable def xD(R:Addr→Prop)(KU:V→Prop)(x:Int)(p:Pf):Prop:=Gp (R 83) p (c5 (aS p.seg (s0 ""))) (bz false (x==100) (KU (NF true (s0 "fs") false p.data false p.rep false p.lock true (-1))) (KU (NF true (s0 "gs") false p.data false p.rep false p.lock true (-1))))
noncomputable def xa(R:Addr→Prop)(KU:V→Prop)(x:Int)(p:Pf):Prop:=FC (R 83) p (p.rep != 0) p.lock (KU (NF false p.seg false p.data false x true false true (-1)))
noncomputable def rC(R:Addr→Prop)(KU:V→Prop)(p:Pf):Prop:=FC (R 83) p p.lock (p.rep != 0) (KU (NF false p.seg false p.data true 0 true true true (-1)))
theorem nM(R:Addr→Prop)(KU:V→Prop)(x:Int)(p:Pf):au (ev {ig with R:=R} 40) IU [pg p,.int false x] ⟨.nil,0⟩ (bg KU) =
  C7 x (xD R KU x p) (xD R KU x p) (Gp (R 83) p p.data (KU (NF false p.seg true true false p.rep false p.lock true (-1)))) (xa R KU x p) (xa R KU x p) (rC R KU p) (R 83) (rC R KU p):=by kernel_rfl
theorem iz{ks kd kr kl kx:Bool}{p:Pf}:ba (NF ks p.seg kd p.data kr p.rep kl p.lock kx p.rex) (pg p):=.inst (.cons .str (.cons .bool (.cons .int (.cons .bool (.cons .int .nil)))))
section
variable {R83 Z:Prop}{p:Pf}{x:Int}{c d:Bool}{q:Option Pf}{r:Pf}
theorem tF(e:q=if 0≤p.rex then none else if c then none else some r)(h2:q=none→R83)(z:q=some r→Z):Gp R83 p c Z:=
 ⟨fun a=>h2 (by rw[e,if_pos (of_decide_eq_true a)]),fun a=>⟨fun b=>h2 (by rw[e,if_neg (of_decide_eq_false a),if_pos b]),fun b=>z (by rw[e,if_neg (of_decide_eq_false a),b];rfl)⟩⟩
theorem tQ(e:q=if 0≤p.rex then none else if c||d then none else some r)(h2:q=none→R83)(z:q=some r→Z):FC R83 p c d Z:=
 ⟨fun a=>h2 (by rw[e,if_pos (of_decide_eq_true a)]),fun a=>⟨fun b=>h2 (by rw[e,if_neg (of_decide_eq_false a),b];rfl),fun b=>⟨fun b'=>h2 (by rw[e,if_neg (of_decide_eq_false a),b,b'];rfl),fun b'=>z (by rw[e,if_neg (of_decide_eq_false a),b,b'];rfl)⟩⟩⟩
end
theorem MI{p:Pf}:c5 (aS p.seg (s0 ""))=(p.seg != s0 ""):=by rw[dw];show c5 (p.seg==s0 "")=!(p.seg==s0 "");cases p.seg==s0 "" <;> rfl
theorem DW{p:Pf}{x:Int}(e:bj x=.seg):d6 p x=if 0≤p.rex then none else if p.seg != s0 "" then none else some {p with seg:=if x==100 then s0 "fs" else s0 "gs",rex:=-1}:=by unfold d6;rw[e]
theorem EL{p:Pf}{x:Int}(e:bj x=.rep):d6 p x=if 0≤p.rex then none else if p.rep != 0||p.lock then none else some {p with rep:=x,lock:=false,rex:=-1}:=by unfold d6;rw[e]
theorem Aa{p:Pf}{x:Int}(e:bj x=.data):d6 p x=if 0≤p.rex then none else if p.data then none else some {p with data:=true,rex:=-1}:=by unfold d6;rw[e]
theorem pq(T:Nat→V)(w:World):∀R as KV,gv as KV R→∃bs,dm T w as bs∧au (ev {ig with R:=R} 40) IU bs ⟨.nil,0⟩ (bg (bo T w KV)):=by
 intro R as KV h
 replace h:=Ud h
 obtain⟨v,k,x,rfl,h⟩:=h
 refine aM h fun p hp h=>⟨[pg p,.int false x],(bc.cons (lB hp) (.cons .int .nil)).same,?_⟩
 rw[nM]
 have out:∀{v:V} {q:Pf},ba v (pg q)→d6 p x=some q→bo T w KV v:=fun l e=>⟨_,l.same,h.1 _ e⟩
 have seg:bj x=.seg→xD R (bo T w KV) x p:=fun e=>tF (q:=d6 p x) (r:={p with seg:=if x==100 then s0 "fs" else s0 "gs",rex:=-1}) (by rw[MI,DW e]) h.2 fun q=>⟨fun b=>out (by rw[b];exact iz (p:={p with seg:=s0 "fs",rex:=-1})) q,fun b=>out (by rw[b];exact iz (p:={p with seg:=s0 "gs",rex:=-1})) q⟩
 have rep:bj x=.rep→xa R (bo T w KV) x p:=fun e=>tQ (EL e) h.2 (out (iz (p:={p with rep:=x,lock:=false,rex:=-1})))
 have lock:d6 p x=(if 0≤p.rex then none else if p.lock||p.rep != 0 then none else some {p with rep:=0,lock:=true,rex:=-1})→rC R (bo T w KV) p:=fun e=>tQ e h.2 (out (iz (p:={p with rep:=0,lock:=true,rex:=-1})))
 exact tA (fun _ e=>seg e) (fun _ e=>seg e) (fun _ e=>tF (Aa e) h.2 (out (iz (p:={p with data:=true,rex:=-1})))) (fun _ e=>rep e) (fun _ e=>rep e) (fun _ e=>lock (by unfold d6;rw[e])) (fun e=>h.2 (by unfold d6;rw[e])) (fun e=>lock (by unfold d6;rw[e]))
end
noncomputable abbrev hX(R:Addr→Prop):Ev:=ev {ig with R:=R} 40
noncomputable def N0(name kind:Str)(n size:Int):V:=.inst 789 [(s0 "name",.str true name),(s0 "kind",.str true kind),(s0 "number",.int true n),(s0 "size",.int true size)]
theorem Ls(R:Addr→Prop)(KU:V→Prop){n size:Int}(h1:0≤n)(h2:n < 16)(hs:size=8∨size=16∨size=32∨size=64):au (hX R) Il [.int true n,.int true size] ⟨.nil,0⟩ (bg KU)=KU (N0 (fA n size) (s0 "gpr") n size):=by
 have k1:=fg (k:=16) h1 h2;have k2:=V5 hs;clear h1 h2 hs;revert n size k1 k2
 exact@(la (by kernel_rfl))
theorem Ov(T:Nat→V)(w:World):∀R as KV,BQ as KV R→∃bs,dm T w as bs∧au (hX R) Il bs ⟨.nil,0⟩ (bg (bo T w KV)):=by
 intro R as KV h
 replace h:=Wj h
 obtain⟨_,_,_,_,rfl,h⟩:=h
 obtain⟨⟨h1,h2⟩,hs,hk⟩:=h
 refine⟨[.int true _,.int true _],(bc.cons .int (.cons .int .nil)).same,?_⟩
 rw[Ls R _ h1 h2 hs]
 exact⟨_,ba.same (.inst (.cons .str (.cons .str (.cons .int (.cons .int .nil))))),hk⟩
theorem H9(R:Addr→Prop)(KU:V→Prop){n:Int}(h1:4≤n)(h2:n < 8):au (hX R) Jl [.int true n] ⟨.nil,0⟩ (bg KU)=KU (N0 (iK n) (s0 "high") n 8):=by
 have k1:=BV (i:=4) (k:=4) h1 h2;clear h1 h2;revert n k1
 exact@(ia (by kernel_rfl))
theorem Ll(T:Nat→V)(w:World):∀R as KV,wy as KV R→∃bs,dm T w as bs∧au (hX R) Jl bs ⟨.nil,0⟩ (bg (bo T w KV)):=by
 intro R as KV h
 replace h:=dI h
 obtain⟨_,_,rfl,h⟩:=h
 obtain⟨⟨h1,h2⟩,hk⟩:=h
 refine⟨[.int true _],(bc.cons .int .nil).same,?_⟩
 rw[H9 R _ h1 h2]
 exact⟨_,ba.same (.inst (.cons .str (.cons .str (.cons .int (.cons .int .nil))))),hk⟩
theorem Ju(R:Addr→Prop)(KU:V→Prop)(xs:List Int){k:Int}(h1:0≤k)(h2:k < 18):au (hX R) zg [.irow false xs,.int true k] ⟨.nil,0⟩ (bg KU)=(bN xs.length=true∧(decide (k < Int.ofNat xs.length)=true→By k.toNat xs.length=true∧bN xs.length=true∧KU (.int false ((aW xs k.toNat).fmod 18446744073709551616)))∧
  (decide (k < Int.ofNat xs.length)=false→bN xs.length=true∧KU (.int false (((6151*k*k+98317*k+53*Int.ofNat xs.length)+7).fmod 64901)))):=by
 have k1:=fg (k:=18) h1 h2;clear h1 h2;revert k k1
 exact@(ia (by kernel_rfl))
theorem dP{n:Nat}(h:n≤1000):bN n=true:=Nat.ble_eq_true_of_le h
theorem aZ(a:Int){n:Int}(h:0 < n):0≤a.fmod n:=by rw[Int.fmod_eq_emod_of_nonneg a (by lia)];exact Int.emod_nonneg a (by lia)
theorem MU(T:Nat→V)(w:World):∀R as KV,oK as KV R→∃bs,dm T w as bs∧au (hX R) zg bs ⟨.nil,0⟩ (bg (bo T w KV)):=by
 intro R as KV h
 replace h:=Wu h
 obtain⟨_,xs,_,k,rfl,h⟩:=h
 obtain⟨hl,⟨h1,h2⟩,hk⟩:=h
 refine⟨[.irow false xs,.int true k],(bc.cons .irow (.cons .int .nil)).same,?_⟩
 rw[Ju R _ xs h1 h2]
 have hf:=dP (n:=xs.length) (by lia)
 refine⟨hf,fun e=>⟨?_,hf,_,ba.same .refl,hk _ (aZ _ (by decide))⟩,fun _=>⟨hf,_,ba.same .refl,hk _ (aZ _ (by decide))⟩⟩
 rw[decide_eq_true_eq]at e
 show Nat.blt _ _=true
 rw[Nat.blt_eq]
 have:Int.ofNat xs.length=(xs.length:Int):=rfl
 lia
theorem rt(R:Addr→Prop)(KU:V→Prop){x y z t:Int}(h1:x=0∨x=1)(h2:y=0∨y=1)(h3:z=0∨z=1)(h4:t=0∨t=1):au (hX R) Ht [.int true x,.int true y,.int true z,.int true t] ⟨.nil,0⟩ (bg KU)=KU (.int true (64+8*x+4*y+2*z+t)):=by
 have k1:=pJ h1;have k2:=pJ h2;have k3:=pJ h3;have k4:=pJ h4;clear h1 h2 h3 h4;revert x y z t k1 k2 k3 k4
 exact@(lq (by kernel_rfl))
theorem zv{x:Int}(h:0≤x∧x≤1):x=0∨x=1:=by lia
theorem t7(T:Nat→V)(w:World):∀R as KV,iq as KV R→∃bs,dm T w as bs∧au (hX R) Ht bs ⟨.nil,0⟩ (bg (bo T w KV)):=by
 intro R as KV h
 replace h:=O6 h
 obtain⟨_,_,_,_,_,_,_,_,rfl,h⟩:=h
 refine w5 h fun h1 h2 h3 h4 hk=>?_
 refine⟨[.int true _,.int true _,.int true _,.int true _],(bc.cons .int (.cons .int (.cons .int (.cons .int .nil)))).same,?_⟩
 rw[rt R _ (zv h1) (zv h2) (zv h3) (zv h4)]
 exact⟨_,ba.same .int,hk⟩
theorem uf(R:Addr→Prop)(KU:V→Prop)(x:Int):au (hX R) Hq [.int false x] ⟨.nil,0⟩ (bg KU)=((decide (x < 0)=true→KU (.tup [.int true 0,.int true 0,.int true 0,.int true 0]))∧
  (decide (x < 0)=false→KU (.tup [.int false ((x.fdiv 8).fmod 2),.int false ((x.fdiv 4).fmod 2),.int false ((x.fdiv 2).fmod 2),.int false (x.fmod 2)]))):=by kernel_rfl
theorem xK(T:Nat→V)(w:World):∀R as KV,j5 as KV R→∃bs,dm T w as bs∧au (hX R) Hq bs ⟨.nil,0⟩ (bg (bo T w KV)):=by
 intro R as KV h
 replace h:=dI h
 obtain⟨_,x,rfl,h⟩:=h
 refine⟨[.int false x],(bc.cons .int .nil).same,?_⟩
 rw[uf]
 refine⟨fun e=>⟨.tup [.int false 0,.int false 0,.int false 0,.int false 0],ba.same (.tup (.cons .int (.cons .int (.cons .int (.cons .int .nil))))),?_⟩,fun e=>⟨_,ba.same .refl,?_⟩⟩
 ·have e:=of_decide_eq_true e
  have:∀k,bB x k=0:=fun k=>by unfold bB;rw[if_pos e]
  rw[this,this,this,this]at h;exact h
 ·have e:=of_decide_eq_false e
  have:∀k,bB x k=(x.fdiv k).fmod 2:=fun k=>by unfold bB;rw[if_neg e]
  rw[this,this,this,this,Int.fdiv_one]at h;exact h
theorem tL(R:Addr→Prop)(KU:V→Prop)(p:Pf)(x:Int):au (hX R) I4 [pg p,.int false x] ⟨.nil,0⟩ (bg KU)=KU (pg {p with rex:=x}):=by kernel_rfl
theorem wU(T:Nat→V)(w:World):∀R as KV,jN as KV R→∃bs,dm T w as bs∧au (hX R) I4 bs ⟨.nil,0⟩ (bg (bo T w KV)):=by
 intro R as KV h
 replace h:=Ud h
 obtain⟨v,k,x,rfl,h⟩:=h
 refine aM h fun p hp h=>⟨[pg p,.int false x],(bc.cons (lB hp) (.cons .int .nil)).same,?_⟩
 rw[tL]
 exact⟨_,ba.same .refl,h⟩
theorem A0(R:Addr→Prop)(KU:V→Prop)(m:Int):au (hX R) IA [.int false m] ⟨.nil,0⟩ (bg KU)=KU (.tup [.int false (m.fdiv 64),.int false ((m.fdiv 8).fmod 8),.int false (m.fmod 8)]):=by kernel_rfl
theorem CX(T:Nat→V)(w:World):∀R as KV,oQ as KV R→∃bs,dm T w as bs∧au (hX R) IA bs ⟨.nil,0⟩ (bg (bo T w KV)):=by
 intro R as KV h
 replace h:=dI h
 obtain⟨k,m,rfl,h⟩:=h
 refine kD h fun h0 h1 h2=>?_
 refine⟨[.int false m],(bc.cons .int .nil).same,?_⟩
 rw[A0]
 rcases h0 with h0|h0
 ·have e:m.fdiv 64=1:=by rw[Int.fdiv_eq_ediv_of_nonneg _ (by lia)];lia
  rw[e]
  exact⟨_,ba.same (.tup (.cons (.int (k':=true)) (.cons .refl (.cons .refl .nil)))),h1 (by lia)⟩
 ·have e:m.fdiv 64=3:=by rw[Int.fdiv_eq_ediv_of_nonneg _ (by lia)];lia
  rw[e]
  exact⟨_,ba.same (.tup (.cons (.int (k':=true)) (.cons .refl (.cons .refl .nil)))),h2 (by lia)⟩
theorem tH(R:Addr→Prop)(KU:V→Prop)(xs:List Int)(a:Int):au (hX R) He [.bytes false xs,.int false a] ⟨.nil,0⟩ (bg KU)=(bN xs.length=true∧(decide (Int.ofNat xs.length≤a)=true→R 83)∧(decide (Int.ofNat xs.length≤a)=false→decide (0≤a)=true∧By a.toNat xs.length=true∧bN xs.length=true∧KU (.int false (aW xs a.toNat)))):=by kernel_rfl
theorem xb(T:Nat→V)(w:World):∀R as KV,jT as KV R→∃bs,dm T w as bs∧au (hX R) He bs ⟨.nil,0⟩ (bg (bo T w KV)):=by
 intro R as KV h
 replace h:=NG h
 obtain⟨_,xs,_,a,rfl,h⟩:=h
 refine AH h fun h1 h2 h3 hk=>?_
 refine⟨[.bytes false xs,.int false a],(bc.cons .bytes (.cons .int .nil)).same,?_⟩
 rw[tH]
 have:Int.ofNat xs.length=(xs.length:Int):=rfl
 refine⟨h1,fun e=>?_,fun _=>⟨decide_eq_true h2,?_,h1,_,ba.same .refl,hk⟩⟩
 ·have e:=of_decide_eq_true e
  lia
 ·show Nat.blt _ _=true
  rw[Nat.blt_eq];exact h3
theorem LZ(R:Addr→Prop)(KU:V→Prop)(y:Int):au (hX R) H0 [.bytes true [y]] ⟨.nil,0⟩ (bg KU)=(small y.natAbs=true∧
  (((Builtin.bitAnd (Builtin.bitOr 0 (y*1)) (Int.ofNat 255)).fdiv (2 ^ 7)==1)=true→KU (.int false (Builtin.bitAnd (Builtin.bitOr 0 (y*1)) (Int.ofNat 255) - Int.ofNat 256)))∧
  (((Builtin.bitAnd (Builtin.bitOr 0 (y*1)) (Int.ofNat 255)).fdiv (2 ^ 7)==1)=false→KU (.int false (Builtin.bitAnd (Builtin.bitOr 0 (y*1)) (Int.ofNat 255))))):=by kernel_rfl
theorem Io:∀n:Fin 256,Builtin.bitAnd (Builtin.bitOr 0 ((n.val:Int)*1)) (Int.ofNat 255)=n.val:=by decide +kernel
theorem QK(T:Nat→V)(w:World):∀R as KV,C5 as KV R→∃bs,dm T w as bs∧au (hX R) H0 bs ⟨.nil,0⟩ (bg (bo T w KV)):=by
 intro R as KV h
 replace h:=dY h
 obtain⟨_,_,rfl,h⟩:=h
 obtain⟨y,rfl,h1,h2,hk⟩:=h
 refine⟨[.bytes true [y]],(bc.cons .bytes .nil).same,?_⟩
 rw[LZ]
 obtain⟨n,rfl⟩:=Int.eq_ofNat_of_zero_le h1
 have e:=Io ⟨n,by lia⟩
 rw[e]
 have p:(2:Int) ^ 7=128:=by decide
 have d:((n:Int).fdiv (2 ^ 7)==1)=decide (127 < (n:Int)):=by
  rw[p,Int.fdiv_eq_ediv_of_nonneg _ (by lia)]
  rw[Bool.eq_iff_iff,beq_iff_eq,decide_eq_true_eq]
  lia
 show _∧(((n:Int).fdiv (2 ^ 7)==1)=true→_)∧(((n:Int).fdiv (2 ^ 7)==1)=false→_)
 rw[d]
 unfold pE at hk
 refine⟨?_,fun e=>⟨_,ba.same .refl,?_⟩,fun e=>⟨_,ba.same .refl,?_⟩⟩
 ·show Nat.blt _ _=true
  rw[Nat.blt_eq];simp only [Int.natAbs_natCast];lia
 ·rw[if_pos (of_decide_eq_true e)]at hk;exact hk
 ·rw[if_neg (of_decide_eq_false e)]at hk;exact hk
theorem ME(x:Int)(l:List Int):eK (fun y=>gy 8 y (PyData.int x)) (l.map PyData.int)=l.any (fun a=>a==x):=by
 rw[mM,List.any_map];rfl
theorem uF(R:Addr→Prop)(KU:V→Prop)(x:Int):au (hX R) zf [.int false x] ⟨.nil,0⟩ (bg KU)=(
  bz false (eK (fun y=>gy 8 y (.int x)) ([100,101].map PyData.int)) (KU (.str true (s0 "segment"))) (bz false (eK (fun y=>gy 8 y (.int x)) ([242,243].map PyData.int)) (KU (.str true (s0 "repeat")))
   (bz false (eK (fun y=>gy 8 y (.int x)) ([38,46,54,62,103].map PyData.int)) (KU (.str true (s0 "barred"))) (bz false (decide (64≤x)) (bz false (decide (x < 80)) (bz false (x==102) (KU (.str true (s0 "data"))) (bz false (x==240) (KU (.str true (s0 "lock"))) (KU (.str true (s0 "rex")))))
     (bz false (x==102) (KU (.str true (s0 "data"))) (bz false (x==240) (KU (.str true (s0 "lock"))) (KU (.str true (s0 ""))))))
     (bz false (x==102) (KU (.str true (s0 "data"))) (bz false (x==240) (KU (.str true (s0 "lock"))) (KU (.str true (s0 ""))))))))):=by kernel_rfl
theorem Ow(x a b:Int):eK (fun y=>gy 8 y (PyData.int x)) ([a,b].map PyData.int)=(x==a||x==b):=by
 rw[ME,Bool.beq_comm (a:=x) (b:=a),Bool.beq_comm (a:=x) (b:=b),←Bool.or_false (b==x)];rfl
theorem Tp{x:Int}:eK (fun y=>gy 8 y (PyData.int x)) ([38,46,54,62,103].map PyData.int)=(x==38||x==46||x==54||x==62||x==103):=lW
theorem tu{b1 b2 b3 b4 b5 b6 b7:Bool}{s:L7}{M:L7→Prop}(hs:s=if b1 then .seg else if b2 then .rep else if b3 then .barred else if b4 then .data else if b5 then .lock else if b6&&b7 then .rex else .none)(h:∀l,s=l→M l) :
  bz false b1 (M .seg) (bz false b2 (M .rep) (bz false b3 (M .barred) (bz false b6 (bz false b7 (bz false b4 (M .data) (bz false b5 (M .lock) (M .rex))) (bz false b4 (M .data) (bz false b5 (M .lock) (M .none)))) (bz false b4 (M .data) (bz false b5 (M .lock) (M .none)))))):=
 ⟨fun e=>h _ (by rw[hs,e];rfl),fun e1=>⟨fun e=>h _ (by rw[hs,e1,e];rfl),fun e2=>⟨fun e=>h _ (by rw[hs,e1,e2,e];rfl),fun e3=>⟨fun e6=>⟨fun e7=>⟨fun e=>h _ (by rw[hs,e1,e2,e3,e];rfl),fun e4=>⟨fun e=>h _ (by rw[hs,e1,e2,e3,e4,e];rfl),fun e=>h _ (by rw[hs,e1,e2,e3,e4,e,e6,e7];rfl)⟩⟩,fun e7=>⟨fun e=>h _ (by rw[hs,e1,e2,e3,e];rfl),fun e4=>⟨fun e=>h _ (by rw[hs,e1,e2,e3,e4,e];rfl),fun e=>h _ (by rw[hs,e1,e2,e3,e4,e,e6,e7];rfl)⟩⟩⟩,
  fun e6=>⟨fun e=>h _ (by rw[hs,e1,e2,e3,e];rfl),fun e4=>⟨fun e=>h _ (by rw[hs,e1,e2,e3,e4,e];rfl),fun e=>h _ (by rw[hs,e1,e2,e3,e4,e,e6];rfl)⟩⟩⟩⟩⟩⟩
noncomputable def MK(l:L7):Str:=match l with
 |.seg=>s0 "segment"
 |.rep=>s0 "repeat"
 |.barred=>s0 "barred"
 |.data=>s0 "data"
 |.lock=>s0 "lock"
 |.rex=>s0 "rex"
 |.none=>s0 ""
theorem vE(T:Nat→V)(w:World):∀R as KV,jW as KV R→∃bs,dm T w as bs∧au (hX R) zf bs ⟨.nil,0⟩ (bg (bo T w KV)):=by
 intro R as KV h
 replace h:=dI h
 refine Tw h fun _ x rq2 h1 h2 h3 h4 h5 h6 h7=>?_;subst rq2
 refine⟨[.int false x],(bc.cons .int .nil).same,?_⟩
 rw[uF,Ow,Ow,Tp]
 refine tu (s:=dp x) (M:=fun l=>bo T w KV (.str true (MK l))) rfl fun l e=>⟨_,ba.same .refl,?_⟩
 cases l with
 |seg=>exact h1 e
 |rep=>exact h2 e
 |barred=>exact h3 e
 |data=>exact h4 e
 |lock=>exact h5 e
 |rex=>exact h6 e
 |none=>exact h7 e
noncomputable def qh:List Str:=[s0 "add",s0 "adc",s0 "and",s0 "or",s0 "sbb",s0 "sub",s0 "xor",s0 "inc",s0 "dec",s0 "neg",s0 "not",s0 "xchg",s0 "xadd",s0 "cmpxchg",s0 "bts",s0 "btr",s0 "btc"]
theorem uB(R:Addr→Prop)(KU:V→Prop)(d n:Int){size:Int}(hs:size=8∨size=16∨size=32∨size=64):au (hX R) GL [lY d size ("rm"++qE size) ("r"++qE size) n] ⟨.nil,0⟩ (bg KU) =
  bz false (eK (fun y=>gy 8 y (.str (ck d))) (qh.map PyData.str)) (KU (.bool true true)) (KU (.bool true false)):=by
 rcases hs with rfl|rfl|rfl|rfl <;> kernel_rfl
theorem HI{d:Int}(h1:0≤d)(h2:d < 7):eK (fun y=>gy 8 y (.str (ck d))) (qh.map PyData.str)=true:=by
 have k1:=fg (k:=7) h1 h2;clear h1 h2;revert d k1
 exact@(ia (by kernel_rfl))
theorem wa(T:Nat→V)(w:World):∀R as KV,gY as KV R→∃bs,dm T w as bs∧au (hX R) GL bs ⟨.nil,0⟩ (bg (bo T w KV)):=by
 intro R as KV h
 replace h:=dV h
 obtain⟨_,rfl,h⟩:=h
 obtain⟨⟨d,size,num,h1,h2,h3,h4⟩,hk⟩:=h
 refine⟨[_],(bc.cons h4 .nil).same,?_⟩
 rw[uB R _ d num h3]
 refine⟨fun _=>⟨_,ba.same .refl,hk⟩,fun e=>?_⟩
 rw[HI h1 h2]at e;cases e
noncomputable def sT:List Str:=[s0 "movsb",s0 "movsw",s0 "movsd",s0 "movsq",s0 "stosb",s0 "stosw",s0 "stosd",s0 "stosq",s0 "lodsb",s0 "lodsw",s0 "lodsd",s0 "lodsq"]
noncomputable def qf:List Str:=[s0 "cmpsb",s0 "cmpsw",s0 "cmpsd",s0 "cmpsq",s0 "scasb",s0 "scasw",s0 "scasd",s0 "scasq"]
theorem wi(R:Addr→Prop)(KU:V→Prop)(x:Str):au (hX R) Ib [.str false x] ⟨.nil,0⟩ (bg KU) =
  bz false (eK (fun y=>gy 8 y (.str x)) (sT.map PyData.str)) (KU (.list [.str true (s0 "rep")])) (bz false (eK (fun y=>gy 8 y (.str x)) (qf.map PyData.str)) (KU (.list [.str true (s0 "rep"),.str true (s0 "repne")])) (KU (.list []))):=by kernel_rfl
theorem Ir{d:Int}(h1:0≤d)(h2:d < 7):eK (fun y=>gy 8 y (.str (ck d))) (sT.map PyData.str)=false∧eK (fun y=>gy 8 y (.str (ck d))) (qf.map PyData.str)=false:=by
 have k1:=fg (k:=7) h1 h2;clear h1 h2
 constructor <;> (revert d k1;exact@(ia (by kernel_rfl)))
theorem Bk(T:Nat→V)(w:World):∀R as KV,jf as KV R→∃bs,dm T w as bs∧au (hX R) Ib bs ⟨.nil,0⟩ (bg (bo T w KV)):=by
 intro R as KV h
 replace h:=dS h
 obtain⟨_,_,rfl,h⟩:=h
 obtain⟨⟨d,h1,h2,rfl⟩,hk⟩:=h
 refine⟨[.str false (ck d)],(bc.cons .str .nil).same,?_⟩
 rw[wi]
 refine bC (Ir h1 h2) fun e1 e2=>?_
 refine⟨fun e=>?_,fun _=>⟨fun e=>?_,fun _=>⟨_,ba.same .refl,hk⟩⟩⟩
 ·rw[e1]at e;cases e
 ·rw[e2]at e;cases e
noncomputable def Mz(p:Pf):V:=.inst 208 [(s0 "segment",.str true p.seg),(s0 "is_data",.bool true p.data),(s0 "repeat",.int true p.rep),(s0 "is_lock",.bool true p.lock),(s0 "rex",.int false p.rex)]
theorem z6(R:Addr→Prop)(KU:V→Prop){seg:Str}{rep:Int}{data lock:Bool}(rex:Int)(h1:seg=s0 ""∨seg=s0 "fs"∨seg=s0 "gs")(h2:rep=0∨rep=242∨rep=243)(h3:lock=true→rep=0) :
    au (hX R) G6 [Mz ⟨seg,data,rep,lock,rex⟩] ⟨.nil,0⟩ (bg KU)=bz false (decide (0≤rex)) (bz false (rex.fdiv 16==4) (cZ rex=true∧KU (.bytes true (f6 ⟨seg,data,rep,lock,-1⟩++[rex]))) False) (KU (.bytes true (f6 ⟨seg,data,rep,lock,-1⟩))):=by
  cases lock with
  | false=>
    have k1:=BA h1;have k2:=BA h2;have k3:=vb data;clear h1 h2 h3;revert seg rep data k1 k2 k3
    exact@(lJ (by kernel_rfl))
  | true=>
    have h3:=h3 rfl;subst h3
    have k1:=BA h1;have k3:=vb data;clear h1 h2;revert seg data k1 k3
    exact@(la (by kernel_rfl))
set_option tactic.hygienic true in
theorem Em(T:Nat→V)(w:World):∀R as KV,iM as KV R→∃bs,dm T w as bs∧au (hX R) G6 bs ⟨.nil,0⟩ (bg (bo T w KV)):=by
 intro R as KV h
 replace h:=dV h
 obtain⟨_,rfl,h⟩:=h
 split at h
 case h_2=>exact h.elim
 rename_i p hp
 refine bC h fun ok hk=>?_
 have l1:=lB hp
 refine⟨[Mz p],fun H rs hv=>(?_:bc [pg p] [Mz p]).rel ((bc.cons l1 .nil).rel hv),?_⟩
 ·exact .cons (.inst (.cons .str (.cons .bool (.cons .int (.cons .bool (.cons .int .nil)))))) .nil
 obtain⟨seg,data,rep,lock,rex⟩:=p
 rw[z6 R _ rex ok.seg ok.rep ok.lock]
 have hr:=ok.rex
 dsimp only at hr
 have lay:f6 ⟨seg,data,rep,lock,rex⟩=f6 ⟨seg,data,rep,lock,-1⟩++(if 0≤rex then[rex]else[]):=by
  unfold f6;simp
 rw[lay]at hk
 refine⟨fun e=>⟨fun e2=>⟨?_,_,ba.same .bytes,by rw[if_pos (of_decide_eq_true e)]at hk;exact hk⟩,fun e2=>?_⟩,fun e=>⟨_,ba.same .bytes,by rw[if_neg (of_decide_eq_false e),List.append_nil]at hk;exact hk⟩⟩
 ·have e:=of_decide_eq_true e
  unfold cZ
  rw[decide_eq_true e]
  show decide (rex < 256)=true
  rw[decide_eq_true_eq];lia
 ·have e:=of_decide_eq_true e
  rw[beq_eq_false_iff_ne,Int.fdiv_eq_ediv_of_nonneg _ (by lia)]at e2
  lia
noncomputable abbrev qL(lv n:Nat)(R:Addr→Prop):Ev:=ev {PE lv with R:=R} n
noncomputable abbrev VN(R:Addr→Prop)(f:cb Fl):cb Fl:=Om (qL 1 88 R) (KG (aq mv.body 1)) (J9 (aq mv.body 1)) mv.sc f
noncomputable def mz(xs:List Int)(a:Int)(p:Pf)(x:Int):List (Str×V):=[(s0 "octets",.bytes false xs),(s0 "at",.int false a),(s0 "found",pg p),(s0 "octet",.int false x)]
theorem Ih (R:Addr→Prop) (xs:List Int) (a x0:Int) (p:Pf) (ob:bb) (F:St→(Fl→St→Prop)→Prop) (Q:Fl→St→Prop):(VN R ⟨F⟩).run ⟨mz xs a p x0,ob⟩ Q=(bN xs.length=true∧
    (decide (a < Int.ofNat xs.length)=true→decide (0≤a)=true∧By a.toNat xs.length=true∧bN xs.length=true∧
      (((aW xs a.toNat).fdiv 16==4)=true→(decide (0≤p.rex)=true→R 83)∧(decide (0≤p.rex)=false→F ⟨mz xs (a+1) {p with rex:=aW xs a.toNat} (aW xs a.toNat),ob⟩ Q))∧
      (((aW xs a.toNat).fdiv 16==4)=false→(dU true (aS (l0 (bj (aW xs a.toNat))) (s0 ""))=true→(∀q,d6 p (aW xs a.toNat)=some q→F ⟨mz xs (a+1) q (aW xs a.toNat),ob⟩ Q)∧(d6 p (aW xs a.toNat)=none→R 83))∧
        (dU true (aS (l0 (bj (aW xs a.toNat))) (s0 ""))=false→Q (.ret (.tup [pg p,.int false a])) ⟨mz xs a p (aW xs a.toNat),ob⟩)))∧
    (decide (a < Int.ofNat xs.length)=false→Q .next ⟨mz xs a p x0,ob⟩)):=by kernel_rfl
noncomputable def HB:V:=.inst 208 [(s0 "segment",.str true (s0 "")),(s0 "is_data",.bool true false),(s0 "repeat",.int true 0),(s0 "is_lock",.bool true false),(s0 "rex",.int true (-1))]
noncomputable def Ik:bb:=⟨.node none (.node (some (.frz HB)) .nil .nil) .nil,2⟩
noncomputable def Kw(R:Addr→Prop)(KU:V→Prop):Fl→St→Prop:=fun f σ=>match f with
 |.next=>((qL 1 88 R).ss [aq mv.body 2] mv.sc).run σ fun f σ=>bg KU (tV f) σ.ob
 |f=>bg KU (tV f) σ.ob
noncomputable abbrev Bs(R:Addr→Prop)(k:Nat):cb Fl:=oM (qL 1 88 R) (KG (aq mv.body 1)) (J9 (aq mv.body 1)) mv.sc k
theorem Qr (R:Addr→Prop) (KU:V→Prop) (xs:List Int) (a:Int):au (qL 1 90 R) mv [.bytes false xs,.int false a] ⟨.nil,0⟩ (bg KU)=(bN xs.length=true∧
    (decide (a < Int.ofNat xs.length)=true→decide (0≤a)=true∧By a.toNat xs.length=true∧bN xs.length=true∧
      (((aW xs a.toNat).fdiv 16==4)=true→(Bs R 99).run ⟨mz xs (a+1) {kZ with rex:=aW xs a.toNat} (aW xs a.toNat),Ik⟩ (Kw R KU))∧
      (((aW xs a.toNat).fdiv 16==4)=false→(dU true (aS (l0 (bj (aW xs a.toNat))) (s0 ""))=true→(∀q,d6 kZ (aW xs a.toNat)=some q→(Bs R 99).run ⟨mz xs (a+1) q (aW xs a.toNat),Ik⟩ (Kw R KU))∧(d6 kZ (aW xs a.toNat)=none→R 83))∧
        (dU true (aS (l0 (bj (aW xs a.toNat))) (s0 ""))=false→KU (.tup [HB,.int false a]))))∧
    (decide (a < Int.ofNat xs.length)=false→KU (.tup [HB,.int false a]))):=by kernel_rfl
theorem C0(R:Addr→Prop)(KU:V→Prop)(xs:List Int)(a x:Int)(p:Pf)(ob:bb):Kw R KU .next ⟨mz xs a p x,ob⟩=KU (.tup [pg p,.int false a]):=by kernel_rfl
theorem GV(R:Addr→Prop)(KU:V→Prop)(fm:List (Str×V))(a:Int)(p:Pf)(ob:bb):Kw R KU (.ret (.tup [pg p,.int false a])) ⟨fm,ob⟩=KU (.tup [pg p,.int false a]):=by kernel_rfl
theorem ly:∀(xs:List Int) (n:Nat),n < xs.length→xs.drop n=aW xs n::xs.drop (n+1)
 |[],_,h=>by cases h
 |_::_,0,_=>rfl
 |_::r,n+1,h=>ly r n (by simpa using h)
theorem lP{x:Int}:dU true (aS (l0 (bj x)) (s0 ""))=false↔bj x=.none:=by
 cases bj x <;> (constructor <;> intro h <;> first|rfl|(have h:(true:Bool)=false:=h;cases h)|cases h)
theorem qH{x:Int}(h:dU true (aS (l0 (bj x)) (s0 ""))=true):bj x≠.none:=fun e=>by
 rw[lP.mpr e]at h;cases h
theorem dF(x:Int)(r:List Int)(p:Pf)(n:Nat):gx (x::r) p n=if bW x then(if 0≤p.rex then none else gx r {p with rex:=x} (n+1))else match bj x with
    |.none=>some (p,n)
    | _=>match d6 p x with
      |some p'=>gx r p' (n+1)
      |none=>none:=by first|(rw[gx];done)|(rw[gx];cases bj x <;> rfl)
theorem gQ{a:Int}(h:0≤a):(a+1).toNat=a.toNat+1:=by lia
theorem M5 (R:Addr→Prop) (KU:V→Prop) (xs:List Int) (hf:bN xs.length=true) (k:Nat):∀(a x0:Int) (p:Pf) (ob:bb),0≤a→xs.length - a.toNat < k→
    (∀p' e,gx (xs.drop a.toNat) p a.toNat=some (p',e)→KU (.tup [pg p',.int false (Int.ofNat e)]))→(gx (xs.drop a.toNat) p a.toNat=none→R 83)→(Bs R k).run ⟨mz xs a p x0,ob⟩ (Kw R KU):=by
  induction k with
  |zero=>intro _ _ _ _ _ h;exact absurd h (Nat.not_lt_zero _)
  | succ k ih=>
    intro a x0 p ob h0 hk h1 h2
    have e:(Bs R (k+1)).run ⟨mz xs a p x0,ob⟩ (Kw R KU)=(VN R ⟨(Bs R k).run⟩).run ⟨mz xs a p x0,ob⟩ (Kw R KU):=rfl
    rw[e,Ih]
    have ea:Int.ofNat a.toNat=a:=Int.toNat_of_nonneg h0
    have el:Int.ofNat xs.length=(xs.length:Int):=rfl
    refine⟨hf,fun lt=>?_,fun ge=>?_⟩
    · have lt:=of_decide_eq_true lt
      rw[el]at lt
      have ltn:a.toNat < xs.length:=by lia
      rw[ly xs a.toNat ltn,dF]at h1 h2
      have st:=gQ h0
      refine⟨decide_eq_true h0,?_,hf,fun rx=>⟨fun g=>?_,fun g=>?_⟩,fun nrx=>⟨fun so=>?_,fun so=>?_⟩⟩
      · show Nat.blt _ _=true
        rw[Nat.blt_eq];exact ltn
      · have rx:bW (aW xs a.toNat)=true:=rx
        rw[rx,if_pos rfl,if_pos (of_decide_eq_true g)]at h2
        exact h2 rfl
      · have rx:bW (aW xs a.toNat)=true:=rx
        rw[rx,if_pos rfl,if_neg (of_decide_eq_false g),←st]at h1 h2
        exact ih (a+1) _ _ ob (by lia) (by lia) h1 h2
      · have nrx:bW (aW xs a.toNat)=false:=nrx
        rw[nrx,if_neg Bool.false_ne_true]at h1 h2
        have sn:=qH so
        refine⟨fun q hq=>?_,fun hq=>?_⟩
        · have ee:∀(z:Option (Pf×Nat)),(match bj (aW xs a.toNat)with|.none=>z|_=>match d6 p (aW xs a.toNat)with|some p'=>gx (xs.drop (a.toNat+1)) p' (a.toNat+1)|none=>none)=gx (xs.drop (a.toNat+1)) q (a.toNat+1):=fun z=>by
            rw[hq]
            cases hs:bj (aW xs a.toNat) <;> first|rfl|exact absurd hs sn
          rw[ee,←st]at h1 h2
          exact ih (a+1) _ _ ob (by lia) (by lia) h1 h2
        · refine h2 ?_
          rw[hq]
          cases hs:bj (aW xs a.toNat) <;> first|rfl|exact absurd hs sn
      · have nrx:bW (aW xs a.toNat)=false:=nrx
        rw[nrx,if_neg Bool.false_ne_true,lP.mp so]at h1
        rw[GV]
        have:=h1 _ _ rfl
        rw[ea]at this;exact this
    · have ge:=of_decide_eq_false ge
      rw[el]at ge
      rw[List.drop_eq_nil_of_le (by lia)]at h1
      rw[C0]
      have:=h1 _ _ rfl
      rw[ea]at this;exact this
theorem tS:ba HB (pg kZ):=.inst (.cons .str (.cons .bool (.cons .int (.cons .bool (.cons .int .nil)))))
theorem mw (T:Nat→V) (w:World):∀R as KV,ib as KV R→∃bs,dm T w as bs∧au (qL 1 90 R) mv bs ⟨.nil,0⟩ (bg (bo T w KV)):=by
  intro R as KV h
  replace h:=NG h
  obtain⟨_,xs,_,a,rfl,h⟩:=h
  refine w5 h fun h0 hf hl90 h1 h2=>?_
  unfold rp at h1 h2
  refine⟨[.bytes false xs,.int false a],(bc.cons .bytes (.cons .int .nil)).same,?_⟩
  rw[Qr]
  have out:∀{v u:V},KV u→ba v u→bo T w KV v:=fun e l=>⟨_,l.same,e⟩
  have ea:Int.ofNat a.toNat=a:=Int.toNat_of_nonneg h0
  have el:Int.ofNat xs.length=(xs.length:Int):=rfl
  have hl:xs.length≤1000:=Nat.le_of_ble_eq_true hf
  have st:=gQ h0
  refine⟨hf,fun lt=>?_,fun ge=>?_⟩
  · have lt:=of_decide_eq_true lt
    rw[el]at lt
    have ltn:a.toNat < xs.length:=by lia
    rw[ly xs a.toNat ltn,dF]at h1 h2
    have go:∀q,(∀p' e,gx (xs.drop (a.toNat+1)) q (a.toNat+1)=some (p',e)→KV (.tup [pg p',.int false (Int.ofNat e)]))→(gx (xs.drop (a.toNat+1)) q (a.toNat+1)=none→R 83)→(Bs R 99).run ⟨mz xs (a+1) q (aW xs a.toNat),Ik⟩ (Kw R (bo T w KV)):=fun q g1 g2=>by
      rw[←st]at g1 g2
      exact M5 R _ xs hf 99 (a+1) _ q Ik (by lia) (by lia) (fun p' e he=>out (g1 p' e he) .refl) g2
    refine⟨decide_eq_true h0,?_,hf,fun rx=>?_,fun nrx=>⟨fun so=>?_,fun so=>?_⟩⟩
    · show Nat.blt _ _=true
      rw[Nat.blt_eq];exact ltn
    · have rx:bW (aW xs a.toNat)=true:=rx
      rw[rx,if_pos rfl,if_neg (by decide:¬(0≤kZ.rex))]at h1 h2
      exact go _ h1 h2
    · have nrx:bW (aW xs a.toNat)=false:=nrx
      rw[nrx,if_neg Bool.false_ne_true]at h1 h2
      have sn:=qH so
      refine⟨fun q hq=>?_,fun hq=>?_⟩
      · have ee:∀(z:Option (Pf×Nat)),(match bj (aW xs a.toNat)with|.none=>z|_=>match d6 kZ (aW xs a.toNat)with|some p'=>gx (xs.drop (a.toNat+1)) p' (a.toNat+1)|none=>none)=gx (xs.drop (a.toNat+1)) q (a.toNat+1):=fun z=>by
          rw[hq]
          cases hs:bj (aW xs a.toNat) <;> first|rfl|exact absurd hs sn
        rw[ee]at h1 h2
        exact go q h1 h2
      · refine h2 ?_
        rw[hq]
        cases hs:bj (aW xs a.toNat) <;> first|rfl|exact absurd hs sn
    · have nrx:bW (aW xs a.toNat)=false:=nrx
      rw[nrx,if_neg Bool.false_ne_true,lP.mp so]at h1
      have:=h1 _ _ rfl
      rw[ea]at this
      exact out this (.tup (.cons tS (.cons .refl .nil)))
  · have ge:=of_decide_eq_false ge
    rw[el]at ge
    rw[List.drop_eq_nil_of_le (by lia)]at h1
    have:=h1 _ _ rfl
    rw[ea]at this
    exact out this (.tup (.cons tS (.cons .refl .nil)))
theorem EG(R:Addr→Prop)(KU:V→Prop)(n:Int)(b:Bool):au (qL 1 90 R) tU [.int false n,.int true 8,.bool false b] ⟨.nil,0⟩ (bg KU) =
  bz false b ((0≤n∧n < 16)∧((8:Int)=8∨(8:Int)=16∨(8:Int)=32∨(8:Int)=64)∧KU (.str false (fA n 8))) (bz false (decide (4≤n)) (bz false (decide (n < 8)) ((4≤n∧n < 8)∧KU (.str false (iK n))) ((0≤n∧n < 16)∧((8:Int)=8∨(8:Int)=16∨(8:Int)=32∨(8:Int)=64)∧KU (.str false (fA n 8)))) ((0≤n∧n < 16)∧((8:Int)=8∨(8:Int)=16∨(8:Int)=32∨(8:Int)=64)∧KU (.str false (fA n 8)))):=by kernel_rfl
theorem FG(R:Addr→Prop)(KU:V→Prop)(n:Int){size:Int}(b:Bool)(h:size=16∨size=32∨size=64):au (qL 1 90 R) tU [.int false n,.int true size,.bool false b] ⟨.nil,0⟩ (bg KU)=((0≤n∧n < 16)∧(size=8∨size=16∨size=32∨size=64)∧KU (.str false (fA n size))):=by
 rcases h with rfl|rfl|rfl <;> kernel_rfl
theorem LU(T:Nat→V)(w:World):∀R as KV,jR as KV R→∃bs,dm T w as bs∧au (qL 1 90 R) tU bs ⟨.nil,0⟩ (bg (bo T w KV)):=by
 intro R as KV h
 replace h:=P8 h
 obtain⟨k,n,k2,size,k3,b,rfl,h⟩:=h
 refine kD h fun h1 hs hk=>?_
 refine⟨[.int false n,.int true size,.bool false b],(bc.cons .int (.cons .int (.cons .bool .nil))).same,?_⟩
 rcases hs with rfl|hs
 ·rw[EG]
  refine⟨fun e=>⟨h1,.inl rfl,_,ba.same .refl,?_⟩,fun e=>⟨fun e1=>⟨fun e2=>?_,fun e2=>⟨h1,.inl rfl,_,ba.same .refl,?_⟩⟩,fun e1=>⟨h1,.inl rfl,_,ba.same .refl,?_⟩⟩⟩
  ·subst e;simpa using hk
  ·subst e
   have e1':=of_decide_eq_true e1
   have e2':=of_decide_eq_true e2
   refine⟨⟨e1',e2'⟩,_,ba.same .refl,?_⟩
   rw[e1,e2]at hk;simpa using hk
  ·subst e
   rw[e1,e2]at hk;simpa using hk
  ·subst e
   rw[e1]at hk;simpa using hk
 ·rw[FG R _ n b hs]
  refine⟨h1,.inr hs,_,ba.same .refl,?_⟩
  have:(size==8)=false:=by rw[beq_eq_false_iff_ne];lia
  rw[this]at hk
  simpa using hk
noncomputable def yJ(KU:V→Prop):Nat→List V→Int→List V→Prop
 |0,_,_,found=>KU (.list found)
 |k+1,vs,p,found=>0≤p.fmod (Int.ofNat vs.length)∧p.fmod (Int.ofNat vs.length) < Int.ofNat vs.length∧Ng vs (p.fmod (Int.ofNat vs.length)) vs.length fun v l=>yJ KU k l (p.fdiv 6) (bJ found [v])
@[elab_as_elim] theorem len0 {P:List Int→Prop} (h0:P []) {xs:List Int} (h:xs.length≤0):P xs:=by
  cases xs with
  |nil=>exact h0
  |cons _ _=>exact absurd h (Nat.not_succ_le_zero _)
@[elab_as_elim] theorem lenS {P:List Int→Prop} {n:Nat} (h0:P []) (hs:∀a ys,ys.length≤n→P (a::ys)) {xs:List Int} (h:xs.length≤n+1):P xs:=by
  cases xs with
  |nil=>exact h0
  |cons a r=>exact hs a r (Nat.le_of_succ_le_succ h)
theorem AP(R:Addr→Prop)(KU:V→Prop)(xs:List Int)(p:Int)(h:xs.length≤3):au (qL 1 90 R) yS [.list (cC xs),.int false p] ⟨.nil,0⟩ (bg KU)=yJ KU xs.length (cC xs) p []:=by
 refine lenS ?_ (fun _ _ h=>?_) h
 ·kernel_rfl
 refine lenS ?_ (fun _ _ h=>?_) h
 ·kernel_rfl
 refine lenS ?_ (fun _ _ h=>?_) h
 ·kernel_rfl
 refine len0 ?_ h
 kernel_rfl
theorem bk(a:Int){n:Int}(h:0 < n):a.fmod n < n:=by rw[Int.fmod_eq_emod_of_nonneg a (by lia)];exact Int.emod_lt_of_pos a h
noncomputable abbrev JR(vs:List V)(x:Int)(Q:V→List V→Prop)(n i:Nat):Prop:=@Nat.rec (fun _=>Nat→Prop) (fun _=>True) (fun _ f j=>oE (sO vs j) (fun v=>(x=Int.ofNat j→Q v (cP vs j))∧f (j+1)) True) n i
theorem EY{vs:List V}{x:Int}{Q:V→List V→Prop}(h:∀i v,sO vs i=some v→Q v (cP vs i))(n:Nat):∀i,JR vs x Q n i:=by
  induction n with
  |zero=>exact fun _=>trivial
  | succ n ih=>
    intro i
    show oE (sO vs i) (fun v=>(x=Int.ofNat i→Q v (cP vs i))∧JR vs x Q n (i+1)) True
    cases e:sO vs i with
    |none=>trivial
    |some v=>exact⟨fun _=>h i v e,ih (i+1)⟩
theorem vO{vs:List V}{x:Int}{Q:V→List V→Prop}(h:∀i v,sO vs i=some v→Q v (cP vs i))(n:Nat):Ng vs x n Q:=EY h n 0
theorem Av{xs:List Int}:∀{i:Nat} {v:V},sO (cC xs) i=some v→∃x,v=.int false x∧xs.Perm (x::cP xs i)∧cP (cC xs) i=cC (cP xs i):=by
  induction xs with
  |nil=>exact fun e=>nomatch e
  | cons x r ih=>
    intro i v e
    cases i with
    |zero=>exact⟨x,(af e).symm,.refl _,rfl⟩
    |succ i=>exact(ih (i:=i) e).elim fun y h=>⟨y,h.1,(h.2.1.cons x).trans (.swap ..),congrArg _ h.2.2⟩
theorem aQ{α:Type}:∀(a b:List α),bJ a b=a++b
 |[],_=>rfl
 |x::r,b=>congrArg (x::·) (aQ r b)
theorem pR:∀(a b:List Int),cC a++cC b=cC (a++b)
 |[],_=>rfl
 |x::r,b=>congrArg (_::·) (pR r b)
theorem BF{KU:V→Prop}{xs:List Int}(hk:∀ys:List Int,ys.Perm xs→KU (.list (cC ys)))(k:Nat):∀(rs:List Int) (p:Int) (ys:List Int),k=rs.length→(ys++rs).Perm xs→yJ KU k (cC rs) p (cC ys):=by
  induction k with
  |zero=>exact fun rs p ys e hp=>hk ys (by rw[List.length_eq_zero_iff.mp e.symm,List.append_nil]at hp;exact hp)
  | succ k ih=>
    intro rs p ys e hp
    unfold yJ
    rw[lM]
    have hpos:(0:Int) < Int.ofNat rs.length:=Int.natCast_pos.mpr (by rw[←e];exact Nat.succ_pos k)
    refine⟨aZ _ hpos,bk _ hpos,vO (fun i v hv=>?_) _⟩
    refine(Av hv).elim fun x h=>?_
    rw[h.2.2,h.1,aQ,show cC ys++[V.int false x]=cC (ys++[x])from pR ys [x]]
    refine ih _ _ _ ?_ ?_
    · exact Nat.succ.inj (e.trans h.2.1.length_eq)
    · rw[List.append_assoc]
      exact((h.2.1.symm.append_left ys)).trans hp
theorem sU(ys:List Int):∃l,jF (cC ys)=some l∧ph l=ys:=by
  induction ys with
  |nil=>exact⟨[],rfl,rfl⟩
  | cons y r ih=>
    refine ih.elim fun l h=>⟨(false,y)::l,?_,congrArg _ h.2⟩
    show oO (jF (cC r)) _=_
    rw[h.1];rfl
theorem iR(ys:List Int)(k:Bool):ba (.list (cC ys)) (.irow k ys):=by
 refine av (sU ys) fun l h1 h2=>?_
 have:=ba.row (k:=k) h1
 rwa [h2]at this
set_option tactic.hygienic true in
theorem gP{v:V}{xs:List Int}(h:qb v=some xs):ba v (.irow false xs):=by
 unfold qb at h
 split at h
 ·cases h;exact .irow
 ·split at h
  ·rename_i e
   cases h
   exact .row e
  ·cases h
 ·cases h
set_option tactic.hygienic true in
theorem DT(T:Nat→V)(w:World):∀R as KV,kJ as KV R→∃bs,dm T w as bs∧au (qL 1 90 R) yS bs ⟨.nil,0⟩ (bg (bo T w KV)):=by
 intro R as KV h
 replace h:=Ud h
 obtain⟨v,k,p,rfl,h⟩:=h
 split at h
 case h_2=>exact h.elim
 rename_i xs hx
 refine bC h fun hl hk=>?_
 refine⟨[.list (cC xs),.int false p],fun H rs hv=>(bc.cons .unrow (.cons .refl .nil)).rel ((bc.cons (gP hx) (.cons .int .nil)).rel hv),?_⟩
 rw[AP R _ xs p hl]
 exact BF (fun ys hp=>⟨_,(iR ys false).same,hk ys hp⟩) _ xs p [] rfl (.refl _)
section
structure Sn where
 sg:Option Int
 rp:Option Int
 dt:Option Int
 lk:Option Int
 rx:Option Int
 n:Nat
noncomputable def Uc(x:Option Int)(d:Int):V:=match x with
 |some x=>.int false x
 |none=>.int true d
noncomputable def Bu(word:Str)(s:Sn):V:=.tup [.tup [.str true word,.bool true (eU s.dt),Uc s.rp 0,.bool true (eU s.lk),Uc s.rx (-1)],.int true (Int.ofNat s.n)]
noncomputable def F7(KU:V→Prop)(s:Sn):Prop:=match s.sg with
 |none=>KU (Bu (s0 "") s)
 |some x=>bz false (x==100) (KU (Bu (s0 "fs") s)) (bz false (x==101) (KU (Bu (s0 "gs") s)) (KU (Bu (s0 "") s)))
noncomputable def Bz(a b:Option Int)(KU:V→Prop)(Z:Prop):Prop:=match eU a with
  |true=>KU .none
  | false=>match eU b with
    |true=>KU .none
    |false=>Z
noncomputable def my(KU:V→Prop):List Int→Sn→Prop
  |[],s=>F7 KU s
  | x::r,s=>(dp x=.seg→Bz s.sg s.rx KU (my KU r {s with sg:=some x,n:=s.n+1}))∧
    (dp x=.rep→Bz s.rp s.rx KU (iE (eU s.lk) (KU .none) (my KU r {s with rp:=some x,n:=s.n+1})))∧
    (dp x=.barred→KU .none)∧
    (dp x=.data→Bz s.dt s.rx KU (my KU r {s with dt:=some x,n:=s.n+1}))∧
    (dp x=.lock→Bz s.lk s.rx KU (iE (eU s.rp) (KU .none) (my KU r {s with lk:=some x,n:=s.n+1})))∧
    (dp x=.rex→Bz s.rx s.rx KU (my KU r {s with rx:=some x,n:=s.n+1}))∧
    (dp x=.none→F7 KU s)
noncomputable def VL:Sn:=⟨none,none,none,none,none,0⟩
theorem Lv(R:Addr→Prop)(KU:V→Prop)(xs:List Int)(h:xs.length≤6):au (qL 1 90 R) yi [.irow false xs] ⟨.nil,0⟩ (bg KU)=my KU xs VL:=by
 refine lenS ?_ (fun _ _ h=>?_) h
 ·kernel_rfl
 refine lenS ?_ (fun _ _ h=>?_) h
 ·kernel_rfl
 refine lenS ?_ (fun _ _ h=>?_) h
 ·kernel_rfl
 refine lenS ?_ (fun _ _ h=>?_) h
 ·kernel_rfl
 refine lenS ?_ (fun _ _ h=>?_) h
 ·kernel_rfl
 refine lenS ?_ (fun _ _ h=>?_) h
 ·kernel_rfl
 refine len0 ?_ h
 kernel_rfl
structure mx(s:Sn)(p:Pf):Prop where
 sg:oE s.sg (fun x=>(x=100∧p.seg=s0 "fs")∨(x=101∧p.seg=s0 "gs")) (p.seg=s0 "")
 dt:p.data=eU s.dt
 rp:oE s.rp (fun x=>p.rep=x∧(x=242∨x=243)) (p.rep=0)
 lk:p.lock=eU s.lk
 rx:oE s.rx (fun x=>p.rex=x∧64≤x∧x < 80) (p.rex=-1)
noncomputable def gu(KV:V→Prop)(o:Option (Pf×Nat)):Prop:=(∀p e,o=some (p,e)→KV (.tup [U1 p,.int false (Int.ofNat e)]))∧(o=none→KV .none)
theorem t8{o:Option Int}{P:Int→Prop}{r d:Int}(h:oE o (fun x=>r=x∧P x) (r=d)):ba (Uc o d) (.int false r):=by
 cases o with
 |none=>rw[show r=d from h];exact .int
 |some x=>rw[show r=x from h.1];exact .int
theorem Ds{T:Nat→V}{w:World}{KV:V→Prop}{s:Sn}{p:Pf}(r:mx s p)(h:gu KV (some (p,s.n))):F7 (bo T w KV) s:=by
 have l1:=t8 r.rp
 have l2:=t8 r.rx
 have go:∀word,p.seg=word→bo T w KV (Bu word s):=fun word e=>⟨_,ba.same (by
  unfold Bu U1
  rw[←e,←r.dt,←r.lk]
  exact .tup (.cons (.tup (.cons .str (.cons .bool (.cons l1 (.cons .bool (.cons l2 .nil)))))) (.cons .int .nil))),h.1 _ _ rfl⟩
 refine cps fun G kk=>d8 r.sg (fun x e h=>kk ?_) fun e h=>kk ?_
 ·unfold F7
  rw[e]
  exact h.elim (fun h=>by rw[h.1];exact⟨fun _=>go _ h.2,fun e=>(by cases e)⟩) fun h=>by rw[h.1];exact⟨fun e=>(by cases e),fun _=>⟨fun _=>go _ h.2,fun e=>(by cases e)⟩⟩
 ·unfold F7
  rw[e]
  exact go _ h
theorem i5{s:Sn}{p:Pf}(r:mx s p):(0≤p.rex↔eU s.rx=true):=
 d8 r.rx (fun x e h=>by rw[e,h.1];exact⟨fun _=>rfl,fun _=>Int.le_trans (by decide) h.2.1⟩) fun e h=>by rw[e,h];exact⟨fun h=>absurd h (by decide),fun h=>nomatch h⟩
theorem Hk{s:Sn}{p:Pf}(r:mx s p):((p.seg != s0 "")=eU s.sg):=
 d8 r.sg (fun x e h=>by rw[e];exact h.elim (fun h=>by rw[h.2];rfl) fun h=>by rw[h.2];rfl) fun e h=>by rw[e,h];rfl
theorem yR{s:Sn}{p:Pf}(r:mx s p):((p.rep != 0)=eU s.rp):=
 d8 r.rp (fun x e h=>by rw[e,h.1];exact h.2.elim (fun h=>by rw[h];rfl) fun h=>by rw[h];rfl) fun e h=>by rw[e,h];rfl
theorem ue(x:Int):(dp x=.seg∧(x=100∨x=101))∨(dp x=.rep∧(x=242∨x=243))∨(dp x=.barred∧bW x=false∧bj x=.barred)∨(dp x=.data∧x=102)∨(dp x=.lock∧x=240)∨(dp x=.rex∧64≤x∧x < 80∧bW x=true)∨(dp x=.none∧bW x=false∧bj x=.none):=by
 have rx:bW x=(decide (64≤x)&&decide (x < 80)):=by
  unfold bW
  rw[Bool.eq_iff_iff,Bool.and_eq_true,decide_eq_true_eq,decide_eq_true_eq,beq_iff_eq,Int.fdiv_eq_ediv_of_nonneg _ (by decide)]
  lia
 by_cases h1:x=100∨x=101
 ·exact .inl ⟨by rcases h1 with rfl|rfl <;> rfl,h1⟩
 by_cases h2:x=242∨x=243
 ·exact .inr (.inl ⟨by rcases h2 with rfl|rfl <;> rfl,h2⟩)
 by_cases h3:x=38∨x=46∨x=54∨x=62∨x=103
 ·refine .inr (.inr (.inl ?_))
  rcases h3 with rfl|rfl|rfl|rfl|rfl <;> exact⟨rfl,rfl,rfl⟩
 by_cases h4:x=102
 ·exact .inr (.inr (.inr (.inl ⟨by rw[h4];rfl,h4⟩)))
 by_cases h5:x=240
 ·exact .inr (.inr (.inr (.inr (.inl ⟨by rw[h5];rfl,h5⟩))))
 have e:∀n:Int,x≠n→(x==n)=false:=fun n h=>by rw[beq_eq_false_iff_ne];exact h
 have f1:dp x=if decide (64≤x)&&decide (x < 80)then .rex else .none:=by
  unfold dp
  rw[e 100 (by lia),e 101 (by lia),e 242 (by lia),e 243 (by lia),e 38 (by lia),e 46 (by lia),e 54 (by lia),e 62 (by lia),e 103 (by lia),e 102 h4,e 240 h5]
  rfl
 have f2:bj x=.none:=by
  unfold bj
  rw[e 100 (by lia),e 101 (by lia),e 242 (by lia),e 243 (by lia),e 38 (by lia),e 46 (by lia),e 54 (by lia),e 62 (by lia),e 103 (by lia),e 102 h4,e 240 h5]
  rfl
 by_cases h6:64≤x∧x < 80
 ·have:(decide (64≤x)&&decide (x < 80))=true:=by rw[decide_eq_true h6.1,decide_eq_true h6.2];rfl
  refine .inr (.inr (.inr (.inr (.inr (.inl ⟨?_,h6.1,h6.2,?_⟩)))))
  ·rw[f1,this];rfl
  ·rw[rx,this]
 ·have:(decide (64≤x)&&decide (x < 80))=false:=by
   rw[Bool.eq_false_iff]
   intro h
   rw[Bool.and_eq_true,decide_eq_true_eq,decide_eq_true_eq]at h
   exact h6 h
  refine .inr (.inr (.inr (.inr (.inr (.inr ⟨?_,?_,f2⟩)))))
  ·rw[f1,this];rfl
  ·rw[rx,this]
noncomputable def PG(l:L7)(x:Int):Prop:=match l with
 |.seg=>x=100∨x=101
 |.rep=>x=242∨x=243
 |.barred=>bW x=false∧bj x=.barred
 |.data=>x=102
 |.lock=>x=240
 |.rex=>64≤x∧x < 80∧bW x=true
 |.none=>bW x=false∧bj x=.none
theorem B6(x:Int):PG (dp x) x:=by
 rcases ue x with h|h|h|h|h|h|h <;> (rw[h.1];exact h.2)
theorem mP{x:Int}{r:List Int}{p:Pf}{n:Nat}(h1:bW x=false)(h2:bj x≠.none):gx (x::r) p n=match d6 p x with
  |some q=>gx r q (n+1)
  |none=>none:=by
 rw[dF,h1,if_neg (by decide)]
 cases h:bj x <;> first|rfl|exact absurd h h2
theorem mV{KU:V→Prop}{a b:Option Int}{Z:Prop}(h1:eU a=true∨eU b=true→KU .none)(h2:eU a=false→eU b=false→Z):Bz a b KU Z:=by
  unfold Bz
  cases ea:eU a with
  |true=>exact h1 (.inl ea)
  | false=>cases eb:eU b with
    |true=>exact h1 (.inr eb)
    |false=>exact h2 ea eb
theorem Ks{b:Bool}{P Q:Prop}(h1:b=true→P)(h2:b=false→Q):iE b P Q:=by
 cases b with
 |true=>exact h1 rfl
 |false=>exact h2 rfl
theorem FH{α:Type}{c:Prop}[Decidable c]{b:Bool}{q:α}(h:c∨b=true):(if c then none else if b then none else some q)=(none:Option α):=by
 by_cases hc:c
 ·rw[if_pos hc]
 ·rw[if_neg hc,if_pos (h.resolve_left hc)]
theorem BP{α:Type}{c:Prop}[Decidable c]{b:Bool}{q:α}(h:¬c)(e:b=false):(if c then none else if b then none else some q)=some q:=by rw[if_neg h,e];rfl
section
variable {T:Nat→V}{w:World}{KV:V→Prop}{xs:List Int}{s:Sn}{p:Pf}{x:Int}
noncomputable abbrev ql(T:Nat→V)(w:World)(KV:V→Prop)(xs:List Int):Prop:=∀(s:Sn) (p:Pf),mx s p→gu KV (gx xs p s.n)→my (bo T w KV) xs s
theorem G3{o:Option Int}{P:Int→Prop}(e:eU o=false):oE o (fun x=>(0:Int)=x∧P x) ((0:Int)=0):=by cases o;rfl;cases e
theorem xf(h:bj x=.barred):d6 p x=none:=by unfold d6;rw[h]
theorem rG{o:Option (Pf×Nat)}(h:gu KV o)(e:o=none):bo T w KV .none:=⟨_,ba.same .refl,h.2 e⟩
theorem nI(r:mx s p)(b:eU s.rx=false):¬0≤p.rex:=fun h=>by have:=(i5 r).mp h;rw[b]at this;cases this
theorem mR(r:mx s p)(b:eU s.rx=false):oE s.rx (fun x=>(-1:Int)=x∧64≤x∧x < 80) ((-1:Int)=-1):=by
 refine cps fun G kk=>d8 r.rx (fun x e _=>?_) fun e _=>kk (by rw[e];rfl)
 rw[e]at b;cases b
theorem kP{q:Pf}{f:Bool}(i1:bW x=false)(i2:bj x≠.none)(lg:d6 p x=if 0≤p.rex then none else if f then none else some q)(h:gu KV (gx (x::xs) p s.n)):(0≤p.rex∨f=true→bo T w KV .none)∧(¬0≤p.rex→f=false→gu KV (gx xs q (s.n+1))):=by
 have e:=mP (r:=xs) (p:=p) (n:=s.n) i1 i2
 rw[lg]at e
 refine⟨fun hb=>rG h (e.trans (by rw[FH hb])),fun h1 h2=>?_⟩
 rw[BP h1 h2]at e
 rw[e]at h;exact h
theorem Hl(ih:ql T w KV xs)(r:mx s p)(h:gu KV (gx (x::xs) p s.n))(hx:x=100∨x=101):Bz s.sg s.rx (bo T w KV) (my (bo T w KV) xs {s with sg:=some x,n:=s.n+1}):=by
 have S:=kP (T:=T) (w:=w) (s:=s) (q:={p with seg:=if x==100 then s0 "fs" else s0 "gs",rex:=-1}) (f:=p.seg != s0 "") (by cases hx with|inl e=>rw[e];rfl|inr e=>rw[e];rfl) (by cases hx with|inl e=>rw[e];nofun|inr e=>rw[e];nofun) (by cases hx with|inl e=>rw[e];rfl|inr e=>rw[e];rfl) h
 rw[Hk r]at S
 exact mV (fun hb=>S.1 (hb.symm.imp (i5 r).mpr id)) fun b1 b2=>ih _ {p with seg:=if x==100 then s0 "fs" else s0 "gs",rex:=-1} ⟨hx.imp (fun e=>⟨e,by rw[e];rfl⟩) fun e=>⟨e,by rw[e];rfl⟩,r.dt,r.rp,r.lk,mR (s:=s) (p:=p) r b2⟩ (S.2 (nI r b2) b1)
theorem Iq(ih:ql T w KV xs)(r:mx s p)(h:gu KV (gx (x::xs) p s.n))(hx:x=242∨x=243):Bz s.rp s.rx (bo T w KV) (iE (eU s.lk) (bo T w KV .none) (my (bo T w KV) xs {s with rp:=some x,n:=s.n+1})):=by
 have S:=kP (T:=T) (w:=w) (s:=s) (q:={p with rep:=x,lock:=false,rex:=-1}) (f:=p.rep != 0||p.lock) (by cases hx with|inl e=>rw[e];rfl|inr e=>rw[e];rfl) (by cases hx with|inl e=>rw[e];nofun|inr e=>rw[e];nofun) (by cases hx with|inl e=>rw[e];rfl|inr e=>rw[e];rfl) h
 rw[yR r,r.lk]at S
 exact mV (fun hb=>S.1 (hb.symm.imp (i5 r).mpr fun e=>by rw[e];rfl)) fun b1 b2=>Ks (fun b3=>S.1 (.inr (by rw[b3,Bool.or_true]))) fun b3=>ih _ {p with rep:=x,lock:=false,rex:=-1} ⟨r.sg,r.dt,⟨rfl,hx⟩,b3.symm,mR (s:=s) (p:=p) r b2⟩ (S.2 (nI r b2) (by rw[b1,b3];rfl))
theorem DC(ih:ql T w KV xs)(r:mx s p)(h:gu KV (gx (x::xs) p s.n))(hx:x=102):Bz s.dt s.rx (bo T w KV) (my (bo T w KV) xs {s with dt:=some x,n:=s.n+1}):=by
 have S:=kP (T:=T) (w:=w) (s:=s) (q:={p with data:=true,rex:=-1}) (f:=p.data) (by rw[hx];rfl) (by rw[hx];nofun) (by rw[hx];rfl) h
 rw[r.dt]at S
 exact mV (fun hb=>S.1 (hb.symm.imp (i5 r).mpr id)) fun b1 b2=>ih _ {p with data:=true,rex:=-1} ⟨r.sg,rfl,r.rp,r.lk,mR (s:=s) (p:=p) r b2⟩ (S.2 (nI r b2) b1)
theorem BB(ih:ql T w KV xs)(r:mx s p)(h:gu KV (gx (x::xs) p s.n))(hx:x=240):Bz s.lk s.rx (bo T w KV) (iE (eU s.rp) (bo T w KV .none) (my (bo T w KV) xs {s with lk:=some x,n:=s.n+1})):=by
 have S:=kP (T:=T) (w:=w) (s:=s) (q:={p with rep:=0,lock:=true,rex:=-1}) (f:=p.lock||p.rep != 0) (by rw[hx];rfl) (by rw[hx];nofun) (by rw[hx];rfl) h
 rw[yR r,r.lk]at S
 exact mV (fun hb=>S.1 (hb.symm.imp (i5 r).mpr fun e=>by rw[e];rfl)) fun b1 b2=>Ks (fun b3=>S.1 (.inr (by rw[b3,Bool.or_true]))) fun b3=>ih _ {p with rep:=0,lock:=true,rex:=-1} ⟨r.sg,r.dt,G3 b3,rfl,mR (s:=s) (p:=p) r b2⟩ (S.2 (nI r b2) (by rw[b1,b3];rfl))
theorem H6(ih:ql T w KV xs)(r:mx s p)(h:gu KV (gx (x::xs) p s.n))(h64:64≤x)(h80:x < 80)(h1:bW x=true):Bz s.rx s.rx (bo T w KV) (my (bo T w KV) xs {s with rx:=some x,n:=s.n+1}):=by
 rw[dF,h1,if_pos rfl]at h
 refine mV (fun hb=>rG h (if_pos ((i5 r).mpr (hb.elim id id)))) fun _ b2=>ih _ {p with rex:=x} ⟨r.sg,r.dt,r.rp,r.lk,⟨rfl,h64,h80⟩⟩ ?_
 rw[if_neg (nI r b2)]at h;exact h
theorem M1(xs:List Int):ql T w KV xs:=by
  induction xs with
  |nil=>exact fun s p r h=>Ds r h
  | cons x xs ih=>
    intro s p r h
    have L:=B6 x
    exact⟨fun e=>Hl ih r h (e▸L:PG .seg x),fun e=>Iq ih r h (e▸L:PG .rep x),fun e=>rG h (by rw[e]at L;rw[mP L.1 (by rw[L.2];nofun),xf L.2]),fun e=>DC ih r h (e▸L:PG .data x),fun e=>BB ih r h (e▸L:PG .lock x),fun e=>by rw[e]at L;exact H6 ih r h L.1 L.2.1 L.2.2,fun e=>Ds r (by rw[e]at L;rw[dF,L.1,L.2,if_neg (by decide)]at h;exact h)⟩
end
theorem Qi(T:Nat→V)(w:World):∀R as KV,B4 as KV R→∃bs,dm T w as bs∧au (qL 1 90 R) yi bs ⟨.nil,0⟩ (bg (bo T w KV)):=by
 intro R as KV h
 replace h:=dR h
 refine MZ h fun k xs rq2 hl h1 h2=>?_;subst rq2
 refine⟨[.irow false xs],(bc.cons .irow .nil).same,?_⟩
 rw[Lv R _ xs hl]
 exact M1 xs VL kZ ⟨rfl,rfl,rfl,rfl,rfl⟩ ⟨h1,h2⟩
end
noncomputable abbrev Ug(D:Dc)(R:Addr→Prop):Ev:=ev {HJ D with R:=R} 140
noncomputable def NJ(D:Dc):Int:=8*D.d+(match D.is8 with|true=>0|false=>1)
noncomputable def RT(is8:Bool)(w:Int)(data:Bool):Int:=match is8 with
  |true=>8
  | false=>match w==1 with
    |true=>64
    | false=>match data with
      |true=>16
      |false=>32
noncomputable def NV(is8:Bool)(w:Int)(data:Bool)(d:Int):Int:=match is8 with
  |true=>19*d
  | false=>match w==1 with
    |true=>19*d+3
    | false=>match data with
      |true=>19*d+1
      |false=>19*d+2
noncomputable def Dc.size(D:Dc):Int:=RT D.is8 D.w D.P.data
noncomputable def Dt(D:Dc):V:=lY D.d D.size ("rm"++qE D.size) ("r"++qE D.size) (NV D.is8 D.w D.P.data D.d)
noncomputable def QF(D:Dc):V:=Lx (D.m.fmod 8) (bB D.P.rex 1) (pE D.y) D.size D.P.seg
noncomputable def OI(D:Dc):V:=.inst 552 [(s0 "kind",.str true (s0 "reg")),(s0 "register",Je ((D.m.fdiv 8).fmod 8+8*bB D.P.rex 4) D.size (decide (0≤D.P.rex)))]
noncomputable def qD(b:Bool):Str:=match b with
 |true=>s0 "lock"
 |false=>s0 ""
noncomputable def LA(D:Dc)(a:Int):V:=.inst 908 [(s0 "instruction",.inst 733 [(s0 "name",.str false (ck D.d)),(s0 "operands",.tup [QF D,OI D]),(s0 "prefix",.str true (qD D.P.lock))]),(s0 "length",.int false (Int.ofNat D.n+1+2 - a)),(s0 "form",Dt D),(s0 "prefixes",VT D.P)]
noncomputable def sE(D:Dc)(xs:List Int)(a:Int)(R83 Z:Prop):Prop:=
 (0≤a∧bN xs.length=true∧xs.length≤90∧rp xs a.toNat=some (D.P,D.n))∧D.P.rex=D.P.rex∧true=true∧true=true∧bN xs.length=true∧
 (dy (cut xs (some D.n) (some (D.n+1))) [15]=true→bN xs.length=true∧(decide (Int.ofNat xs.length≤Int.ofNat D.n+1)=true→R83)∧(decide (Int.ofNat xs.length≤Int.ofNat D.n+1)=false→true=true∧By (D.n+1) xs.length=true∧bN xs.length=true∧False))∧
 (dy (cut xs (some D.n) (some (D.n+1))) [15]=false→bN xs.length=true∧(decide (Int.ofNat xs.length≤Int.ofNat D.n)=true→R83)∧(decide (Int.ofNat xs.length≤Int.ofNat D.n)=false→true=true∧By D.n xs.length=true∧bN xs.length=true∧Z))
noncomputable def IY(D:Dc)(xs:List Int)(Z:Prop):Prop:=aW xs D.n=NJ D∧Z
noncomputable def ng(s:Int):Prop:=s=8∨s=16∨s=32∨s=64
noncomputable def mI(n:Int)(s:Int)(Z:Prop):Prop:=(0≤n∧n < 16)∧ng s∧Z
noncomputable def KO(D:Dc)(k a:Int)(R83 Z:Prop):Prop:=(decide (15 < Int.ofNat D.n+1+k - a)=true→R83)∧(decide (15 < Int.ofNat D.n+1+k - a)=false→Z)
noncomputable def F0(D:Dc)(xs:List Int)(a:Int)(R83 Z:Prop):Prop:=IY D xs (
 (0≤Int.ofNat D.n+1∧bN xs.length=true∧D.n+1+1 < xs.length∧aW xs (D.n+1)=D.m∧aW xs (D.n+1+1)=D.y)∧true=true∧true=true∧(0≤aW xs D.n∧aW xs D.n < 56)∧(1:Int)=1∧
 (0≤D.m.fmod 8∧D.m.fmod 8 < 8∧D.m.fmod 8≠4)∧(bB D.P.rex 1=0∨bB D.P.rex 1=1)∧
 mI ((D.m.fdiv 8).fmod 8+8*bB D.P.rex 4) D.size (KO D 2 a R83 Z))
noncomputable def KH(D:Dc)(xs:List Int)(a:Int)(R83 Z:Prop):Prop:=IY D xs (
 (0≤Int.ofNat D.n+1∧bN xs.length=true∧D.n+1 < xs.length∧aW xs (D.n+1)=D.m)∧true=true∧true=true∧(0≤aW xs D.n∧aW xs D.n < 56)∧
 mI (D.m.fmod 8+8*bB D.P.rex 1) D.size (mI ((D.m.fdiv 8).fmod 8+8*bB D.P.rex 4) D.size (KO D 1 a R83 Z)))
noncomputable def mC(b:Bool):Bool:=match b with
 |true=>false
 |false=>true
noncomputable def PM(D:Dc)(Z:Prop):Prop:=(mC (aS D.P.seg (s0 ""))=true→Z)∧(mC (aS D.P.seg (s0 ""))=false→Z)
noncomputable def mK(b:Bool)(D:Dc)(xs:List Int)(Z:Prop):Prop:=match b with
 |true=>IY D xs Z
 |false=>Z
noncomputable def A7(D:Dc):Bool:=match D.P.data with
  | true=>match D.is8 with
    |true=>true
    |false=>D.w==1
  |false=>false
noncomputable def NX(b:Bool)(R83 Z:Prop):Prop:=match b with
 |true=>R83
 |false=>Z
noncomputable def yy(D:Dc)(Z:Prop):Prop:=match D.P.lock with
 |true=>(∃d size,B2 d size (Dt D))∧Z
 |false=>Z
theorem Dg(R:Addr→Prop)(KU:V→Prop){D:Dc}{seg:Str}{data lock is8:Bool}{w:Int}(rex d m y:Int)(n:Nat)(xs:List Int)(a:Int)(hD:D=⟨⟨seg,data,0,lock,rex⟩,n,d,is8,w,true,m,y⟩)(hw:w=0∨w=1) :
  au (Ug D R) nQ [.named 1,.bytes false xs,.int false a] ⟨.nil,0⟩ (bg KU) =
  sE D xs a (R 83) (mK data D xs (F0 D xs a (R 83) (NX (A7 D) (R 83) (yy D (PM D (KU (LA D a))))))):=by
 subst hD
 have k1:=vb data;have k2:=vb lock;have k3:=vb is8;have k4:=pJ hw;clear hw;revert data lock is8 w k1 k2 k3 k4
 exact@(lq (by kernel_rfl))
theorem Mx(R:Addr→Prop)(KU:V→Prop){D:Dc}{seg:Str}{data is8:Bool}{w rep:Int}(rex d m y:Int)(n:Nat)(xs:List Int)(a:Int)(hD:D=⟨⟨seg,data,rep,false,rex⟩,n,d,is8,w,true,m,y⟩)(hw:w=0∨w=1)(hr:rep=242∨rep=243) :
  au (Ug D R) nQ [.named 1,.bytes false xs,.int false a] ⟨.nil,0⟩ (bg KU) =
  sE D xs a (R 83) (IY D xs (mK data D xs (F0 D xs a (R 83) (NX (A7 D) (R 83) (PM D ((∃d',0≤d'∧d' < 7∧ck D.d=ck d')∧R 83)))))):=by
 subst hD
 have k1:=vb data;have k2:=vb is8;have k3:=pJ hw;have k4:=pJ hr;clear hw hr;revert data is8 w rep k1 k2 k3 k4
 exact@(lq (by kernel_rfl))
theorem Lo(R:Addr→Prop)(KU:V→Prop){D:Dc}{seg:Str}{data is8:Bool}{w:Int}(rex d m y:Int)(n:Nat)(xs:List Int)(a:Int)(hD:D=⟨⟨seg,data,0,true,rex⟩,n,d,is8,w,false,m,y⟩)(hw:w=0∨w=1) :
  au (Ug D R) nQ [.named 1,.bytes false xs,.int false a] ⟨.nil,0⟩ (bg KU) =
  sE D xs a (R 83) (mK data D xs (KH D xs a (R 83) (NX (A7 D) (R 83) (yy D (R 83))))):=by
 subst hD
 have k1:=vb data;have k2:=vb is8;have k3:=pJ hw;clear hw;revert data is8 w k1 k2 k3
 exact@(lJ (by kernel_rfl))
noncomputable def K9:List V→V
 |[]=>.none
 |a::_=>a
noncomputable def kR:Nat→List V→List V
 |0,_=>[]
 |n+1,l=>K9 l::kR n l.tail
noncomputable def Ic:Nat→List V→List V
 |0,l=>l
 |n+1,l=>Ic n l.tail
noncomputable def Uu(vs:List V)(e n:Int):List V:=kR 7 vs++.int false e::.int true n::kR 9 (Ic 9 vs)
noncomputable def D7(vs:List V)(e n:Int):V:=.inst 964 (L3.zip (Uu vs e n))
theorem Lf(R:Addr→Prop)(KU:V→Prop)(f:V)(vs:List V)(e n:Int)(h1:0≤n)(h2:n < 56) :
  au (hX R) Hc [f,D7 vs e n] ⟨.nil,0⟩ (bg KU)=bz false (e==1) (KU (.bool true true)) (KU (.bool true true)):=by
 have k1:=fg (k:=56) h1 h2;clear h1 h2;revert n k1
 exact@(ia (by kernel_rfl))
theorem LI{v:V}(h:JB v=true):∃k x,v=.int k x:=by
 unfold JB at h
 cases q:eO v with
 |none=>rw[q]at h;cases h
 |some x=>obtain⟨k,e⟩:=dc q;exact⟨k,x,e⟩
theorem BO:∀(n:Nat) {l:List V},l.length=n→kR n l=l:=by
  intro n
  induction n with
  |zero=>intro l h;exact(List.length_eq_zero_iff.mp h).symm
  | succ n ih=>
    intro l h
    cases l with
    |nil=>cases h
    |cons a r=>exact congrArg (a::·) (ih (Nat.succ.inj h))
theorem w4(l:List V):bc l l:=by
 induction l with
 |nil=>exact .nil
 |cons a r ih=>exact .cons .refl ih
theorem uP:∀(m k:Nat) (l us:List V),bc (kR k (Ic m l)) us→bc (kR (k+m) l) (kR m l++us):=by
 intro m
 induction m with
 |zero=>intro k l us h;exact h
 |succ m ih=>intro k l us h;exact .cons .refl (ih k l.tail us h)
theorem II{fr:V}(h:Qu fr=true):∃vs,fr=.inst 964 (L3.zip (kR 18 vs))∧JB (K9 (Ic 7 vs))=true∧JB (K9 (Ic 8 vs))=true:=by
  cases fr with
  | inst C fs=>
    refine bC (lE (h:aH (Nat.beq C 964) (aH (mX fs L3) (aH (JB (pv fs 7)) (JB (pv fs 8))))=true)) fun q1 q=>?_
    refine bC (lE q) fun q2 q=>?_
    refine bC (nY q2) fun e l=>?_
    have e2:fs=L3.zip (kR 18 (fs.map (·.2))):=e.trans (congrArg L3.zip (BO 18 l).symm)
    refine bC (lE q) fun q3 q4=>?_
    refine⟨fs.map (·.2),?_,?_,?_⟩
    · rw[Nat.eq_of_beq_eq_true q1,←e2]
    · rw[e2]at q3;exact q3
    · rw[e2]at q4;exact q4
  |_=>cases h
theorem ur{v:V}{k:Bool}(h:JB v=true):ba v (.int k (zY v)):=by
 refine jr (LI h) fun _ _ rq2=>?_;subst rq2
 exact .int
theorem O4(T:Nat→V)(w:World):∀R as KV,E0 as KV R→∃bs,dm T w as bs∧au (hX R) Hc bs ⟨.nil,0⟩ (bg (bo T w KV)):=by
 intro R as KV h
 obtain⟨f,fr,rfl,h0,_,⟨h1,h2⟩,hk⟩:=VX h
 refine dC (II h0) fun vs rq1 a b=>?_;subst rq1
 refine⟨[f,D7 vs (zY (K9 (Ic 7 vs))) (zY (K9 (Ic 8 vs)))],(bc.cons .refl (.cons (.inst (qj L3 ?_)) .nil)).same,?_⟩
 ·exact uP 7 11 vs _ (.cons (ur a) (.cons (ur b) (w4 _)))
 rw[Lf R _ f vs (zY (K9 (Ic 7 vs))) (zY (K9 (Ic 8 vs))) h1 h2]
 exact⟨fun _=>⟨_,ba.same .refl,hk⟩,fun _=>⟨_,ba.same .refl,hk⟩⟩
noncomputable def DL(n size:Int)(KU:V→Prop):Prop:=(0≤n∧n < 16)∧ng size∧KU (Er (fA n size) (s0 "gpr") n size)
theorem GZ(R:Addr→Prop)(KU:V→Prop)(n:Int)(b:Bool):au (qL 1 90 R) tG [.int false n,.int true 8,.bool false b] ⟨.nil,0⟩ (bg KU) =
  bz false b (DL n 8 KU) (bz false (decide (4≤n)) (bz false (decide (n≤7)) ((4≤n∧n < 8)∧KU (Er (iK n) (s0 "high") n 8)) (DL n 8 KU)) (DL n 8 KU)):=by kernel_rfl
theorem IX(R:Addr→Prop)(KU:V→Prop)(n:Int){size:Int}(b:Bool)(h:size=16∨size=32∨size=64):au (qL 1 90 R) tG [.int false n,.int true size,.bool false b] ⟨.nil,0⟩ (bg KU)=DL n size KU:=by
 rcases h with rfl|rfl|rfl <;> kernel_rfl
theorem P4 (T:Nat→V) (w:World):∀R as KV,De as KV R→∃bs,dm T w as bs∧au (qL 1 90 R) tG bs ⟨.nil,0⟩ (bg (bo T w KV)):=by
  intro R as KV h
  replace h:=P8 h
  obtain⟨k,n,k2,size,k3,b,rfl,h⟩:=h
  refine kD h fun h1 hs hk=>?_
  refine⟨[.int false n,.int true size,.bool false b],(bc.cons .int (.cons .int (.cons .bool .nil))).same,?_⟩
  have low:j2 n size b=false→DL n size (bo T w KV):=fun e=>by
    unfold Je at hk
    rw[e]at hk
    exact⟨h1,hs,_,ba.same .refl,hk⟩
  rcases hs with rfl|hs
  · rw [GZ]
    refine⟨fun e=>low (by subst e;rfl),fun e=>⟨fun e1=>⟨fun e2=>?_,fun e2=>low ?_⟩,fun e1=>low ?_⟩⟩
    · have e1:=of_decide_eq_true e1
      have e2:=of_decide_eq_true e2
      have:j2 n 8 b=true:=by
        subst e
        show aH (decide (4≤n)) (decide (n < 8))=true
        rw[decide_eq_true e1,decide_eq_true (by lia:n < 8)];rfl
      unfold Je at hk
      rw[this]at hk
      exact⟨⟨e1,by lia⟩,_,ba.same .refl,hk⟩
    · have e2:=of_decide_eq_false e2
      subst e
      show aH (decide (4≤n)) (decide (n < 8))=false
      rw[e1,decide_eq_false (by lia:¬n < 8)];rfl
    · subst e
      show aH (decide (4≤n)) (decide (n < 8))=false
      rw[e1];rfl
  · rw[IX R _ n b hs]
    refine low ?_
    rcases hs with rfl|rfl|rfl <;> rfl
theorem Lm(R:Addr→Prop)(KU:V→Prop){rm:Int}(sib disp x b size:Int)(seg:Str)(h:rm=0∨rm=1∨rm=2∨rm=3∨rm=5∨rm=6∨rm=7):au (qL 1 90 R) DF [.int true 1,.int true rm,.int false sib,.int false disp,.int false x,.int false b,.int false size,.str false seg] ⟨.nil,0⟩ (bg KU) =
  ((0≤rm+8*b∧rm+8*b < 16)∧ng 64∧KU (Lx rm b disp size seg)):=by
 have k1:=Wy h;clear h;revert rm k1
 exact@(ia (by kernel_rfl))
noncomputable def So:List Int→List Bool→List V
  |[],_=>[]
  | x::l,f=>match f with
    |[]=>.int false x::So l []
    |b::f=>.int b x::So l f
theorem vV {s:Str}:∀{as:List V} {l:List Int} (f:List Bool),ud as=some (l,s)→bc as (So l f++[.str false s]):=by
  intro as
  induction as with
  |nil=>intro _ _ h;cases h
  | cons a r ih=>
    intro l f h
    cases r with
    | nil=>
      cases q:JV a with
      |none=>exact absurd ((show(match JV a with|some s=>some (([]:List Int),s)|none=>none)=_ from h)) (by rw[q];exact fun e=>nomatch e)
      | some x=>
        refine cf (wL q) fun k rq1=>?_;subst rq1
        cases h
        exact .cons .str .nil
    | cons b r=>
      replace h:(match eO a with|some x=>(match ud (b::r)with|some p=>some (x::p.1,p.2)|none=>none)|none=>none)=some (l,s):=h
      cases q:eO a with
      |none=>rw[q]at h;cases h
      | some x=>
        cases q2:ud (b::r)with
        |none=>rw[q,q2]at h;cases h
        | some p=>
          rw[q,q2]at h
          refine cf (dc q) fun k rq1=>?_;subst rq1
          cases h
          cases f with
          |nil=>exact .cons .int (ih [] q2)
          |cons c f=>exact .cons .int (ih f q2)
theorem Lw{l:List Int}(h:VI l=1):l.length=7:=by
  cases q:Nat.beq l.length 7 with
  |true=>exact Nat.eq_of_beq_eq_true q
  | false=>
    have h:(match Nat.beq l.length 7 with|true=>aW l 0|false=>0)=1:=h
    rw[q]at h
    cases h
theorem Pe(T:Nat→V)(w:World):∀R as KV,CL as KV R→∃bs,dm T w as bs∧au (qL 1 90 R) DF bs ⟨.nil,0⟩ (bg (bo T w KV)):=by
 intro R as KV h
 obtain⟨⟨l,seg⟩,e,h0,hr,hb,hk⟩:=M8 h
 have e:=(vV [true,true] e).same (T:=T) (w:=w)
 have L:=Lw h0
 refine bq (dW L) fun md r1 rq2 l1=>?_;subst rq2
 refine bq (dW l1) fun rm r2 rq2 l2=>?_;subst rq2
 refine bq (dW l2) fun sib r3 rq2 l3=>?_;subst rq2
 refine bq (dW l3) fun disp r4 rq2 l4=>?_;subst rq2
 refine bq (dW l4) fun x r5 rq2 l5=>?_;subst rq2
 refine bq (dW l5) fun b r6 rq2 l6=>?_;subst rq2
 refine bq (dW l6) fun size r7 rq2 l7=>?_;subst rq2
 obtain rfl:=El l7
 obtain rfl:md=1:=h0
 have hr:0≤rm∧rm < 8∧rm≠4:=hr
 have hb:b=0∨b=1:=hb
 refine⟨_,e,?_⟩
 show au (qL 1 90 R) DF [.int true 1,.int true rm,.int false sib,.int false disp,.int false x,.int false b,.int false size,.str false seg] ⟨.nil,0⟩ _
 rw[Lm R _ sib disp x b size seg (by lia)]
 exact⟨by lia,.inr (.inr (.inr rfl)),_,ba.same .refl,hk⟩
noncomputable def C4(xs:List Int)(p:Int)(R83:Prop)(Z:Int→Prop):Prop:=bN xs.length=true∧(decide (Int.ofNat xs.length < p+1)=true→R83)∧
 (decide (Int.ofNat xs.length < p+1)=false→decide (0≤p)=true∧decide (0≤p+1)=true∧bN xs.length=true∧∃y,cut xs (some p.toNat) (some (p+1).toNat)=[y]∧0≤y∧y < 256∧Z y)
noncomputable def IF(m:Int)(sib:V)(y p:Int):V:=.tup [.int true 1,.int false ((m.fdiv 8).fmod 8),.int false (m.fmod 8),sib,.int false (pE y),.int true 1,.int false (p+1)]
theorem Ee(R:Addr→Prop)(KU:V→Prop)(xs:List Int)(a:Int):au (qL 1 90 R) HO [.bytes false xs,.int false a] ⟨.nil,0⟩ (bg KU)=(bN xs.length=true∧0≤a∧a.toNat < xs.length∧((64≤aW xs a.toNat∧aW xs a.toNat < 128)∨(192≤aW xs a.toNat∧aW xs a.toNat < 256))∧
  (aW xs a.toNat < 128→(((aW xs a.toNat).fmod 8==4)=true→bN xs.length=true∧0≤a+1∧(a+1).toNat < xs.length∧C4 xs (a+1+1) (R 83) fun y=>KU (IF (aW xs a.toNat) (.int false (aW xs (a+1).toNat)) y (a+1+1)))∧
   (((aW xs a.toNat).fmod 8==4)=false→C4 xs (a+1) (R 83) fun y=>KU (IF (aW xs a.toNat) (.int true (-1)) y (a+1))))∧
  (192≤aW xs a.toNat→bN xs.length=true∧(decide (Int.ofNat xs.length < a+1+0)=true→R 83)∧(decide (Int.ofNat xs.length < a+1+0)=false→KU (.tup [.int true 3,.int false (((aW xs a.toNat).fdiv 8).fmod 8),.int false ((aW xs a.toNat).fmod 8),.int true (-1),.int true 0,.int true 0,.int false (a+1+0)])))):=by kernel_rfl
theorem Gl(xs:List Int):∀(n:Nat),n < xs.length→l8 (ma xs n) 1=[aW xs n]:=by
  induction xs with
  |nil=>exact fun _ h=>nomatch h
  | cons x r ih=>
    intro n h
    cases n with
    |zero=>cases r <;> rfl
    |succ n=>exact ih n (Nat.lt_of_succ_lt_succ h)
theorem yD(xs:List Int)(n:Nat)(h:n < xs.length):cut xs (some n) (some (n+1))=[aW xs n]:=by
 show l8 (ma xs n) (n+1 - n)=_
 rw[Nat.add_sub_cancel_left]
 exact Gl xs n h
noncomputable def Dc.Mrm(D:Dc):Prop:=(D.md=true→64≤D.m∧D.m < 128∧D.m.fmod 8≠4∧0≤D.y∧D.y < 256)∧(D.md=false→192≤D.m∧D.m < 256)
set_option tactic.hygienic true in
theorem Jt(T:Nat→V)(w:World){D:Dc}(hD:D.Mrm):∀R as KV,oG D as KV R→∃bs,dm T w as bs∧au (qL 1 90 R) HO bs ⟨.nil,0⟩ (bg (bo T w KV)):=by
 intro R as KV h
 replace h:=NG h
 obtain⟨k,xs,k2,a,rfl,h⟩:=h
 refine⟨[.bytes false xs,.int false a],(bc.cons .bytes (.cons .int .nil)).same,?_⟩
 rw[Ee]
 split at h
 ·rename_i hm
  refine w5 (hD.1 hm) fun h64 h128 h4 hy hy2=>?_
  obtain⟨⟨h0,hf,hl,e1,e2⟩,hk⟩:=h
  have st:=gQ h0
  have hlen:Int.ofNat xs.length=(xs.length:Int):=rfl
  rw[e1]
  refine⟨hf,h0,by lia,.inl ⟨h64,h128⟩,fun _=>⟨fun e=>?_,fun _=>⟨hf,fun e=>?_,fun e=>⟨decide_eq_true (by lia),decide_eq_true (by lia),hf,D.y,?_,hy,hy2,_,ba.same .refl,?_⟩⟩⟩,fun e=>by lia⟩
  ·rw[beq_iff_eq]at e;exact absurd e h4
  ·have e:=of_decide_eq_true e
   rw[hlen]at e;lia
  ·rw[st,gQ (by lia),st,yD xs _ hl,e2]
  ·show KV (IF _ _ _ (a+1))
   unfold IF
   rw[show a+1+1=a+2 by lia]
   exact hk
 ·rename_i hm
  refine bC (hD.2 hm) fun h192 h256=>?_
  obtain⟨⟨h0,hf,hl,e1⟩,hk⟩:=h
  have hlen:Int.ofNat xs.length=(xs.length:Int):=rfl
  rw[e1]
  refine⟨hf,h0,hl,.inr ⟨h192,h256⟩,fun e=>by lia,fun _=>⟨hf,fun e=>?_,fun e=>⟨_,ba.same .refl,?_⟩⟩⟩
  ·have e:=of_decide_eq_true e
   rw[hlen]at e;lia
  ·rw[Int.add_zero];exact hk
noncomputable abbrev NC(R:Addr→Prop):Ev:=ev {OF with R:=R} 140
noncomputable def kL(p:Pf):PyData:=.tuple [.str p.seg,.bool p.data,.int p.rep,.bool p.lock,.int p.rex]
theorem yG(p:Pf):gy 8 (kL p) (kL p)=true:=by
 rw[jY];simp[kL,PyData.eqv,PyData.eqvAll]
noncomputable def Fu(xs ah:List Int)(Z:Prop):Prop:=aH (bN ah.length) (bN xs.length)=true∧bH cZ (bJ ah xs)=true∧bN (bJ ah xs).length=true∧bN ah.length=true∧(0≤Int.ofNat ah.length∧bN (bJ ah xs).length=true∧(bJ ah xs).length≤90)∧Z
theorem O5(R:Addr→Prop)(KU:V→Prop)(xs ah:List Int):au (NC R) yC [.irow false xs,.irow false ah] ⟨.nil,0⟩ (bg KU)=(xs.length≤6∧
  (∀p e,gx xs kZ 0=some (p,e)→Fu xs ah ((∀p' e',rp (bJ ah xs) (Int.ofNat ah.length).toNat=some (p',e')→bN ah.length=true∧KU (.bool false (gy 8 (.tuple [kL p',.int (Int.ofNat e')]) (.tuple [kL p,.int (Int.ofNat ah.length+Int.ofNat e)]))))∧
   (rp (bJ ah xs) (Int.ofNat ah.length).toNat=none→KU (.bool true false))))∧
  (gx xs kZ 0=none→Fu xs ah ((∀p' e',rp (bJ ah xs) (Int.ofNat ah.length).toNat=some (p',e')→KU (.bool true false))∧(rp (bJ ah xs) (Int.ofNat ah.length).toNat=none→KU (.bool true true))))):=by kernel_rfl
theorem A9(xs:List Int):∀(p:Pf) (n k:Nat),gx xs p (n+k)=(gx xs p n).map fun q=>(q.1,q.2+k):=by
  induction xs with
  |nil=>intro _ _ _;rfl
  | cons x r ih=>
    intro p n k
    rw[dF,dF,show n+k+1=(n+1)+k by lia]
    split
    · split
      · rfl
      · exact ih _ _ k
    · cases bj x <;> first|rfl|(cases d6 p x with|none=>rfl|some q=>exact ih q (n+1) k)
theorem MS(ah xs:List Int):rp (bJ ah xs) (Int.ofNat ah.length).toNat=(gx xs kZ 0).map fun q=>(q.1,q.2+ah.length):=by
 unfold rp
 rw[show(Int.ofNat ah.length).toNat=ah.length from rfl,aQ,List.drop_left]
 have:=A9 xs kZ 0 ah.length
 rwa [Nat.zero_add]at this
theorem gB:∀{ah xs:List Int},d3 ah→d3 xs→bH cZ (bJ ah xs)=true
  |[],[],_,_=>rfl
  | [],x::r,_,h=>by
    have e:cZ x=true:=by
      unfold cZ
      rw[decide_eq_true h.1.1]
      exact decide_eq_true h.1.2
    show(match cZ x with|true=>bH cZ r|false=>false)=true
    rw[e]
    exact gB (ah:=[]) (xs:=r) trivial h.2
  | x :: r,xs,h,h'=>by
    have e:cZ x=true:=by
      unfold cZ
      rw[decide_eq_true h.1.1]
      exact decide_eq_true h.1.2
    show(match cZ x with|true=>bH cZ (bJ r xs)|false=>false)=true
    rw[e]
    exact gB (ah:=r) (xs:=xs) h.2 h'
set_option tactic.hygienic true in
theorem UG(T:Nat→V)(w:World):∀R as KV,fy as KV R→∃bs,dm T w as bs∧au (NC R) yC bs ⟨.nil,0⟩ (bg (bo T w KV)):=by
 intro R as KV h
 replace h:=VX h
 obtain⟨_,_,rfl,h⟩:=h
 split at h
 case h_2=>exact h.elim
 split at h
 case h_2=>exact h.elim
 rename_i v u _ xs hx _ ah ha
 refine w5 h fun h1 h2 o1 o2 hk=>?_
 refine⟨[.irow false xs,.irow false ah],(bc.cons (gP hx) (.cons (gP ha) .nil)).same,?_⟩
 rw[O5,MS]
 have pre:∀{Z:Prop},Z→Fu xs ah Z:=fun z=>by
  have hl:(bJ ah xs).length=ah.length+xs.length:=by rw[aQ,List.length_append]
  refine⟨?_,gB o2 o1,dP (by lia),dP (by lia),⟨?_,dP (by lia),by lia⟩,z⟩
  ·rw[dP (by lia:ah.length≤1000),dP (by lia:xs.length≤1000)];rfl
  ·show(0:Int)≤(ah.length:Int);lia
 have out:∀b:Bool,b=true→bo T w KV (.bool false b):=fun b e=>⟨.bool true true,ba.same (by rw[e];exact .bool),hk⟩
 refine⟨h1,fun p e he=>pre ?_,fun he=>pre ?_⟩
 ·rw[he]
  refine⟨fun p' e' q=>?_,fun q=>by cases q⟩
  cases q
  refine⟨dP (by lia),out _ ?_⟩
  have:Int.ofNat (e+ah.length)=Int.ofNat ah.length+Int.ofNat e:=by
   show((e+ah.length:Nat):Int)=(ah.length:Int)+(e:Int)
   lia
  rw[jY,this]
  have:=yG p
  rw[jY]at this
  simp[PyData.eqv,PyData.eqvAll,this]
 ·rw[he]
  exact⟨fun p' e' q=>(by cases q),fun _=>⟨_,ba.same .bool,hk⟩⟩
noncomputable def mb(x:Int)(K:Bool→Prop):Prop:=(x=0∨x=1)∧(x=0→K false)∧(x=1→K true)
noncomputable def tR(b:Bool)(x:Int):List Int:=match b with
 |true=>[x]
 |false=>[]
noncomputable def ui(KU:V→Prop)(R83:Prop)(P:Pf)(row:List Int)(b0 b1 b2 b3:Int):Prop:=
 (mC (gy 8 (.tuple [.int (bB P.rex 8),.int (bB P.rex 4),.int (bB P.rex 2),.int (bB P.rex 1)]) (.tuple [.int b0,.int b1,.int b2,.int b3]))=true→KU (.bool true false))∧
 (mC (gy 8 (.tuple [.int (bB P.rex 8),.int (bB P.rex 4),.int (bB P.rex 2),.int (bB P.rex 1)]) (.tuple [.int b0,.int b1,.int b2,.int b3]))=false→
  P.Ok∧((0:Int)≤0∧bN (f6 P).length=true∧(f6 P).length≤90)∧
  (∀p e,rp (f6 P) 0=some (p,e)→P.Ok∧bN (f6 P).length=true∧
   (gy 8 (.list (eR (f6 P))) (.list (eR row))=true→(gy 8 (kL p) (kL P)=true→KU (.bool false (Int.ofNat e==Int.ofNat row.length)))∧(gy 8 (kL p) (kL P)=false→KU (.bool true false)))∧
   (gy 8 (.list (eR (f6 P))) (.list (eR row))=false→KU (.bool true false)))∧
  (rp (f6 P) 0=none→R83))
noncomputable def oR(y:Int):Int:=64+8*(y.fdiv 48).fmod 2+4*(y.fdiv 96).fmod 2+2*(y.fdiv 192).fmod 2+(y.fdiv 384).fmod 2
noncomputable def Im(KU:V→Prop)(R83:Prop)(y:Int)(hasR:Bool)(w:Str)(d:Bool)(r:Int)(l:Bool)(row:List Int):Prop:=match hasR with
 |true=>bz false (decide (0≤oR y)) (ui KU R83 ⟨w,d,r,l,oR y⟩ (bJ row [oR y]) ((y.fdiv 48).fmod 2) ((y.fdiv 96).fmod 2) ((y.fdiv 192).fmod 2) ((y.fdiv 384).fmod 2)) (ui KU R83 ⟨w,d,r,l,oR y⟩ row 0 0 0 0)
 |false=>ui KU R83 ⟨w,d,r,l,-1⟩ row 0 0 0 0
noncomputable def Nz(y:Int):Bool:=(y.fdiv 3).fmod 2==1
noncomputable def HG(KU:V→Prop)(R83:Prop)(y:Int)(hasR:Bool)(w:Str)(r:Int)(lk:Bool)(sg:List Int):Prop:=mb (bI (Nz y)) fun bd=>mb (bI (decide (0 < r))) fun br=>match lk with
 |true=>mb (bI (r==0)) fun bl=>Im KU R83 y hasR w (Nz y) r (r==0) (bJ sg (bJ (tR bd 102) (bJ (tR br r) (tR bl 240))))
 |false=>Im KU R83 y hasR w (Nz y) r false (bJ sg (bJ (tR bd 102) (tR br r)))
noncomputable def M9(KU:V→Prop)(R83:Prop)(y:Int)(hasR:Bool)(w:Str)(r:Int)(lk:Bool):Prop:=bz false (mC (aS w (s0 "")))
 (∃J:Int→Prop,bz false (aS w (s0 "fs")) (J 100) (bz false (aS w (s0 "gs")) (J 101) False)∧∀s,J s→HG KU R83 y hasR w r lk [s]) (HG KU R83 y hasR w r lk [])
noncomputable def Kg(KU:V→Prop)(R83:Prop)(y:Int)(hasR:Bool)(w:Str)(r:Int):Prop:=bz false ((y.fdiv 24).fmod 2==1) (M9 KU R83 y hasR w r true) (M9 KU R83 y hasR w r false)
noncomputable def zP(b:Int):Prop:=0≤b∧b≤1
noncomputable def Me:List V:=[.str true (s0 ""),.str true (s0 "fs"),.str true (s0 "gs")]
noncomputable def OG:List V:=[.int true 0,.int true 0,.int true 242,.int true 243]
theorem Jr(R:Addr→Prop)(KU:V→Prop)(xs:List Int):au (NC R) zh [.irow false xs] ⟨.nil,0⟩ (bg KU)=(xs.length≤63∧((0:Int)≤9∧(9:Int) < 18)∧∀y,0≤y→
  ∃J:Str→Prop,(0≤y.fmod 3∧y.fmod 3 < 3∧hU Me (y.fmod 3) 0 (oY J))∧∀w,J w→
  ∃J:Int→Prop,(0≤(y.fdiv 6).fmod 4∧(y.fdiv 6).fmod 4 < 4∧hU OG ((y.fdiv 6).fmod 4) 0 (lu J))∧∀r,J r→
  bz false ((y.fdiv 768).fmod 2==0) (zP ((y.fdiv 48).fmod 2)∧zP ((y.fdiv 96).fmod 2)∧zP ((y.fdiv 192).fmod 2)∧zP ((y.fdiv 384).fmod 2)∧Kg KU (R 83) y true w r) (Kg KU (R 83) y false w r)):=by kernel_rfl
noncomputable def jX(seg:Str)(data:Bool)(rep:Int)(lock:Bool):List Int:=kQ seg++(if data then[102]else[])++(if rep==0 then[]else[rep])++(if lock then[240]else[])
theorem G4{seg:Str}{data lock:Bool}{rep:Int}(h1:seg=s0 ""∨seg=s0 "fs"∨seg=s0 "gs")(h2:rep=0∨rep=242∨rep=243)(h3:lock=true→rep=0)(rest:List Int)(n:Nat) :
    gx (jX seg data rep lock++rest) kZ n=gx rest ⟨seg,data,rep,lock,-1⟩ (n+(jX seg data rep lock).length):=by
  cases lock with
  | false=>
    have k1:=BA h1;have k2:=vb data;have k3:=BA h2;clear h1 h2 h3;revert seg data rep k1 k2 k3
    exact@(lJ (by kernel_rfl))
  | true=>
    have h3:=h3 rfl;subst h3
    have k1:=BA h1;have k3:=vb data;clear h1 h2;revert seg data k1 k3
    exact@(la (by kernel_rfl))
theorem oy{x:Int}(h1:64≤x)(h2:x < 80):bW x=true:=by
 unfold bW
 rw[beq_iff_eq,Int.fdiv_eq_ediv_of_nonneg _ (by decide)]
 lia
theorem w8{P:Pf}(ok:P.Ok):rp (f6 P) 0=some (P,(f6 P).length):=by
 obtain⟨seg,data,rep,lock,rex⟩:=P
 have h:=G4 (data:=data) ok.seg ok.rep ok.lock (if 0≤rex then[rex]else[]) 0
 have e:f6 ⟨seg,data,rep,lock,rex⟩=jX seg data rep lock++(if 0≤rex then[rex]else[]):=rfl
 rw[e]
 unfold rp
 rw[List.drop_zero,h]
 have hr:=ok.rex
 dsimp only at hr
 rcases hr with rfl|⟨r1,r2⟩
 ·rw[if_neg (by decide),Nat.zero_add,List.append_nil];rfl
 ·rw[if_pos (by lia),dF,oy r1 r2,if_pos rfl,if_neg (show ¬(0≤(-1:Int)) by decide),List.length_append,Nat.zero_add];rfl
theorem pY{w:Str}(h:w=s0 ""∨w=s0 "fs"∨w=s0 "gs"):(w=s0 ""∧kQ w=[])∨(w=s0 "fs"∧kQ w=[100])∨(w=s0 "gs"∧kQ w=[101]):=by
 rcases h with rfl|rfl|rfl
 ·exact .inl ⟨rfl,rfl⟩
 ·exact .inr (.inl ⟨rfl,rfl⟩)
 ·exact .inr (.inr ⟨rfl,rfl⟩)
theorem Dq:∀(l:List Int),gy 8 (.list (eR l)) (.list (eR l))=true:=fun l=>by
 rw[jY]
 have:∀l:List Int,PyData.eqvAll (eR l) (eR l)=true:=fun l=>by
  induction l with
  |nil=>rfl
  |cons x r ih=>show PyData.eqvAll (.int x::eR r) (.int x::eR r)=true;simp[PyData.eqvAll,PyData.eqv,ih]
 simp[PyData.eqv,this]
theorem sP{T:Nat→V}{w:World}{KV:V→Prop}{R83:Prop}{P:Pf}{row:List Int}{b0 b1 b2 b3:Int}(hk:KV (.bool true true))(ok:P.Ok)(hrow:f6 P=row)(h0:bB P.rex 8=b0)(h1:bB P.rex 4=b1)(h2:bB P.rex 2=b2)(h3:bB P.rex 1=b3) :
  ui (bo T w KV) R83 P row b0 b1 b2 b3:=by
 have hl:(f6 P).length≤6:=by
  have q:∀(c:Prop) [Decidable c] (x:Int),(if c then[x]else[]).length≤1:=fun c _ x=>by split <;> simp
  have q':∀(c:Prop) [Decidable c] (x:Int),(if c then[]else[x]).length≤1:=fun c _ x=>by split <;> simp
  have q2:(kQ P.seg).length≤1:=by
   unfold kQ
   split
   ·decide
   ·split <;> decide
  unfold f6
  simp only [List.length_append]
  have a:=q (P.data=true) 102
  have b:=q' ((P.rep==0)=true) P.rep
  have c:=q (P.lock=true) 240
  have d:=q (0≤P.rex) P.rex
  lia
 subst h0 h1 h2 h3 hrow
 have eb:gy 8 (.tuple [.int (bB P.rex 8),.int (bB P.rex 4),.int (bB P.rex 2),.int (bB P.rex 1)]) (.tuple [.int (bB P.rex 8),.int (bB P.rex 4),.int (bB P.rex 2),.int (bB P.rex 1)])=true:=by
  rw[jY];simp[PyData.eqv,PyData.eqvAll]
 unfold ui
 rw[eb]
 refine⟨fun e=>(by cases e),fun _=>⟨ok,⟨by decide,dP (by lia),by lia⟩,fun p e he=>⟨ok,dP (by lia),fun _=>⟨fun _=>?_,fun q=>?_⟩,fun q=>?_⟩,fun q=>?_⟩⟩
 ·rw[w8 ok]at he
  cases he
  refine⟨_,ba.same (u:=.bool true true) ?_,hk⟩
  rw[beq_self_eq_true];exact .bool
 ·rw[w8 ok]at he
  cases he
  rw[yG]at q;cases q
 ·rw[Dq]at q;cases q
 ·rw[w8 ok]at q;cases q
theorem F4(b:Bool):bI b=0∨bI b=1:=by cases b <;> simp[bI]
theorem EI{b:Bool}{K:Bool→Prop}(h:K b):mb (bI b) K:=by
 refine⟨F4 b,fun e=>?_,fun e=>?_⟩
 ·cases b
  ·exact h
  ·cases e
 ·cases b
  ·cases e
  ·exact h
theorem ua{b0 b1 b2 b3:Int}(h0:b0=0∨b0=1)(h1:b1=0∨b1=1)(h2:b2=0∨b2=1)(h3:b3=0∨b3=1):bB (64+8*b0+4*b1+2*b2+b3) 8=b0∧bB (64+8*b0+4*b1+2*b2+b3) 4=b1∧bB (64+8*b0+4*b1+2*b2+b3) 2=b2∧bB (64+8*b0+4*b1+2*b2+b3) 1=b3:=by
 refine of_decide_eq_true ?_
 have k1:=pJ h0;have k2:=pJ h1;have k3:=pJ h2;have k4:=pJ h3;clear h0 h1 h2 h3;revert b0 b1 b2 b3 k1 k2 k3 k4
 exact@(lq (by kernel_rfl))
theorem q7(y:Int):y.fmod 2=0∨y.fmod 2=1:=by
 have h1:=aZ y (n:=2) (by decide)
 have h2:=bk y (n:=2) (by decide)
 lia
theorem ym{T:Nat→V}{w:World}{KV:V→Prop}{R83:Prop}{y:Int}{hasR:Bool}{wd:Str}{d:Bool}{r:Int}{l:Bool}{row:List Int}(hk:KV (.bool true true))(hw:wd=s0 ""∨wd=s0 "fs"∨wd=s0 "gs")(hr:r=0∨r=242∨r=243)
  (hl:l=true→r=0) (hrow:row=jX wd d r l):Im (bo T w KV) R83 y hasR wd d r l row:=by
 have a0:=q7 (y.fdiv 48)
 have a1:=q7 (y.fdiv 96)
 have a2:=q7 (y.fdiv 192)
 have a3:=q7 (y.fdiv 384)
 unfold Im
 split
 ·refine AH (ua a0 a1 a2 a3) fun e0 e1 e2 e3=>?_
  refine⟨fun _=>sP hk ⟨hw,hr,hl,.inr ?_⟩ ?_ e0 e1 e2 e3,fun e=>?_⟩
  ·show 64≤oR y∧oR y < 80
   unfold oR;lia
  ·show jX wd d r l++(if 0≤oR y then[oR y]else[])=_
   rw[if_pos (by unfold oR;lia),aQ,hrow]
  ·have e:=of_decide_eq_false e
   unfold oR at e;lia
 ·refine sP hk ⟨hw,hr,hl,.inl rfl⟩ ?_ rfl rfl rfl rfl
  show jX wd d r l++[]=_
  rw[List.append_nil,hrow]
theorem qW{T:Nat→V}{w:World}{KV:V→Prop}{R83:Prop}{y:Int}{hasR:Bool}{wd:Str}{r:Int}{lk:Bool}{sg:List Int}(hk:KV (.bool true true))(hw:wd=s0 ""∨wd=s0 "fs"∨wd=s0 "gs")(hr:r=0∨r=242∨r=243)
  (hs:sg=kQ wd):HG (bo T w KV) R83 y hasR wd r lk sg:=by
 have er:tR (decide (0 < r)) r=if r==0 then[]else[r]:=by rcases hr with rfl|rfl|rfl <;> rfl
 have ed:tR (Nz y) 102=if Nz y then[102]else[]:=by cases Nz y <;> rfl
 unfold HG
 refine EI (EI ?_)
 split
 ·refine EI (ym hk hw hr (fun e=>by simpa using e) ?_)
  have:tR (r==0) 240=if r==0 then[240]else[]:=by cases r==0 <;> rfl
  simp only [aQ,hs,er,ed,this,jX,List.append_assoc]
 ·refine ym hk hw hr (fun e=>by cases e) ?_
  simp only [aQ,hs,er,ed,jX,List.append_assoc,Bool.false_eq_true,if_false,List.append_nil]
theorem mG{T:Nat→V}{w:World}{KV:V→Prop}{R83:Prop}{y:Int}{hasR:Bool}{wd:Str}{r:Int}{lk:Bool}(hk:KV (.bool true true))(hw:wd=s0 ""∨wd=s0 "fs"∨wd=s0 "gs")(hr:r=0∨r=242∨r=243):M9 (bo T w KV) R83 y hasR wd r lk:=by
 rcases pY hw with⟨rfl,h⟩|⟨rfl,h⟩|⟨rfl,h⟩
 ·exact⟨fun e=>(by cases e),fun _=>qW hk hw hr h.symm⟩
 ·exact⟨fun _=>⟨fun s=>s=100,⟨fun _=>rfl,fun e=>(by cases e)⟩,fun s e=>qW hk hw hr (by rw[h,e])⟩,fun e=>(by cases e)⟩
 ·exact⟨fun _=>⟨fun s=>s=101,⟨fun e=>(by cases e),fun _=>⟨fun _=>rfl,fun e=>(by cases e)⟩⟩,fun s e=>qW hk hw hr (by rw[h,e])⟩,fun e=>(by cases e)⟩
theorem MC(T:Nat→V)(w:World):∀R as KV,fu as KV R→∃bs,dm T w as bs∧au (NC R) zh bs ⟨.nil,0⟩ (bg (bo T w KV)):=by
 intro R as KV h
 replace h:=dR h
 obtain⟨k,xs,rfl,h⟩:=h
 refine bC h fun hl hk=>?_
 refine⟨[.irow false xs],(bc.cons .irow .nil).same,?_⟩
 rw[Jr]
 refine⟨hl,by decide,fun y hy=>⟨fun w=>w=s0 ""∨w=s0 "fs"∨w=s0 "gs",⟨aZ _ (by decide),bk _ (by decide),fun _=>.inl rfl,fun _=>.inr (.inl rfl),fun _=>.inr (.inr rfl),trivial⟩,fun wd hw=>
  ⟨fun r=>r=0∨r=242∨r=243,⟨aZ _ (by decide),bk _ (by decide),fun _=>.inl rfl,fun _=>.inl rfl,fun _=>.inr (.inl rfl),fun _=>.inr (.inr rfl),trivial⟩,fun r hr=>?_⟩⟩⟩
 have b:∀z:Int,zP (z.fmod 2):=fun z=>by have:=q7 z;unfold zP;lia
 exact⟨fun _=>⟨b _,b _,b _,b _,fun _=>mG hk hw hr,fun _=>mG hk hw hr⟩,fun _=>⟨fun _=>mG hk hw hr,fun _=>mG hk hw hr⟩⟩
noncomputable abbrev VQ(R:Addr→Prop):Ev:=ev {Og with R:=R} 190
noncomputable def Kb:List V:=[.int true 100,.int true 101,.int true 102,.int true 240,.int true 242,.int true 243,.int true 64,.int true 72,.int true 79,.int true 38,.int true 46,.int true 103,.int true 144,.int true 0,.int true 128,.int true 80,.int true 63]
noncomputable def h8(xs:List Int)(k:Int)(K:Int→Prop):Prop:=xs.length≤63∧(0≤k∧k < 18)∧∀y,0≤y→K y
noncomputable def Li(KU:V→Prop)(xs ys:List Int):Prop:=h8 xs 1 fun y=>decide (0≤y.fmod 4)=true∧ys.length≤6∧(cut [(102:Int),240,72] none (some (y.fmod 4).toNat)).length≤3∧d3 ys∧d3 (cut [102,240,72] none (some (y.fmod 4).toNat))∧KU (.bool true true)
noncomputable def HT(KU:V→Prop)(xs:List Int):Nat→Nat→List Int→Prop
 |0,_,ys=>Li KU xs ys
 |k+1,i,ys=>h8 xs (2+Int.ofNat i) fun y=>bz false (decide ((y.fdiv 17).fmod 4 < 3)) (∃J:Int→Prop,(0≤y.fmod 17∧y.fmod 17 < 17∧hU Kb (y.fmod 17) 0 (lu J))∧∀x,J x→HT KU xs k (i+1) (bJ ys [x])) (HT KU xs k (i+1) (bJ ys [(y.fdiv 68).fmod 256]))
theorem Nd(R:Addr→Prop)(KU:V→Prop)(xs:List Int):au (VQ R) yN [.irow false xs] ⟨.nil,0⟩ (bg KU)=h8 xs 0 fun y=>0≤y.fmod 7∧y.fmod 7 < 8∧Dp 8 (y.fmod 7) fun k=>HT KU xs k 0 []:=by kernel_rfl
theorem Cr{J:Int→Prop}(h:∀x,0≤x→x < 256→J x)(y:Int):hU Kb y 0 (lu J):=
 ⟨fun _=>h _ (by decide) (by decide),fun _=>h _ (by decide) (by decide),fun _=>h _ (by decide) (by decide),fun _=>h _ (by decide) (by decide),fun _=>h _ (by decide) (by decide),fun _=>h _ (by decide) (by decide),fun _=>h _ (by decide) (by decide),fun _=>h _ (by decide) (by decide),fun _=>h _ (by decide) (by decide),fun _=>h _ (by decide) (by decide),fun _=>h _ (by decide) (by decide),fun _=>h _ (by decide) (by decide),fun _=>h _ (by decide) (by decide),fun _=>h _ (by decide) (by decide),fun _=>h _ (by decide) (by decide),fun _=>h _ (by decide) (by decide),fun _=>h _ (by decide) (by decide),trivial⟩
theorem pU{ys:List Int}{x:Int}(h:d3 ys)(h1:0≤x)(h2:x < 256):d3 (bJ ys [x]):=by
 induction ys with
 |nil=>exact⟨⟨h1,h2⟩,trivial⟩
 |cons y r ih=>exact⟨h.1,ih h.2⟩
theorem mJ{ys:List Int}(h:bH cZ ys=true):d3 ys:=by
 induction ys with
 |nil=>trivial
 |cons y r ih=>exact az (bF h).1 fun a b=>⟨⟨of_decide_eq_true a,of_decide_eq_true b⟩,ih (bF h).2⟩
theorem U7 {P:Nat→Prop} (h0:P 0) (h1:P 1) (h2:P 2) (h3:P 3) {n:Nat} (h:n < 4):P n:=by
  cases n with
  |zero=>exact h0
  | succ n=>cases n with
    |zero=>exact h1
    | succ n=>cases n with
      |zero=>exact h2
      | succ n=>cases n with
        |zero=>exact h3
        |succ n=>exact absurd h (Nat.not_lt.mpr (Nat.le_add_left 4 n))
theorem A6{y:Int}(h:y < 4):y.toNat < 4:=by lia
theorem SD{n:Nat}(h:n < 4):(cut [(102:Int),240,72] none (some n)).length≤3∧d3 (cut [102,240,72] none (some n)):=
 U7 (P:=fun n=>(cut [(102:Int),240,72] none (some n)).length≤3∧d3 (cut [102,240,72] none (some n))) ⟨by decide,mJ rfl⟩ ⟨by decide,mJ rfl⟩ ⟨by decide,mJ rfl⟩ ⟨by decide,mJ rfl⟩ h
theorem i6{i k:Nat}(h:i+(k+1)≤6):(0:Int)≤2+Int.ofNat i∧2+Int.ofNat i < 18:=by
 show(0:Int)≤2+(i:Int)∧2+(i:Int) < 18
 lia
theorem HK{KU:V→Prop}{xs:List Int}(hl:xs.length≤63)(hk:KU (.bool true true))(k:Nat):∀(i:Nat) (ys:List Int),d3 ys→ys.length=i→i+k≤6→HT KU xs k i ys:=by
  induction k with
  | zero=>
    refine fun i ys ho e h=>⟨hl,by decide,fun y _=>?_⟩
    have c:=SD (A6 (bk y (n:=4) (by decide)))
    exact⟨decide_eq_true (aZ y (n:=4) (by decide)),by rw[e];exact h,c.1,ho,c.2,hk⟩
  | succ k ih=>
    intro i ys ho e h
    have hl':∀x:Int,(bJ ys [x]).length=i+1:=fun x=>by rw[aQ,List.length_append,e];rfl
    have h':i+1+k≤6:=by rw[Nat.add_right_comm];exact h
    refine⟨hl,i6 h,fun y hy=>⟨fun _=>⟨fun x=>0≤x∧x < 256,⟨aZ _ (by decide),bk _ (by decide),Cr (fun x a b=>⟨a,b⟩) _⟩,fun x hx=>ih (i+1) _ (pU ho hx.1 hx.2) (hl' x) h'⟩,fun _=>ih (i+1) _ (pU ho (aZ _ (by decide)) (bk _ (by decide))) (hl' _) h'⟩⟩
theorem EZ{x:Int}{K:Nat→Prop}(hx:0≤x)(h:K x.toNat)(n:Nat):Dp n x K:=by
 induction n with
 |zero=>trivial
 |succ n ih=>exact⟨fun e=>by rw[e]at h;exact h,ih⟩
theorem Oz(T:Nat→V)(w:World):∀R as KV,fu as KV R→∃bs,dm T w as bs∧au (VQ R) yN bs ⟨.nil,0⟩ (bg (bo T w KV)):=by
 intro R as KV h
 replace h:=dR h
 obtain⟨k,xs,rfl,h⟩:=h
 refine bC h fun hl hk=>?_
 refine⟨[.irow false xs],(bc.cons .irow .nil).same,?_⟩
 rw[Nd]
 refine⟨hl,by decide,fun y _=>⟨aZ _ (by decide),?_,EZ (aZ _ (by decide)) (HK hl ⟨_,ba.same .refl,hk⟩ _ 0 [] trivial rfl ?_) 8⟩⟩
 ·have:=bk y (n:=7) (by decide);lia
 ·have:=bk y (n:=7) (by decide)
  have:=aZ y (n:=7) (by decide)
  lia
noncomputable def FN:List V:=[.str true (s0 "add"),.str true (s0 "or"),.str true (s0 "adc"),.str true (s0 "sbb"),.str true (s0 "and"),.str true (s0 "sub"),.str true (s0 "xor")]
noncomputable def M6:List V:=[.int true 16,.int true 8,.int true 32,.int true 64]
noncomputable def Mq:List V:=[.str true (s0 "gs"),.str true (s0 ""),.str true (s0 "fs")]
structure Lp where
 y:Int
 sz:Int
 wd:Str
 base:Int
 n:Int
 rex:Int
 disp:Int
noncomputable def Lp.lock(l:Lp):Bool:=decide (0 < (l.y.fdiv 84).fmod 3)
noncomputable def u5(KU:V→Prop)(l:Lp)(lg:List Int)(rx:List V)(hs:Bool)(nm lw:Str):Prop:=(0≤l.n∧l.n < 16)∧(l.sz=8∨l.sz=16∨l.sz=32∨l.sz=64)∧KU (.tup [.irow false lg,.list rx,.list [.int false (8*l.y.fmod 7+bI (decide (8 < l.sz))),.int false (64+8*l.n.fmod 8+l.base.fmod 8),.int false l.disp],
 .tup [.str false nm,.str true lw,.tup [.tup [.str true (s0 "mem"),.str false (fA l.base 64),.str true (s0 ""),.int true 1,.int false (l.disp - 256*bI (decide (127 < l.disp))),.int false l.sz,.str false l.wd,.str true (s0 "")],.tup [.str true (s0 "reg"),.str false (mu l.n l.sz hs)]]]])
noncomputable def Ex(KU:V→Prop)(l:Lp)(lg:List Int)(hs:Option Bool)(nm lw:Str):Prop:=match hs with
 |none=>u5 KU l lg [.int false l.rex] true nm lw
 |some b=>bz false b (u5 KU l lg [.int false l.rex] b nm lw) (u5 KU l lg [] b nm lw)
noncomputable def x9(KU:V→Prop)(l:Lp)(hs:Option Bool)(sg:List Int):Prop:=mO (bI (l.sz==16))=true∧aH (bN sg.length) (bN (gA (bI (l.sz==16)) [102]).length)=true∧mO (bI l.lock)=true∧
 aH (bN (bJ sg (gA (bI (l.sz==16)) [102])).length) (bN (gA (bI l.lock) [240]).length)=true∧(0≤l.base∧l.base < 16)∧((64:Int)=8∨(64:Int)=16∨(64:Int)=32∨(64:Int)=64)∧
 ∃J:Str→Prop,(0≤l.y.fmod 7∧l.y.fmod 7 < 7∧hU FN (l.y.fmod 7) 0 (oY J))∧∀nm,J nm→bz false l.lock (Ex KU l (bJ (bJ sg (gA (bI (l.sz==16)) [102])) (gA (bI l.lock) [240])) hs nm (s0 "lock")) (Ex KU l (bJ (bJ sg (gA (bI (l.sz==16)) [102])) (gA (bI l.lock) [240])) hs nm (s0 ""))
noncomputable def ya(KU:V→Prop)(l:Lp)(hs:Option Bool):Prop:=bz false (mC (aS l.wd (s0 ""))) (∃J:Int→Prop,bz false (aS l.wd (s0 "fs")) (J 100) (bz false (aS l.wd (s0 "gs")) (J 101) False)∧∀s,J s→x9 KU l hs [s]) (x9 KU l hs [])
noncomputable def I8(sz n idle base:Int):Int:=64+8*bI (sz==64)+4*n.fdiv 8+2*idle+base.fdiv 8
noncomputable def xC(KU:V→Prop)(xs:List Int)(y sz:Int)(wd:Str)(n base:Int):Prop:=h8 xs 13 fun y3=>bz false (I8 sz n (y3.fmod 2) base != 64)
 (h8 xs 15 fun y5=>ya KU ⟨y,sz,wd,base,n,I8 sz n (y3.fmod 2) base,y5.fmod 256⟩ none)
 (h8 xs 14 fun y4=>h8 xs 15 fun y5=>ya KU ⟨y,sz,wd,base,n,I8 sz n (y3.fmod 2) base,y5.fmod 256⟩ (some (y4.fmod 2==1)))
theorem Hj(R:Addr→Prop)(KU:V→Prop)(xs:List Int):au (NC R) yV [.irow false xs] ⟨.nil,0⟩ (bg KU)=h8 xs 10 fun y=>∃J:Int→Prop,(0≤(y.fdiv 7).fmod 4∧(y.fdiv 7).fmod 4 < 4∧hU M6 ((y.fdiv 7).fmod 4) 0 (lu J))∧∀sz,J sz→
  ∃J:Str→Prop,(0≤(y.fdiv 28).fmod 3∧(y.fdiv 28).fmod 3 < 3∧hU Mq ((y.fdiv 28).fmod 3) 0 (oY J))∧∀wd,J wd→h8 xs 11 fun y1=>h8 xs 12 fun y2=>bz false ((y1.fmod 16).fmod 8==4) (xC KU xs y sz wd (y2.fmod 16) (y1.fmod 16+1)) (xC KU xs y sz wd (y2.fmod 16) (y1.fmod 16)):=by kernel_rfl
noncomputable def va(d size:Int)(rm r:String)(num:Int):V:=.inst 340 [(s0 "name",.str true (ck d)),(s0 "kinds",.tup [.str true (s0 rm),.str true (s0 r)]),(s0 "opcode",.int true (8*d+(if size==8 then 0 else 1))),(s0 "escape",.int true 0),(s0 "digit",.int true (-1)),(s0 "size",.int true size),
 (s0 "must",.int true 0),(s0 "is_wide",.bool true false),(s0 "number",.int true num),(s0 "places",.tup [.str true (s0 "rm"),.str true (s0 "reg")])]
noncomputable def zq(d:Int):List V:=[va d 8 "rm8" "r8" (19*d)]
noncomputable def xX(d:Int):List V:=[va d 16 "rm16" "r16" (19*d+1),va d 32 "rm32" "r32" (19*d+2),va d 64 "rm64" "r64" (19*d+3)]
theorem LX{d:Int}(h1:0≤d)(h2:d < 7):d=0∨d=1∨d=2∨d=3∨d=4∨d=5∨d=6:=by lia
theorem M3(R:Addr→Prop)(KU:V→Prop){d:Int}(h1:0≤d)(h2:d < 7):au (hX R) hY [dG,.int true 0,.int true 0,.int true (8*d)] ⟨.nil,0⟩ (bg KU)=KU (.list (zq d)):=by
 have k1:=fg (k:=7) h1 h2;clear h1 h2;revert d k1
 exact@(ia (by kernel_rfl))
theorem MX(R:Addr→Prop)(KU:V→Prop){d:Int}(h1:0≤d)(h2:d < 7):au (hX R) hY [dG,.int true 0,.int true 0,.int true (8*d+1)] ⟨.nil,0⟩ (bg KU)=KU (.list (xX d)):=by
 have k1:=fg (k:=7) h1 h2;clear h1 h2;revert d k1
 exact@(ia (by kernel_rfl))
theorem I3(R:Addr→Prop)(KU:V→Prop){d m:Int}(h1:0≤d)(h2:d < 7)(hm:m=102∨m=242∨m=243):au (hX R) hY [dG,.int true m,.int true 0,.int true (8*d)] ⟨.nil,0⟩ (bg KU)=KU (.list []):=by
 have k1:=fg (k:=7) h1 h2;have k2:=BA hm;clear h1 h2 hm;revert d m k1 k2
 exact@(la (by kernel_rfl))
theorem Iu(R:Addr→Prop)(KU:V→Prop){d m:Int}(h1:0≤d)(h2:d < 7)(hm:m=102∨m=242∨m=243):au (hX R) hY [dG,.int true m,.int true 0,.int true (8*d+1)] ⟨.nil,0⟩ (bg KU)=KU (.list []):=by
 have k1:=fg (k:=7) h1 h2;have k2:=BA hm;clear h1 h2 hm;revert d m k1 k2
 exact@(la (by kernel_rfl))
noncomputable def ja(KV:V→Prop)(L:Ln):Prop:=((L.legacy=[]→(L.rexl=[]→KV (dK [] [] L))∧(∀r,L.rexl=[r]→KV (dK [] [r] L)))∧
     (∀x,L.legacy=[x]→(L.rexl=[]→KV (dK [x] [] L))∧(∀r,L.rexl=[r]→KV (dK [x] [r] L))))∧
     (∀x y,L.legacy=[x,y]→(L.rexl=[]→KV (dK [x,y] [] L))∧(∀r,L.rexl=[r]→KV (dK [x,y] [r] L)))∧
     (∀x y z,L.legacy=[x,y,z]→(L.rexl=[]→KV (dK [x,y,z] [] L))∧(∀r,L.rexl=[r]→KV (dK [x,y,z] [r] L)))
theorem yr(L:Ln):L.legacy.length≤3:=by
 have q:∀(c:Prop) [Decidable c] (x:Int),(if c then[x]else[]).length≤1:=fun c _ x=>by split <;> simp
 have q2:(kQ L.word).length≤1:=by
  unfold kQ
  split
  ·decide
  ·split <;> decide
 unfold Ln.legacy
 simp only [List.length_append]
 have a:=q ((L.size==16)=true) 102
 have b:=q (L.lock=true) 240
 lia
theorem T9{P:List Int→Prop}(h0:P [])(h1:∀x,P [x])(h2:∀x y,P [x,y])(h3:∀x y z,P [x,y,z]){xs:List Int}(h:xs.length≤3):P xs:=
 lenS (P:=P) h0 (fun a _ h=>lenS (P:=fun ys=>P (a::ys)) (h1 a) (fun b _ h=>lenS (P:=fun zs=>P (a::b::zs)) (h2 a b) (fun c ws h=>by
  cases ws with
  |nil=>exact h3 a b c
  |cons _ _=>cases h) h) h) h
theorem C1{KV:V→Prop}{L:Ln}(h:ja KV L):KV (dK L.legacy L.rexl L):=by
  obtain⟨⟨h0,h1⟩,h2,h3⟩:=h
  have hl:=yr L
  have pick:∀{lg:List Int},(L.rexl=[]→KV (dK lg [] L))∧(∀r,L.rexl=[r]→KV (dK lg [r] L))→KV (dK lg L.rexl L):=fun{lg} ⟨a,b⟩=>by
    have e:L.rexl=if L.has then[L.rexv]else[]:=rfl
    cases hh:L.has with
    | true=>
      rw[hh,if_pos rfl]at e
      rw[e];exact b _ e
    | false=>
      rw[hh,if_neg (by decide)]at e
      rw[e];exact a e
  exact T9 (P:=fun lg=>L.legacy=lg→KV (dK lg L.rexl L)) (fun e=>pick (h0 e)) (fun x e=>pick (h1 x e)) (fun x y e=>pick (h2 x y e)) (fun x y z e=>pick (h3 x y z e)) hl rfl
theorem nr(b:Bool)(x:Int):gA (bI b) [x]=if b then[x]else[]:=by cases b <;> rfl
theorem oz(b:Bool):mO (bI b)=true:=by cases b <;> rfl
theorem n7{T:Nat→V}{w:World}{KV:V→Prop}{l:Lp}{L:Ln}{lg:List Int}{rx:List V}{hs:Bool}{nm lw:Str}(ok:L.Ok)(h:ja KV L)(e1:l.sz=L.size)(e2:l.wd=L.word)(e3:l.base=L.base)(e4:l.n=L.number)(e5:l.disp=L.disp)
  (e6:hs=L.has) (e7:nm=ck L.d) (e8:lw=lT L.lock) (e9:l.y.fmod 7=L.d) (e10:lg=L.legacy) (e11:ba (.list rx) (.irow false L.rexl)):u5 (bo T w KV) l lg rx hs nm lw:=by
 have h:=C1 h
 unfold u5
 rw[e1,e2,e3,e4,e5,e6,e7,e8,e9,e10]
 refine⟨ok.number,ok.size,_,ba.same ?_,h⟩
 unfold dK Qk Ln.t0 Ln.t1
 have place:bc [.str true (s0 "mem"),.str false (fA L.base 64),.str true (s0 ""),.int true 1,.int false (L.disp - 256*bI (decide (127 < L.disp))),.int false L.size,.str false L.word,.str true (s0 "")] [.str false (s0 "mem"),.str false (fA L.base 64),.str false (s0 ""),.int false 1,.int false (L.disp - 256*bI (decide (127 < L.disp))),.int false L.size,.str false L.word,.str false (s0 "")]:=
  .cons .str (.cons .str (.cons .str (.cons .int (.cons .int (.cons .int (.cons .str (.cons .str .nil)))))))
 exact .tup (.cons .irow (.cons e11 (.cons (iR [L.t0,L.t1,L.disp] false) (.cons (.tup (.cons .str (.cons .str (.cons (.tup (.cons (.tup place) (.cons (.tup (.cons .str (.cons .str .nil))) .nil))) .nil)))) .nil))))
theorem EK(y:Int):hU FN (y.fmod 7) 0 (oY fun nm=>nm=ck (y.fmod 7)):=
 ⟨fun e=>(by show _=ck _;rw[e];rfl),fun e=>(by show _=ck _;rw[e];rfl),fun e=>(by show _=ck _;rw[e];rfl),fun e=>(by show _=ck _;rw[e];rfl),fun e=>(by show _=ck _;rw[e];rfl),fun e=>(by show _=ck _;rw[e];rfl),fun e=>(by show _=ck _;rw[e];rfl),trivial⟩
theorem tY{T:Nat→V}{w:World}{KV:V→Prop}{l:Lp}{L:Ln}{lg:List Int}{hs:Option Bool}{nm lw:Str}(ok:L.Ok)(h:ja KV L)(e1:l.sz=L.size)(e2:l.wd=L.word)(e3:l.base=L.base)(e4:l.n=L.number)(e5:l.disp=L.disp)
  (e6:hs=some L.has∨(hs=none∧L.has=true)) (e7:nm=ck L.d) (e8:lw=lT L.lock) (e9:l.y.fmod 7=L.d) (e10:lg=L.legacy) (e11:l.rex=L.rexv):Ex (bo T w KV) l lg hs nm lw:=by
 have er:L.rexl=if L.has then[L.rexv]else[]:=rfl
 rcases e6 with rfl|⟨rfl,e6⟩
 ·refine⟨fun e=>n7 ok h e1 e2 e3 e4 e5 rfl e7 e8 e9 e10 ?_,fun e=>n7 ok h e1 e2 e3 e4 e5 rfl e7 e8 e9 e10 ?_⟩
  ·rw[er,e,if_pos rfl,e11];exact iR [L.rexv] false
  ·rw[er,e,if_neg (by decide)];exact iR [] false
 ·refine n7 ok h e1 e2 e3 e4 e5 e6.symm e7 e8 e9 e10 ?_
  rw[er,e6,if_pos rfl,e11];exact iR [L.rexv] false
theorem Du{T:Nat→V}{w:World}{KV:V→Prop}{l:Lp}{L:Ln}{hs:Option Bool}{sg:List Int}(ok:L.Ok)(h:ja KV L)(e1:l.sz=L.size)(e2:l.wd=L.word)(e3:l.base=L.base)(e4:l.n=L.number)(e5:l.disp=L.disp)
  (e6:hs=some L.has∨(hs=none∧L.has=true)) (e8:l.lock=L.lock) (e9:l.y.fmod 7=L.d) (e10:sg=kQ L.word) (e11:l.rex=L.rexv):x9 (bo T w KV) l hs sg:=by
 have hl:sg.length≤1:=by
  rw[e10]
  unfold kQ
  split
  ·decide
  ·split <;> decide
 have o:∀(b:Bool) (x:Int),(gA (bI b) [x]).length≤1:=fun b x=>by rw[nr];split <;> simp
 have o1:=o (l.sz==16) 102
 have o2:=o l.lock 240
 have lay:bJ (bJ sg (gA (bI (l.sz==16)) [102])) (gA (bI l.lock) [240])=L.legacy:=by
  rw[nr,nr,aQ,aQ,e10,e8,e1];rfl
 have b:=ok.base
 refine⟨oz _,?_,oz _,?_,⟨by lia,by lia⟩,.inr (.inr (.inr rfl)),fun nm=>nm=ck (l.y.fmod 7),⟨aZ _ (by decide),bk _ (by decide),EK _⟩,fun nm hn=>⟨fun e=>?_,fun e=>?_⟩⟩
 ·rw[dP (by lia),dP (by lia)];rfl
 ·rw[dP (by rw[aQ,List.length_append];lia),dP (by lia)];rfl
 ·exact tY ok h e1 e2 e3 e4 e5 e6 (by rw[hn,e9]) (by rw[←e8,e];rfl) e9 lay e11
 ·exact tY ok h e1 e2 e3 e4 e5 e6 (by rw[hn,e9]) (by rw[←e8,e];rfl) e9 lay e11
theorem uM{T:Nat→V}{w:World}{KV:V→Prop}{l:Lp}{L:Ln}{hs:Option Bool}(ok:L.Ok)(h:ja KV L)(e1:l.sz=L.size)(e2:l.wd=L.word)(e3:l.base=L.base)(e4:l.n=L.number)(e5:l.disp=L.disp)
  (e6:hs=some L.has∨(hs=none∧L.has=true)) (e8:l.lock=L.lock) (e9:l.y.fmod 7=L.d) (e11:l.rex=L.rexv):ya (bo T w KV) l hs:=by
 have go:∀sg,sg=kQ L.word→x9 (bo T w KV) l hs sg:=fun sg e=>Du ok h e1 e2 e3 e4 e5 e6 e8 e9 e e11
 unfold ya
 rw[e2]
 rcases pY ok.word with⟨ew,hs⟩|⟨ew,hs⟩|⟨ew,hs⟩
 ·rw[ew]at hs go ⊢
  exact⟨fun e=>(by cases e),fun _=>go _ hs.symm⟩
 ·rw[ew]at hs go ⊢
  exact⟨fun _=>⟨fun s=>s=100,⟨fun _=>rfl,fun e=>(by cases e)⟩,fun s e=>go _ (by rw[hs,e])⟩,fun e=>(by cases e)⟩
 ·rw[ew]at hs go ⊢
  exact⟨fun _=>⟨fun s=>s=101,⟨fun e=>(by cases e),fun _=>⟨fun _=>rfl,fun e=>(by cases e)⟩⟩,fun s e=>go _ (by rw[hs,e])⟩,fun e=>(by cases e)⟩
theorem qv{T:Nat→V}{w:World}{KV:V→Prop}{xs:List Int}{y sz:Int}{wd:Str}{n base:Int}(hl:xs.length≤63)(h:∀L:Ln,L.Ok→ja KV L)(hs:sz=8∨sz=16∨sz=32∨sz=64)(hw:wd=s0 ""∨wd=s0 "fs"∨wd=s0 "gs")(hn:0≤n∧n < 16)
  (hb:0≤base∧base < 16∧base.fmod 8≠4):xC (bo T w KV) xs y sz wd n base:=by
 refine⟨hl,by decide,fun y3 _=>⟨fun e=>⟨hl,by decide,fun y5 _=>?_⟩,fun e=>⟨hl,by decide,fun y4 _=>⟨hl,by decide,fun y5 _=>?_⟩⟩⟩⟩
 ·have ok:(⟨y.fmod 7,sz,wd,decide (0 < (y.fdiv 84).fmod 3),base,n,y3.fmod 2,true,y5.fmod 256⟩:Ln).Ok:=
   ⟨⟨aZ _ (by decide),bk _ (by decide)⟩,hs,hw,hb,hn,q7 _,fun e=>(by cases e),⟨aZ _ (by decide),bk _ (by decide)⟩⟩
  exact uM ok (h _ ok) rfl rfl rfl rfl rfl (.inr ⟨rfl,rfl⟩) rfl rfl rfl
 ·have ok:(⟨y.fmod 7,sz,wd,decide (0 < (y.fdiv 84).fmod 3),base,n,y3.fmod 2,y4.fmod 2==1,y5.fmod 256⟩:Ln).Ok:=
   ⟨⟨aZ _ (by decide),bk _ (by decide)⟩,hs,hw,hb,hn,q7 _,fun _=>(by show I8 sz n (y3.fmod 2) base=64;simpa using e),⟨aZ _ (by decide),bk _ (by decide)⟩⟩
  exact uM ok (h _ ok) rfl rfl rfl rfl rfl (.inl rfl) rfl rfl rfl
theorem Mp(T:Nat→V)(w:World):∀R as KV,rz as KV R→∃bs,dm T w as bs∧au (NC R) yV bs ⟨.nil,0⟩ (bg (bo T w KV)):=by
 intro R as KV h
 replace h:=dR h
 obtain⟨k,xs,rfl,h⟩:=h
 refine bC h fun hl hk=>?_
 refine⟨[.irow false xs],(bc.cons .irow .nil).same,?_⟩
 rw[Hj]
 refine⟨hl,by decide,fun y _=>⟨fun s=>s=8∨s=16∨s=32∨s=64,⟨aZ _ (by decide),bk _ (by decide),fun _=>.inr (.inl rfl),fun _=>.inl rfl,fun _=>.inr (.inr (.inl rfl)),fun _=>.inr (.inr (.inr rfl)),trivial⟩,fun sz hsz=>
  ⟨fun w=>w=s0 ""∨w=s0 "fs"∨w=s0 "gs",⟨aZ _ (by decide),bk _ (by decide),fun _=>.inr (.inr rfl),fun _=>.inl rfl,fun _=>.inr (.inl rfl),trivial⟩,fun wd hw=>⟨hl,by decide,fun y1 _=>⟨hl,by decide,fun y2 _=>?_⟩⟩⟩⟩⟩
 have a1:=aZ y1 (n:=16) (by decide)
 have a2:=bk y1 (n:=16) (by decide)
 have b1:=aZ y2 (n:=16) (by decide)
 have b2:=bk y2 (n:=16) (by decide)
 have m8:∀z:Int,0≤z→z.fmod 8=z % 8:=fun z hz=>by rw[Int.fmod_eq_emod_of_nonneg _ (by decide)]
 refine⟨fun e=>qv hl hk hsz hw ⟨b1,b2⟩ ?_,fun e=>qv hl hk hsz hw ⟨b1,b2⟩ ?_⟩
 ·rw[beq_iff_eq,m8 _ a1]at e
  rw[m8 _ (by lia)]
  lia
 ·rw[beq_eq_false_iff_ne,m8 _ a1]at e
  rw[m8 _ (by lia)]
  lia
noncomputable def MT(D:Dc)(a:Int):V:=.inst 908 [(s0 "instruction",.inst 733 [(s0 "name",.str false (ck D.d)),(s0 "operands",.tup [QF D,OI D]),(s0 "prefix",.str false (qD D.P.lock))]),(s0 "length",.int false (Int.ofNat D.n+1+2 - a)),(s0 "form",Dt D),(s0 "prefixes",pg D.P)]
structure Dc.Ok(D:Dc)(xs:List Int)(a:Int):Prop where
 rp:rp xs a.toNat=some (D.P,D.n)
 pok:D.P.Ok
 op:aW xs D.n=NJ D
 d:0≤D.d∧D.d < 7
 w:D.w=bB D.P.rex 8
 l1:D.n+1 < xs.length
 m:aW xs (D.n+1)=D.m
 mrm:D.Mrm
 y:D.md=true→D.n+1+1 < xs.length∧aW xs (D.n+1+1)=D.y
noncomputable def Dc.Tells(D:Dc)(a:Int):Prop:=D.md=true∧D.P.rep=0∧A7 D=false∧Int.ofNat D.n+1+2 - a≤15
noncomputable def Dc.Ref(D:Dc):Prop:=(D.md=true∧(D.P.rep≠0∨A7 D=true))∨(D.md=false∧D.P.lock=true)
noncomputable def xo(xs:List Int)(a:Int):Prop:=0≤a∧bN xs.length=true∧xs.length≤90
noncomputable def AE(xs:List Int)(a:Int):Prop:=rp xs a.toNat=none∨∃D:Dc,D.Ok xs a∧D.Ref
noncomputable def fW:bM:=fun as KV R=>xj (v7 JQ Bq eO as) fun _ xs a=>xo xs a∧((AE xs a∧R 83)∨∃D:Dc,(D.Ok xs a∧D.Tells a)∧KV (MT D a))
noncomputable def wj:bM:=fun as _ R=>fv (fT Bq eO as) fun xs a=>(0≤a∧bN xs.length=true∧xs.length≤90∧rp xs a.toNat=none)∧R 83
noncomputable def CN(a:Nat):Option (Nat×bM):=yT a [(233,91,wj)]
noncomputable def LK:df:={ig with C:=CN,NM:=yO}
theorem MP(R:Addr→Prop)(KU:V→Prop)(xs:List Int)(a:Int):au (ev {LK with R:=R} 140) nQ [.named 1,.bytes false xs,.int false a] ⟨.nil,0⟩ (bg KU)=((0≤a∧bN xs.length=true∧xs.length≤90∧rp xs a.toNat=none)∧R 83):=by kernel_rfl
theorem FJ(D:Dc)(a:Int):ba (LA D a) (MT D a):=
 .inst (.cons (.inst (.cons .refl (.cons .refl (.cons .str .nil)))) (.cons .refl (.cons .refl (.cons (.inst (.cons .str (.cons .bool (.cons .int (.cons .bool (.cons .int .nil)))))) .nil))))
theorem Bp{x:Int}{y:Int}(h:x≠y):dy [x] [y]=false:=by
 have:(x==y)=false:=by rw[beq_eq_false_iff_ne];exact h
 show(match x==y with|true=>dy [] []|false=>false)=false
 rw[this]
theorem CU(o k:Int):bB o k=0∨bB o k=1:=by
 unfold bB
 split
 ·exact .inl rfl
 ·exact q7 _
theorem Cv(b:Bool)(w:Int)(d:Bool):ng (RT b w d):=by
 unfold RT ng
 split
 ·exact .inl rfl
 ·split
  ·exact .inr (.inr (.inr rfl))
  ·split
   ·exact .inr (.inl rfl)
   ·exact .inr (.inr (.inl rfl))
theorem vK{D:Dc}(h:0≤D.d∧D.d < 7):0≤NJ D∧NJ D < 56∧NJ D≠15:=by
 unfold NJ
 split <;> lia
theorem i3{D:Dc}{xs:List Int}{a:Int}{R83 Z:Prop}(p:xo xs a)(ok:D.Ok xs a)(z:Z):sE D xs a R83 Z:=by
 have hl:Int.ofNat xs.length=(xs.length:Int):=rfl
 have hn:Int.ofNat D.n=(D.n:Int):=rfl
 have l1:=ok.l1
 have hc:dy (cut xs (some D.n) (some (D.n+1))) [15]=false:=by
  rw[yD xs D.n (by lia),ok.op]
  exact Bp (vK ok.d).2.2
 refine⟨⟨p.1,p.2.1,p.2.2,ok.rp⟩,rfl,rfl,rfl,p.2.1,fun e=>?_,fun _=>⟨p.2.1,fun e=>?_,fun _=>⟨rfl,?_,p.2.1,z⟩⟩⟩
 ·rw[hc]at e;cases e
 ·have:=of_decide_eq_true e
  lia
 ·show Nat.blt _ _=true
  rw[Nat.blt_eq];lia
theorem jV{D:Dc}{n:Int}{Z:Prop}(h:0≤n∧n < 16)(z:Z):mI n D.size Z:=⟨h,Cv _ _ _,z⟩
theorem qg(D:Dc):0≤(D.m.fdiv 8).fmod 8+8*bB D.P.rex 4∧(D.m.fdiv 8).fmod 8+8*bB D.P.rex 4 < 16:=by
 have h1:=aZ (D.m.fdiv 8) (n:=8) (by decide)
 have h2:=bk (D.m.fdiv 8) (n:=8) (by decide)
 have h3:=CU D.P.rex 4
 lia
theorem FU(D:Dc):0≤D.m.fmod 8+8*bB D.P.rex 1∧D.m.fmod 8+8*bB D.P.rex 1 < 16:=by
 have h1:=aZ D.m (n:=8) (by decide)
 have h2:=bk D.m (n:=8) (by decide)
 have h3:=CU D.P.rex 1
 lia
theorem j9{D:Dc}{xs:List Int}{a:Int}{b:Bool}{Z:Prop}(ok:D.Ok xs a)(z:Z):mK b D xs Z:=by
 cases b
 ·exact z
 ·exact⟨ok.op,z⟩
theorem ny{D:Dc}{xs:List Int}{a:Int}{R83 Z:Prop}(p:xo xs a)(ok:D.Ok xs a)(hm:D.md=true)(r:R83∨Int.ofNat D.n+1+2 - a≤15)(z:Z):F0 D xs a R83 Z:=by
 have hn:Int.ofNat D.n=(D.n:Int):=rfl
 have o:=vK ok.d
 refine bC (ok.y hm) fun y1 y2=>?_
 have mr:=ok.mrm.1 hm
 refine⟨ok.op,⟨by lia,p.2.1,y1,ok.m,y2⟩,rfl,rfl,?_,rfl,⟨aZ _ (by decide),bk _ (by decide),mr.2.2.1⟩,CU _ _,jV (qg D) ⟨fun e=>?_,fun _=>z⟩⟩
 ·rw[ok.op];exact⟨o.1,o.2.1⟩
 ·have e:=of_decide_eq_true e
  rcases r with r|r
  ·exact r
  ·lia
theorem F6{D:Dc}{xs:List Int}{a:Int}{R83 Z:Prop}(p:xo xs a)(ok:D.Ok xs a)(r:R83)(z:Z):KH D xs a R83 Z:=by
 have hn:Int.ofNat D.n=(D.n:Int):=rfl
 have o:=vK ok.d
 refine⟨ok.op,⟨by lia,p.2.1,ok.l1,ok.m⟩,rfl,rfl,?_,jV (FU D) (jV (qg D) ⟨fun _=>r,fun _=>z⟩)⟩
 rw[ok.op];exact⟨o.1,o.2.1⟩
theorem tB{D:Dc}{xs:List Int}{a:Int}{Z:Prop}(ok:D.Ok xs a)(z:Z):yy D Z:=by
 unfold yy
 split
 ·exact⟨⟨D.d,D.size,NV D.is8 D.w D.P.data D.d,ok.d.1,ok.d.2,Cv _ _ _,.refl⟩,z⟩
 ·exact z
noncomputable def Eg(c:df):Prop:=c=LK∨∃D:Dc,c=HJ D∧(0≤D.d∧D.d < 7)∧D.w=bB D.P.rex 8∧D.Mrm
theorem Ef (T:Nat→V) (w:World):∀R as KV,fW as KV R→∃c,Eg c∧∃bs,dm T w as bs∧au (ev {c with R:=R} 140) nQ bs ⟨.nil,0⟩ (bg (bo T w KV)):=by
  intro R as KV h
  replace h:=OO h
  obtain⟨k,xs,k2,a,rfl,h⟩:=h
  refine bC h fun p h=>?_
  have same:dm T w [.named 1,.bytes k xs,.int k2 a] [.named 1,.bytes false xs,.int false a]:=(bc.cons .refl (.cons .bytes (.cons .int .nil))).same
  rcases h with⟨hn|⟨D,ok,href⟩,r⟩|⟨D,⟨ok,hm,hr,hb,hl⟩,hk⟩
  · refine⟨LK,.inl rfl,_,same,?_⟩
    rw[MP]
    exact⟨⟨p.1,p.2.1,p.2.2,hn⟩,r⟩
  · refine⟨HJ D,.inr ⟨D,rfl,ok.d,ok.w,ok.mrm⟩,_,same,?_⟩
    obtain⟨⟨seg,data,rep,lock,rex⟩,n,d,is8,w',md,m,y⟩:=D
    have hw:w'=0∨w'=1:=by
      have:=ok.w
      dsimp only at this
      rw[this];exact CU _ _
    have hrep:=ok.pok.rep
    have hlk:=ok.pok.lock
    dsimp only at hrep hlk
    rcases href with⟨hm,hb⟩|⟨hm,hl⟩
    · dsimp only at hm hb
      subst hm
      rcases hrep with rfl|hrep
      · have hb:A7 _=true:=hb.resolve_left (fun h=>h rfl)
        refine(Dg R _ rex d m y n xs a rfl hw).mpr ?_
        refine i3 p ok (j9 ok (ny p ok rfl (.inl r) ?_))
        rw[hb];exact r
      · have:lock=false:=by
          cases lock
          · rfl
          · have:=hlk rfl;lia
        subst this
        refine(Mx R _ rex d m y n xs a rfl hw hrep).mpr ?_
        refine i3 p ok ⟨ok.op,j9 ok (ny p ok rfl (.inl r) ?_)⟩
        have z:(∃d',0≤d'∧d' < 7∧ck d=ck d')∧R 83:=⟨⟨d,ok.d.1,ok.d.2,rfl⟩,r⟩
        unfold NX
        split
        · exact r
        · exact⟨fun _=>z,fun _=>z⟩
    · dsimp only at hm hl
      subst hm hl
      obtain rfl:=hlk rfl
      refine(Lo R _ rex d m y n xs a rfl hw).mpr ?_
      refine i3 p ok (j9 ok (F6 p ok r ?_))
      unfold NX
      split
      · exact r
      · exact tB ok r
  · refine⟨HJ D,.inr ⟨D,rfl,ok.d,ok.w,ok.mrm⟩,_,same,?_⟩
    have hk:bo T w KV (LA D a):=⟨_,(FJ D a).same,hk⟩
    obtain⟨⟨seg,data,rep,lock,rex⟩,n,d,is8,w',md,m,y⟩:=D
    have hw:w'=0∨w'=1:=by
      have:=ok.w
      dsimp only at this
      rw[this];exact CU _ _
    dsimp only at hm hr
    subst hm hr
    refine(Dg R _ rex d m y n xs a rfl hw).mpr ?_
    refine i3 p ok (j9 ok (ny p ok rfl (.inr hl) ?_))
    rw[hb]
    exact tB ok ⟨fun _=>hk,fun _=>hk⟩
noncomputable def gG:bM:=fun as KV _=>fv (fT JQ some as) fun _ v=>match qb v with
  |some xs=>(d3 xs∧xs.length≤60)∧((AE xs 0∧KV (.bool true true))∨∃D:Dc,(D.Ok xs 0∧D.Tells 0)∧KV (.bool true false))
  |none=>False
noncomputable def wB:bM:=fun as KV _=>xj (v7 JQ Bq eO as) fun _ xs a=>xo xs a∧∃D:Dc,(D.Ok xs a∧D.Tells a)∧KV (MT D a)
noncomputable def CR(a:Nat):Option (Nat×bM):=yT a [(1075,141,fW)]
noncomputable def J5:df:={ig with C:=CR,NM:=yO}
noncomputable def CW(a:Nat):Option (Nat×bM):=yT a [(1225,141,rz),(1211,91,kJ),(1075,141,wB),(1232,191,gG),(1162,41,oK),(205,41,iM)]
noncomputable def JW(l c:Nat):Option JT:=match ic l c 848 48 with
 |true=>some .itemI
 |false=>none
noncomputable def Pk:df:={ig with C:=CW,NM:=yO,J:=JW}
noncomputable abbrev VM(R:Addr→Prop):Ev:=ev {J5 with R:=R} 190
noncomputable abbrev V4(R:Addr→Prop):Ev:=ev {Pk with R:=R} 250
theorem vw(R:Addr→Prop)(KU:V→Prop)(xs:List Int):au (VM R) yl [.named 1,.irow false xs] ⟨.nil,0⟩ (bg KU)=(bH cZ xs=true∧bN xs.length=true∧xo xs 0∧((AE xs 0∧KU (.bool true true))∨∃D:Dc,(D.Ok xs 0∧D.Tells 0)∧KU (.bool true false))):=by kernel_rfl
set_option tactic.hygienic true in
theorem AG(T:Nat→V)(w:World):∀R as KV,gG as KV R→∃bs,dm T w as bs∧au (VM R) yl bs ⟨.nil,0⟩ (bg (bo T w KV)):=by
 intro R as KV h
 replace h:=Wt h
 obtain⟨_,rfl,h⟩:=h
 split at h
 case h_2=>exact h.elim
 rename_i v _ xs hx
 obtain⟨⟨ho,hl⟩,h⟩:=h
 refine⟨[.named 1,.irow false xs],(bc.cons .refl (.cons (gP hx) .nil)).same,?_⟩
 rw[vw]
 refine⟨?_,dP (by lia),⟨by decide,dP (by lia),by lia⟩,?_⟩
 ·have:=gB (ah:=[]) (xs:=xs) trivial ho
  exact this
 ·rcases h with⟨h1,h2⟩|⟨D,h1,h2⟩
  ·exact .inl ⟨h1,_,ba.same .refl,h2⟩
  ·exact .inr ⟨D,h1,_,ba.same .refl,h2⟩
noncomputable def Pz(K:List Int→List Int→Prop)(L:Ln):Prop:=((L.legacy=[]→(L.rexl=[]→K [] [])∧(∀r,L.rexl=[r]→K [] [r]))∧
     (∀x,L.legacy=[x]→(L.rexl=[]→K [x] [])∧(∀r,L.rexl=[r]→K [x] [r])))∧
     (∀x y,L.legacy=[x,y]→(L.rexl=[]→K [x,y] [])∧(∀r,L.rexl=[r]→K [x,y] [r]))∧
     (∀x y z,L.legacy=[x,y,z]→(L.rexl=[]→K [x,y,z] [])∧(∀r,L.rexl=[r]→K [x,y,z] [r]))
noncomputable def IM(xs:List Int)(Z W:Prop):Prop:=(d3 xs∧xs.length≤60)∧((AE xs 0∧Z)∨∃D:Dc,(D.Ok xs 0∧D.Tells 0)∧W)
noncomputable def il(a b:List Int)(Z:Prop):Prop:=aH (bN a.length) (bN b.length)=true∧Z
noncomputable def lh(ms:List Int)(pk:Int):Int:=pk.fmod (Int.ofNat ms.length+1)
noncomputable def nu(ms:List Int)(pk:Int):List Int:=cut ms none (some (lh ms pk).toNat)
noncomputable def jC(ms:List Int)(pk:Int):List Int:=cut ms (some (lh ms pk).toNat) none
noncomputable def Ji(ms rx tl:List Int)(pk x:Int)(Z W:Prop):Prop:=decide (0≤lh ms pk)=true∧bN ms.length=true∧il (nu ms pk) [x] (decide (0≤lh ms pk)=true∧bN ms.length=true∧il (bJ (nu ms pk) [x]) (jC ms pk)
 (il (bJ (bJ (nu ms pk) [x]) (jC ms pk)) rx (il (bJ (bJ (bJ (nu ms pk) [x]) (jC ms pk)) rx) tl (IM (bJ (bJ (bJ (bJ (nu ms pk) [x]) (jC ms pk)) rx) tl) Z W))))
noncomputable def SI(l:List Int):Bool:=match l with
 |[]=>false
 |_::_=>true
noncomputable def rW(KU:V→Prop)(lg ms rx tl:List Int):Prop:=By 0 tl.length=true∧bN tl.length=true∧By 1 tl.length=true∧bN tl.length=true∧bz false (mC (eK (fun y=>gy 8 y (.int 240)) (eR lg))) (KU (.bool true true))
 (il ms rx (il (bJ ms rx) [aW tl 0,192+(aW tl 1).fmod 64] (IM (bJ (bJ ms rx) [aW tl 0,192+(aW tl 1).fmod 64]) (KU (.bool true true)) (KU (.bool true false)))))
noncomputable def wh(KU:V→Prop)(size:Int)(lg ms rx tl:List Int):Prop:=bz false (mC (eK (fun y=>gy 8 y (.int 102)) (eR lg)))
 (il ms [102] (il (bJ ms [102]) rx (il (bJ (bJ ms [102]) rx) tl (IM (bJ (bJ (bJ ms [102]) rx) tl) (rW KU lg ms rx tl)
  (By 0 tl.length=true∧bN tl.length=true∧bz false ((aW tl 0).fmod 2==0) (KU (.bool true false)) (bz false (size==64) (KU (.bool true false)) (rW KU lg ms rx tl))))))) (rW KU lg ms rx tl)
noncomputable def SR:List V:=[.int true 38,.int true 46,.int true 54,.int true 62,.int true 103]
noncomputable def KJ(ms:List Int)(Z:Prop):Prop:=bN ms.length=true∧Mr (Int.ofNat ms.length+1)=true∧Z
noncomputable def NR(KU:V→Prop)(size:Int)(lg ms rx tl:List Int)(pk:Int):Prop:=KJ ms (∃J:Int→Prop,(0≤(pk.fdiv 4).fmod 5∧(pk.fdiv 4).fmod 5 < 5∧hU SR ((pk.fdiv 4).fmod 5) 0 (lu J))∧∀b,J b→
 Ji ms rx tl pk b (Ji ms rx tl pk (242+(pk.fdiv 20).fmod 2) (wh KU size lg ms rx tl) (KU (.bool true false))) (KU (.bool true false)))
noncomputable def zb(KU:V→Prop)(size:Int)(lg ms rx tl:List Int)(pk:Int):List Int→Prop
 |[]=>NR KU size lg ms rx tl pk
 |x::r=>KJ ms (Ji ms rx tl pk x (bz false (SI rx) (bN ms.length=true∧il (o6 x ms) rx (il (bJ (o6 x ms) rx) [x] (il (bJ (bJ (o6 x ms) rx) [x]) tl (IM (bJ (bJ (bJ (o6 x ms) rx) [x]) tl) (zb KU size lg ms rx tl pk r) (KU (.bool true false)))))) (zb KU size lg ms rx tl pk r)) (KU (.bool true false)))
noncomputable def xu(g:Str)(disp size:Int)(seg:Str):PyData:=.tuple [.str (s0 "mem"),.str g,.str (s0 ""),.int 1,.int disp,.int size,.str seg,.str (s0 "")]
noncomputable def w7(nm lk:Str)(m:PyData)(rg:Str)(n:Int):PyData:=.tuple [.tuple [.str nm,.str lk,.tuple [m,.tuple [.str (s0 "reg"),.str rg]]],.int n]
noncomputable def GW(D:Dc):Str:=match j2 ((D.m.fdiv 8).fmod 8+8*bB D.P.rex 4) D.size (decide (0≤D.P.rex))with
 |true=>iK ((D.m.fdiv 8).fmod 8+8*bB D.P.rex 4)
 |false=>fA ((D.m.fdiv 8).fmod 8+8*bB D.P.rex 4) D.size
noncomputable def Sx(KU:V→Prop)(xs:List Int)(L:Ln)(lg rx ms tl:List Int)(D:Dc):Prop:=bN ms.length=true∧bN rx.length=true∧bN tl.length=true∧
 (mC (gy 8 (w7 (ck D.d) (qD D.P.lock) (xu (fA (D.m.fmod 8+8*bB D.P.rex 1) 64) (pE D.y) D.size D.P.seg) (GW D) (Int.ofNat D.n+1+2 - 1)) (w7 (ck L.d) (lT L.lock) (xu (fA L.base 64) (L.disp - 256*bI (decide (127 < L.disp))) L.size L.word) (mu L.number L.size L.has) (Int.ofNat ms.length+Int.ofNat rx.length+Int.ofNat tl.length)))=true→KU (.bool true false))∧
 (mC (gy 8 (w7 (ck D.d) (qD D.P.lock) (xu (fA (D.m.fmod 8+8*bB D.P.rex 1) 64) (pE D.y) D.size D.P.seg) (GW D) (Int.ofNat D.n+1+2 - 1)) (w7 (ck L.d) (lT L.lock) (xu (fA L.base 64) (L.disp - 256*bI (decide (127 < L.disp))) L.size L.word) (mu L.number L.size L.has) (Int.ofNat ms.length+Int.ofNat rx.length+Int.ofNat tl.length)))=false→
  D.P.Ok∧il lg rx (bH cZ (bJ lg rx)=true∧bN (bJ lg rx).length=true∧bz false (mC (dy (f6 D.P) (bJ lg rx))) (KU (.bool true false)) (h8 xs 17 fun pk=>zb KU L.size lg ms rx tl pk lg)))
noncomputable def Tb(KU:V→Prop)(xs:List Int)(L:Ln)(lg rx:List Int):Prop:=h8 xs 16 fun _=>lg.length≤3∧∀ms:List Int,ms.Perm lg→il [15] ms (il (bJ [15] ms) rx (il (bJ (bJ [15] ms) rx) [L.t0,L.t1,L.disp] (il (bJ (bJ (bJ [15] ms) rx) [L.t0,L.t1,L.disp]) [103,1]
 (bH cZ (bJ (bJ (bJ (bJ [15] ms) rx) [L.t0,L.t1,L.disp]) [103,1])=true∧bN (bJ (bJ (bJ (bJ [15] ms) rx) [L.t0,L.t1,L.disp]) [103,1]).length=true∧xo (bJ (bJ (bJ (bJ [15] ms) rx) [L.t0,L.t1,L.disp]) [103,1]) 1∧
  ∃D:Dc,(D.Ok (bJ (bJ (bJ (bJ [15] ms) rx) [L.t0,L.t1,L.disp]) [103,1]) 1∧D.Tells 1)∧Sx KU xs L lg rx ms [L.t0,L.t1,L.disp] D))))
theorem wb(R:Addr→Prop)(KU:V→Prop)(xs:List Int):au (V4 R) yU [.irow false xs,.named 1] ⟨.nil,0⟩ (bg KU)=(xs.length≤63∧∀L:Ln,L.Ok→Pz (Tb KU xs L) L):=by kernel_rfl
noncomputable def jx:List Int→Pf→Option Pf
  |[],p=>some p
  | x::r,p=>match d6 p x with
    |some q=>jx r q
    |none=>none
noncomputable def fU(x:Int):Bool:=!bW x&&(match bj x with
 |.none=>false
 |_=>true)
theorem nS{x:Int}(h:fU x=true):bW x=false∧bj x≠.none:=by
 unfold fU at h
 rw[Bool.and_eq_true,Bool.not_eq_true']at h
 refine⟨h.1,fun e=>?_⟩
 rw[e]at h
 cases h.2
theorem ot(ms rest:List Int):∀(p:Pf) (n:Nat),ms.all fU=true→gx (ms++rest) p n=match jx ms p with
    |some q=>gx rest q (n+ms.length)
    |none=>none:=by
  induction ms with
  |nil=>intro p n _;rfl
  | cons x r ih=>
    intro p n h
    rw[List.all_cons,Bool.and_eq_true]at h
    refine bC (nS h.1) fun h1 h2=>?_
    rw[List.cons_append,mP h1 h2]
    unfold jx
    cases d6 p x with
    |none=>rfl
    | some q=>
      show gx (r++rest) q (n+1)=_
      rw[ih q (n+1) h.2,List.length_cons,show n+1+r.length=n+(r.length+1) by lia]
noncomputable def iC(x:Int):List Int→List (List Int)
 |[]=>[[x]]
 |y::r=>(x::y::r)::(iC x r).map (y::·)
noncomputable def xh:List Int→List (List Int)
 |[]=>[[]]
 |x::r=>(xh r).flatMap (iC x)
theorem jM(x:Int):∀p q:List Int,p++x::q∈iC x (p++q)
 |[],[]=>.head _
 |[],y::q=>.head _
 |y::p,q=>.tail _ (List.mem_map.mpr ⟨_,jM x p q,rfl⟩)
theorem nT:∀{l ys:List Int},ys.Perm l→ys∈xh l
  |[],ys,h=>by rw[h.eq_nil];exact .head _
  | x::r,ys,h=>by
    have hx:x∈ys:=h.mem_iff.mpr (.head _)
    refine jr (List.append_of_mem hx) fun p q rq2=>?_;subst rq2
    have:(p++q).Perm r:=(List.perm_middle.symm.trans h).cons_inv
    exact List.mem_flatMap.mpr ⟨_,nT this,jM x p q⟩
noncomputable def LO(p q:Pf):Bool:=aS p.seg q.seg&&p.data==q.data&&p.rep==q.rep&&p.lock==q.lock&&p.rex==q.rex
theorem IP{p q:Pf}(h:LO p q=true):p=q:=by
 obtain⟨a,b,c,d,e⟩:=p
 obtain⟨a',b',c',d',e'⟩:=q
 unfold LO at h
 simp only [Bool.and_eq_true,beq_iff_eq]at h
 obtain⟨⟨⟨⟨h1,rfl⟩,rfl⟩,rfl⟩,rfl⟩:=h
 rw[pW h1]
noncomputable def iy(o:Option Pf)(p:Pf):Bool:=match o with
 |some q=>LO q p
 |none=>false
theorem iP{o:Option Pf}{p:Pf}(h:iy o p=true):o=some p:=by
 unfold iy at h
 split at h
 ·rw[IP h]
 ·cases h
noncomputable def th:List Int:=[38,46,54,62,103]
noncomputable def Ao(x:Int):Bool:=decide (0≤x)&&decide (x < 256)
noncomputable def DO(w:Str)(d l:Bool)(ms:List Int):Bool:=ms.all fU&&(ms.all Ao&&(iy (jx ms kZ) ⟨w,d,0,l,-1⟩&&((ms++th).all (fun x=>(iC x ms).all fun zs=>zs.all fU&&(zs.all Ao&&(jx zs kZ).isNone)) &&
 ([242,243].all (fun x=>(iC x ms).all fun zs=>zs.all fU&&(zs.all Ao&&(if l then(jx zs kZ).isNone else iy (jx zs kZ) ⟨w,d,x,false,-1⟩))) &&
 (ms.all (fun x=>(jx (o6 x ms) kZ).isSome&&((o6 x ms).all fU&&(o6 x ms).all Ao))&&(d||iy (jx (ms++[102]) kZ) ⟨w,true,0,l,-1⟩))))))
theorem Gn{w:Str}(h:w=s0 ""∨w=s0 "fs"∨w=s0 "gs")(d l:Bool):(xh (jX w d 0 l)).all (DO w d l)=true:=by
 have k1:=BA h;have k2:=vb d;have k3:=vb l;clear h;revert w d l k1 k2 k3
 exact@(lJ (by kernel_rfl))
theorem fc:∀{l:List Int},l.all Ao=true→d3 l
  |[],_=>trivial
  | x::r,h=>by
    rw[List.all_cons,Bool.and_eq_true]at h
    have h1:=h.1
    unfold Ao at h1
    rw[Bool.and_eq_true,decide_eq_true_eq,decide_eq_true_eq]at h1
    exact⟨h1,fc h.2⟩
theorem bQ:∀{a b:List Int},d3 a→d3 b→d3 (a++b)
 |[],_,_,h=>h
 |_::_,_,h,h'=>⟨h.1,bQ h.2 h'⟩
structure xg(w:Str)(d l:Bool)(ms:List Int):Prop where
 leg:ms.all fU=true
 oct:d3 ms
 all:jx ms kZ=some ⟨w,d,0,l,-1⟩
 ins:∀x,x∈ms∨x∈th→∀zs∈iC x ms,zs.all fU=true∧d3 zs∧jx zs kZ=none
 rep:∀x,x=242∨x=243→∀zs∈iC x ms,zs.all fU=true∧d3 zs∧jx zs kZ=(if l then none else some ⟨w,d,x,false,-1⟩)
 ne:∀x∈ms,(∃q,jx (o6 x ms) kZ=some q)∧(o6 x ms).all fU=true∧d3 (o6 x ms)
 data:d=false→jx (ms++[102]) kZ=some ⟨w,true,0,l,-1⟩
theorem qB{w:Str}{d l:Bool}{ms:List Int}(hw:w=s0 ""∨w=s0 "fs"∨w=s0 "gs")(hp:ms.Perm (jX w d 0 l)):xg w d l ms:=by
 have h:=List.all_eq_true.mp (Gn hw d l) ms (nT hp)
 unfold DO at h
 simp only [Bool.and_eq_true]at h
 refine Tc h fun h1 h2 h3 h4 h5 h6 h7=>?_
 refine⟨h1,fc h2,iP h3,fun x hx zs hz=>?_,fun x hx zs hz=>?_,fun x hx=>?_,fun hd=>?_⟩
 ·have:=List.all_eq_true.mp (List.all_eq_true.mp h4 x (List.mem_append.mpr hx)) zs hz
  simp only [Bool.and_eq_true]at this
  exact⟨this.1,fc this.2.1,Option.isNone_iff_eq_none.mp this.2.2⟩
 ·have hx:x∈[(242:Int),243]:=by rcases hx with rfl|rfl <;> simp
  have:=List.all_eq_true.mp (List.all_eq_true.mp h5 x hx) zs hz
  simp only [Bool.and_eq_true]at this
  refine⟨this.1,fc this.2.1,?_⟩
  have t:=this.2.2
  cases l
  ·exact iP t
  ·exact Option.isNone_iff_eq_none.mp t
 ·have:=List.all_eq_true.mp h6 x hx
  simp only [Bool.and_eq_true]at this
  exact⟨Option.isSome_iff_exists.mp this.1,this.2.1,fc this.2.2⟩
 ·subst hd
  rw[Bool.false_or]at h7
  exact iP h7
theorem u0:∀(a b:List Int) (k:Nat),aW (a++b) (a.length+k)=aW b k
  |[],b,k=>by rw[List.nil_append,List.length_nil,Nat.zero_add]
  | x::r,b,k=>by
    rw[List.cons_append,List.length_cons,show r.length+1+k=(r.length+k)+1 by lia]
    exact u0 r b k
theorem CA{d:Int}(h:0≤d∧d < 7){x:Int}(hx:x=8*d∨x=8*d+1):bW x=false∧bj x=.none:=by
 rcases LX h.1 h.2 with rfl|rfl|rfl|rfl|rfl|rfl|rfl <;> rcases hx with rfl|rfl <;> exact⟨rfl,rfl⟩
theorem H5{p:Pf}(hp:p.rex=-1){x:Int}(hx:bW x=false∧bj x=.none)(tl:List Int)(n:Nat):gx (x::tl) p n=some (p,n)∧∀r,64≤r→r < 80→gx (r::x::tl) p n=some ({p with rex:=r},n+1):=by
 have e:∀(q:Pf) (m:Nat),gx (x::tl) q m=some (q,m):=fun q m=>by
  rw[dF,hx.1,hx.2,if_neg (by decide)]
 refine⟨e p n,fun r h1 h2=>?_⟩
 rw[dF,oy h1 h2,if_pos rfl,hp,if_neg (by decide),e]
section
theorem Wc(x:Int):x.fmod 8=x % 8:=Int.fmod_eq_emod_of_nonneg x (by decide)
theorem Wd(x:Int):x.fdiv 8=x / 8:=Int.fdiv_eq_ediv_of_nonneg x (by decide)
structure Sg(L:Ln):Prop where
 rex:L.has=true→64≤L.rexv∧L.rexv < 80
 w:bB L.pf.rex 8=bI (L.size==64)
 r:bB L.pf.rex 4=L.number.fdiv 8
 b:bB L.pf.rex 1=L.base.fdiv 8
 has:decide (0≤L.pf.rex)=L.has
 ok:L.pf.rex=-1∨(64≤L.pf.rex∧L.pf.rex < 80)
theorem PV{x:Int}(h1:0≤x)(h2:x < 16):x.fdiv 8=0∨x.fdiv 8=1:=by
 refine of_decide_eq_true ?_
 have k:=fg (k:=16) h1 h2;clear h1 h2;revert x k
 exact@(ia (by kernel_rfl))
section
variable {a b c d:Int}(ha:a=0∨a=1)(hb:b=0∨b=1)(hc:c=0∨c=1)(hd:d=0∨d=1)
include ha hb hc hd
theorem Pj:64≤64+8*a+4*b+2*c+d∧64+8*a+4*b+2*c+d < 80:=by
 refine of_decide_eq_true ?_
 have k1:=pJ ha;have k2:=pJ hb;have k3:=pJ hc;have k4:=pJ hd;clear ha hb hc hd;revert a b c d k1 k2 k3 k4
 exact@(lq (by kernel_rfl))
theorem Wm:64+8*a+4*b+2*c+d=64→a=0∧b=0∧d=0:=by
 refine of_decide_eq_true ?_
 have k1:=pJ ha;have k2:=pJ hb;have k3:=pJ hc;have k4:=pJ hd;clear ha hb hc hd;revert a b c d k1 k2 k3 k4
 exact@(lq (by kernel_rfl))
end
theorem Wr{m k:Int}(h1:0≤m)(h2:m < 8)(h3:0≤k)(h4:k < 8):64≤64+8*m+k∧64+8*m+k < 128∧(64+8*m+k).fmod 8=k∧((64+8*m+k).fdiv 8).fmod 8=m:=by
 refine of_decide_eq_true ?_
 have k1:=fg (k:=8) h1 h2;have k2:=fg (k:=8) h3 h4;clear h1 h2 h3 h4;revert m k k1 k2
 exact@(la (by kernel_rfl))
theorem tC{L:Ln}(ok:L.Ok):Sg L:=by
  have n1:=ok.number
  have b1:=ok.base
  have i1:=ok.idle
  have z:=F4 (L.size==64)
  have hn:=PV n1.1 n1.2
  have hb:=PV b1.1 b1.2.1
  have er:L.rexv=64+8*bI (L.size==64)+4*L.number.fdiv 8+2*L.idle+L.base.fdiv 8:=rfl
  have rng:64≤L.rexv∧L.rexv < 80:=by rw[er];exact Pj z hn i1 hb
  refine AH (ua z hn i1 hb) fun e0 e1 _ e3=>?_
  cases hh:L.has with
  | true=>
    have e:L.pf.rex=L.rexv:=by show(if L.has then L.rexv else -1)=_;rw[hh,if_pos rfl]
    refine⟨fun _=>rng,?_,?_,?_,?_,?_⟩
    · rw[e,er];exact e0
    · rw[e,er];exact e1
    · rw[e,er];exact e3
    · rw[e,hh];exact decide_eq_true (Int.le_trans (by decide) rng.1)
    · rw[e];exact .inr rng
  | false=>
    have e:L.pf.rex=-1:=by show(if L.has then L.rexv else -1)=_;rw[hh,if_neg (by decide)]
    have h64:=ok.has hh
    rw[er]at h64
    have b:∀k,bB (-1) k=0:=fun k=>rfl
    have q:=Wm z hn i1 hb h64
    refine⟨fun h=>(by rw[hh]at h;cases h),?_,?_,?_,?_,.inl e⟩
    · rw[e,b];exact q.1.symm
    · rw[e,b];exact q.2.1.symm
    · rw[e,b];exact q.2.2.symm
    · rw[e,hh];rfl
theorem NA{L:Ln}(ok:L.Ok):64≤L.t1∧L.t1 < 128∧L.t1.fmod 8=L.base.fmod 8∧(L.t1.fdiv 8).fmod 8=L.number.fmod 8:=by
 have e:L.t1=64+8*L.number.fmod 8+L.base.fmod 8:=rfl
 rw[e]
 exact Wr (aZ _ (by decide)) (bk _ (by decide)) (aZ _ (by decide)) (bk _ (by decide))
theorem RZ{L:Ln}(ok:L.Ok):(L.t0=8*L.d∨L.t0=8*L.d+1)∧L.t0=8*L.d+(match L.size==8 with|true=>0|false=>1):=by
 have e:L.t0=8*L.d+bI (decide (8 < L.size)):=rfl
 rcases ok.size with h|h|h|h <;> rw[e,h]
 ·exact⟨.inl (Int.add_zero _),rfl⟩
 ·exact⟨.inr rfl,rfl⟩
 ·exact⟨.inr rfl,rfl⟩
 ·exact⟨.inr rfl,rfl⟩
noncomputable def rI(L:Ln)(h z:Nat)(p:Pf)(md:Bool)(m y:Int):Dc:=⟨{p with rex:=L.pf.rex},h+z+L.rexl.length,L.d,L.size==8,bB L.pf.rex 8,md,m,y⟩
theorem RV{L:Ln}(ok:L.Ok){hd zs tail:List Int}{p:Pf}{md:Bool}{m y:Int}(hz:zs.all fU=true)(hf:jx zs kZ=some p)(pok:({p with rex:=L.pf.rex}:Pf).Ok)(hr:p.rex=-1)
    (hm:(md=true→64≤m∧m < 128∧m.fmod 8≠4∧0≤y∧y < 256)∧(md=false→192≤m∧m < 256)) (hy:md=true→∃t,tail=y::t) :
    (rI L hd.length zs.length p md m y).Ok (hd++(zs++(L.rexl++(L.t0::m::tail)))) (Int.ofNat hd.length):=by
  have F:=tC ok
  have e:hd++(zs++(L.rexl++(L.t0::m::tail)))=(hd++zs++L.rexl)++(L.t0::m::tail):=by simp only [List.append_assoc]
  have el:(hd++zs++L.rexl).length=hd.length+zs.length+L.rexl.length:=by simp only [List.length_append]
  have g:∀k,aW (hd++(zs++(L.rexl++(L.t0::m::tail)))) (hd.length+zs.length+L.rexl.length+k)=aW (L.t0::m::tail) k:=fun k=>by rw[e,←el];exact u0 _ _ k
  have hlen:(hd++(zs++(L.rexl++(L.t0::m::tail)))).length=hd.length+zs.length+L.rexl.length+2+tail.length:=by
    simp only [List.length_append,List.length_cons];lia
  refine⟨?_,pok,?_,ok.d,rfl,?_,g 1,hm,fun h=>?_⟩
  · unfold rp
    rw[show(Int.ofNat hd.length).toNat=hd.length from rfl,List.drop_left,ot _ _ _ _ hz,hf]
    have op:=CA ok.d (RZ ok).1
    have r:=H5 (p:=p) hr op (m::tail) (hd.length+zs.length)
    have er:L.rexl=if L.has then[L.rexv]else[]:=rfl
    cases hh:L.has with
    | true=>
      have e2:L.pf.rex=L.rexv:=by show(if L.has then L.rexv else -1)=_;rw[hh,if_pos rfl]
      rw[hh,if_pos rfl]at er
      unfold rI
      rw[er,e2]
      exact r.2 _ (F.rex hh).1 (F.rex hh).2
    | false=>
      have e2:L.pf.rex=-1:=by show(if L.has then L.rexv else -1)=_;rw[hh,if_neg (by decide)]
      rw[hh,if_neg (by decide)]at er
      unfold rI
      rw[er,e2]
      have:({p with rex:=-1}:Pf)=p:=by rw[←hr]
      rw[this]
      exact r.1
  · have:=g 0
    rw[Nat.add_zero]at this
    exact this.trans (RZ ok).2
  · show hd.length+zs.length+L.rexl.length+1 < _
    rw[hlen];lia
  · refine cf (hy h) fun t rq1=>?_;subst rq1
    refine⟨?_,g 2⟩
    show hd.length+zs.length+L.rexl.length+1+1 < _
    rw[hlen,List.length_cons];lia
theorem oV(L:Ln):L.legacy=jX L.word (L.size==16) 0 L.lock:=by
 unfold Ln.legacy jX
 simp
theorem Dj{L:Ln}(ok:L.Ok){h z:Nat}{p:Pf}{md:Bool}{m y:Int}(hp:p.data=(L.size==16)):(rI L h z p md m y).size=L.size:=by
 show RT (L.size==8) (bB L.pf.rex 8) p.data=L.size
 rw[(tC ok).w,hp]
 rcases ok.size with h|h|h|h <;> rw[h] <;> rfl
theorem jz{n:Nat}(h:n≤60):bN n=true:=dP (by lia)
theorem cy{a b:List Int}{Z:Prop}(h1:a.length≤60)(h2:b.length≤60)(z:Z):il a b Z:=⟨by rw[jz h1,jz h2];rfl,z⟩
theorem H8(ms:List Int)(k:Nat):cut ms none (some k)++cut ms (some k) none=ms:=by
  show l8 ms k++ma ms k=ms
  induction ms generalizing k with
  |nil=>rfl
  | cons x r ih=>cases k with
    |zero=>rfl
    |succ n=>exact congrArg (x::·) (ih n)
theorem rE{ms rx tl:List Int}{pk x:Int}{Z W:Prop}(h1:ms.length≤4)(h2:rx.length≤4)(h3:tl.length≤4)(h:∀zs∈iC x ms,(d3 (zs++(rx++tl))∧(AE (zs++(rx++tl)) 0∧Z))):Ji ms rx tl pk x Z W:=by
 have hs:0≤lh ms pk:=aZ _ (by show(0:Int) < (ms.length:Int)+1;lia)
 have e:=H8 ms (lh ms pk).toNat
 have hm:=jM x (nu ms pk) (jC ms pk)
 have e2:nu ms pk++jC ms pk=ms:=e
 rw[e2]at hm
 have hl:(nu ms pk).length+(jC ms pk).length=ms.length:=by rw[←List.length_append,e2]
 have ex:bJ (bJ (bJ (bJ (nu ms pk) [x]) (jC ms pk)) rx) tl=(nu ms pk++x::jC ms pk)++(rx++tl):=by
  simp only [aQ,List.append_assoc,List.cons_append,List.nil_append]
 refine kD (h _ hm) fun o r z=>?_
 have fm:bN ms.length=true:=jz (by lia)
 have p1:(nu ms pk).length≤60:=by lia
 have p2:(jC ms pk).length≤60:=by lia
 have p3:rx.length≤60:=by lia
 have p4:tl.length≤60:=by lia
 have p5:[x].length≤60:=by simp
 refine⟨decide_eq_true hs,fm,cy p1 p5 ⟨decide_eq_true hs,fm,cy ?_ p2 (cy ?_ p3 (cy ?_ p4 ?_))⟩⟩
 ·rw[aQ];simp;lia
 ·rw[aQ,aQ];simp;lia
 ·rw[aQ,aQ,aQ];simp;lia
 ·rw[ex]
  refine⟨⟨o,?_⟩,.inl ⟨r,z⟩⟩
  simp;lia
end
section
theorem Nk{w:Str}(h:w=s0 ""∨w=s0 "fs"∨w=s0 "gs")(d l:Bool):eK (fun y=>gy 8 y (.int 240)) (eR (jX w d 0 l))=l:=by
 have k1:=BA h;have k2:=vb d;have k3:=vb l;clear h;revert w d l k1 k2 k3
 exact@(lJ (by kernel_rfl))
theorem Md{w:Str}(h:w=s0 ""∨w=s0 "fs"∨w=s0 "gs")(d l:Bool):eK (fun y=>gy 8 y (.int 102)) (eR (jX w d 0 l))=d:=by
 have k1:=BA h;have k2:=vb d;have k3:=vb l;clear h;revert w d l k1 k2 k3
 exact@(lJ (by kernel_rfl))
theorem gD{L:Ln}(ok:L.Ok):d3 L.rexl∧L.rexl.length≤1:=by
  have e:L.rexl=if L.has then[L.rexv]else[]:=rfl
  cases hh:L.has with
  | true=>
    have:=(tC ok).rex hh
    rw[e,hh,if_pos rfl]
    exact⟨⟨by lia,trivial⟩,by simp⟩
  |false=>rw[e,hh,if_neg (by decide)];exact⟨trivial,by simp⟩
theorem qU{L:Ln}(ok:L.Ok):0≤L.t0∧L.t0 < 56:=by
 have h:=(RZ ok).1
 have:=ok.d
 lia
theorem oh{L:Ln}(ok:L.Ok):d3 (L.rexl++[L.t0,L.t1,L.disp]):=by
 have h0:=qU ok
 have h1:=NA ok
 have h2:=ok.disp
 exact bQ (gD ok).1 ⟨by lia,by lia,by lia,trivial⟩
theorem qp{n:Nat}{a:Int}(ha:0≤a)(h:n≤5):Int.ofNat n+1+2 - a≤15:=by
 have:Int.ofNat n=(n:Int):=rfl
 lia
theorem oW{zs rest:List Int}(hz:zs.all fU=true)(h:jx zs kZ=none):AE (zs++rest) 0:=by
 refine .inl ?_
 unfold rp
 rw[show(0:Int).toNat=0 from rfl,List.drop_zero,ot _ _ _ _ hz,h]
theorem IK(x:Int)(l:List Int):(o6 x l).length≤l.length:=by
  induction l with
  |nil=>exact Nat.le_refl _
  | cons y r ih=>
    show(bX (y==x) (o6 x r) (y::o6 x r)).length≤_
    cases y==x with
    |true=>exact Nat.le_succ_of_le ih
    |false=>exact Nat.succ_le_succ ih
theorem Ga{p:Pf}{x:Int}(h:0≤p.rex):d6 p x=none:=by
 unfold d6
 cases bj x <;> first|rfl|(dsimp only;rw[if_pos h])
section
variable {L:Ln}(ok:L.Ok){ms:List Int}(g:xg L.word (L.size==16) L.lock ms)(hlen:ms.length≤3){KU:V→Prop}(hk:KU (.bool true true))
include ok g hlen
theorem wN:(true=true→64≤L.t1∧L.t1 < 128∧L.t1.fmod 8≠4∧0≤L.disp∧L.disp < 256)∧(true=false→192≤L.t1∧L.t1 < 256):=by
 have h1:=NA ok
 have h2:=ok.disp
 have h3:=ok.base
 exact⟨fun _=>⟨h1.1,h1.2.1,by rw[h1.2.2.1];exact h3.2.2,h2.1,h2.2⟩,fun e=>by cases e⟩
include hk
theorem A1:rW KU L.legacy ms L.rexl [L.t0,L.t1,L.disp]:=by
 have F:=tC ok
 have h0:=qU ok
 have h1:=NA ok
 have hr:=gD ok
 refine⟨rfl,rfl,rfl,rfl,?_⟩
 rw[oV,Nk ok.word]
 refine⟨fun _=>hk,fun e=>?_⟩
 have hl:L.lock=true:=by
  cases h:L.lock
  ·rw[h]at e;cases e
  ·rfl
 refine cy (by lia) (by lia) (cy ?_ (by simp) ?_)
 ·rw[aQ,List.length_append];lia
 ·have m1:=aZ L.t1 (n:=64) (by decide)
  have m2:=bk L.t1 (n:=64) (by decide)
  have ex:bJ (bJ ms L.rexl) [aW [L.t0,L.t1,L.disp] 0,192+(aW [L.t0,L.t1,L.disp] 1).fmod 64]=[]++(ms++(L.rexl++(L.t0::(192+L.t1.fmod 64)::[]))):=by
   simp only [aQ,List.append_assoc,List.nil_append];rfl
  rw[ex]
  refine⟨⟨?_,?_⟩,.inl ⟨.inr ⟨_,RV ok (hd:=[]) (y:=0) (md:=false) g.leg g.all ?_ rfl ⟨fun e=>(by cases e),fun _=>⟨by lia,by lia⟩⟩ fun e=>(by cases e),.inr ⟨rfl,hl⟩⟩,hk⟩⟩
  ·exact bQ (a:=ms) g.oct (bQ (a:=L.rexl) hr.1 ⟨⟨h0.1,by lia⟩,⟨by lia,by lia⟩,trivial⟩)
  ·simp only [List.nil_append,List.length_append,List.length_cons,List.length_nil];lia
  ·exact⟨ok.word,.inl rfl,fun _=>rfl,F.ok⟩
theorem zS:wh KU L.size L.legacy ms L.rexl [L.t0,L.t1,L.disp]:=by
 have F:=tC ok
 have hr:=gD ok
 have hend:=A1 ok g hlen hk
 unfold wh
 have ea:eK (fun y=>gy 8 y (.int 102)) (eR L.legacy)=(L.size==16):=by rw[oV];exact Md ok.word _ _
 rw[ea]
 refine⟨fun e=>?_,fun _=>hend⟩
 have hd:(L.size==16)=false:=by
  cases h:(L.size==16)
  ·rfl
  ·rw[h]at e;cases e
 have ex:bJ (bJ (bJ ms [102]) L.rexl) [L.t0,L.t1,L.disp]=[]++((ms++[102])++(L.rexl++(L.t0::L.t1::[L.disp]))):=by
  simp only [aQ,List.append_assoc,List.nil_append]
 have hz:(ms++[102]).all fU=true:=by
  rw[List.all_append,g.leg];rfl
 have dk:=RV ok (hd:=[]) (y:=L.disp) (md:=true) (m:=L.t1) (tail:=[L.disp]) hz (g.data hd) ⟨ok.word,.inl rfl,fun _=>rfl,F.ok⟩ rfl (wN ok g hlen) fun _=>⟨[],rfl⟩
 have oc:d3 ([]++((ms++[102])++(L.rexl++(L.t0::L.t1::[L.disp])))):=bQ (a:=ms++[102]) (bQ g.oct ⟨⟨by decide,by decide⟩,trivial⟩) (oh ok)
 have ol:([]++((ms++[102])++(L.rexl++(L.t0::L.t1::[L.disp])))).length≤60:=by
  simp only [List.nil_append,List.length_append,List.length_cons,List.length_nil];lia
 have hn5:(rI L ([]:List Int).length (ms++[102]).length ⟨L.word,true,0,L.lock,-1⟩ true L.t1 L.disp).n≤5:=by
  show([]:List Int).length+(ms++[102]).length+L.rexl.length≤5
  simp only [List.length_append,List.length_cons,List.length_nil]
  lia
 refine cy (by lia) (by simp) (cy ?_ (by lia) (cy ?_ (by simp) ?_))
 ·rw[aQ,List.length_append,List.length_cons,List.length_nil];lia
 ·simp only [aQ,List.length_append,List.length_cons,List.length_nil];lia
 rw[ex]
 refine⟨⟨oc,ol⟩,?_⟩
 rcases ok.size with h|h|h|h
 ·refine .inl ⟨.inr ⟨_,dk,.inl ⟨rfl,.inr ?_⟩⟩,hend⟩
  show(match L.size==8 with|true=>true|false=>bB L.pf.rex 8==1)=true
  rw[h];rfl
 ·rw[h]at hd;exact absurd hd (by decide)
 ·refine .inr ⟨_,⟨dk,rfl,rfl,?_,?_⟩,rfl,rfl,fun e=>?_,fun _=>⟨fun e=>?_,fun _=>hend⟩⟩
  ·show(match L.size==8 with|true=>true|false=>bB L.pf.rex 8==1)=false
   rw[F.w,h];rfl
  ·exact qp (by decide) hn5
  ·have t:=(RZ ok).2
   rw[h]at t
   have t:L.t0=8*L.d+1:=t
   have e:(L.t0.fmod 2==0)=true:=e
   rw[beq_iff_eq]at e
   rw[Int.fmod_eq_emod_of_nonneg _ (by decide),t]at e
   lia
  ·rw[h]at e;cases e
 ·refine .inl ⟨.inr ⟨_,dk,.inl ⟨rfl,.inr ?_⟩⟩,hend⟩
  show(match L.size==8 with|true=>true|false=>bB L.pf.rex 8==1)=true
  rw[F.w,h];rfl
theorem I9(pk:Int):NR KU L.size L.legacy ms L.rexl [L.t0,L.t1,L.disp] pk:=by
  have F:=tC ok
  have hr:=gD ok
  have hc:=zS ok g hlen hk
  have fm:bN ms.length=true:=jz (by lia)
  refine⟨fm,decide_eq_true (by show(0:Int) < (ms.length:Int)+1;lia),fun b=>b∈th,⟨aZ _ (by decide),bk _ (by decide),fun _=>(by decide:(38:Int)∈th),fun _=>(by decide:(46:Int)∈th),fun _=>(by decide:(54:Int)∈th),fun _=>(by decide:(62:Int)∈th),fun _=>(by decide:(103:Int)∈th),trivial⟩,fun b hb=>?_⟩
  refine rE (by lia) (by lia) (by simp) fun zs hz=>?_
  refine kD (g.ins b (.inr hb) zs hz) fun a1 a2 a3=>?_
  refine⟨bQ a2 (oh ok),oW a1 a3,rE (by lia) (by lia) (by simp) fun zs hz=>?_⟩
  have hx:242+(pk.fdiv 20).fmod 2=242∨242+(pk.fdiv 20).fmod 2=243:=by have:=q7 (pk.fdiv 20);lia
  refine kD (g.rep _ hx zs hz) fun a1 a2 a3=>?_
  refine⟨bQ a2 (oh ok),?_,hc⟩
  cases hl:L.lock with
  |true=>rw[hl]at a3;exact oW a1 a3
  | false=>
    rw[hl]at a3
    refine .inr ⟨_,RV ok (hd:=[]) (y:=L.disp) (md:=true) (m:=L.t1) (tail:=[L.disp]) a1 a3 ⟨ok.word,.inr hx,fun e=>(by cases e),F.ok⟩ rfl (wN ok g hlen) fun _=>⟨[],rfl⟩,.inl ⟨rfl,.inl ?_⟩⟩
    show 242+(pk.fdiv 20).fmod 2≠0
    lia
theorem z0 (pk:Int) (lg:List Int) (h:∀x∈lg,x∈ms):zb KU L.size L.legacy ms L.rexl [L.t0,L.t1,L.disp] pk lg:=by
  induction lg with
  |nil=>exact I9 ok g hlen hk pk
  | cons x r ih=>
    have F:=tC ok
    have hr:=gD ok
    have next:=ih fun y hy=>h y (.tail _ hy)
    have fm:bN ms.length=true:=jz (by lia)
    have hx:=h x (.head _)
    refine⟨fm,decide_eq_true (by show(0:Int) < (ms.length:Int)+1;lia),rE (by lia) (by lia) (by simp) fun zs hz=>?_⟩
    refine kD (g.ins x (.inl hx) zs hz) fun a1 a2 a3=>?_
    refine⟨bQ a2 (oh ok),oW a1 a3,fun e=>?_,fun _=>next⟩
    obtain⟨⟨q,n1⟩,n2,n3⟩:=g.ne x hx
    have nl:=IK x ms
    have hxo:d3 [x]:=by
      have:∀{l:List Int},d3 l→x∈l→d3 [x]:=fun{l} ho hm=>by
        induction l with
        |nil=>cases hm
        | cons y l ih=>cases hm with
          |head=>exact⟨ho.1,trivial⟩
          |tail _ hm=>exact ih ho.2 hm
      exact this g.oct hx
    have lx:fU x=true:=List.all_eq_true.mp g.leg x hx
    have ex:bJ (bJ (bJ (o6 x ms) L.rexl) [x]) [L.t0,L.t1,L.disp]=o6 x ms++(L.rexl++(x::[L.t0,L.t1,L.disp])):=by
      simp only [aQ,List.append_assoc,List.cons_append,List.nil_append]
    refine⟨fm,cy (by lia) (by lia) (cy ?_ (by simp) (cy ?_ (by simp) ?_))⟩
    · rw[aQ,List.length_append];lia
    · simp only [aQ,List.length_append,List.length_cons,List.length_nil];lia
    rw[ex]
    have h0:=qU ok
    have h1:=NA ok
    have h2:=ok.disp
    refine⟨⟨bQ n3 (bQ hr.1 ⟨hxo.1,by lia,by lia,by lia,trivial⟩),?_⟩,.inl ⟨.inl ?_,next⟩⟩
    · simp only [List.length_append,List.length_cons,List.length_nil];lia
    · unfold rp
      rw[show(0:Int).toNat=0 from rfl,List.drop_zero,ot _ _ _ _ n2,n1]
      have er:L.rexl=if L.has then[L.rexv]else[]:=rfl
      cases hh:L.has with
      | false=>
        rw[hh,if_neg (by decide)]at er
        rw[er]at e;cases e
      | true=>
        rw[hh,if_pos rfl]at er
        have rg:=F.rex hh
        rw[er]
        show gx (L.rexv::x::[L.t0,L.t1,L.disp]) q _=none
        rw[dF,oy rg.1 rg.2,if_pos rfl]
        split
        · rfl
        · rw[mP (nS lx).1 (nS lx).2,Ga (p:={q with rex:=L.rexv}) (by show 0≤L.rexv;lia)]
end
end
theorem Jy(a b g seg r:Str)(d s n:Int):gy 8 (w7 a b (xu g d s seg) r n) (w7 a b (xu g d s seg) r n)=true:=by
 rw[jY];simp[w7,xu,PyData.eqv,PyData.eqvAll]
theorem uQ(l:List Int):dy l l=true:=by
 induction l with
 |nil=>rfl
 |cons x r ih=>show bX (x==x) (dy r r) false=true;rw[beq_self_eq_true];exact ih
theorem Ae(b:Bool):qD b=lT b:=by cases b <;> rfl
set_option tactic.hygienic true in
theorem Fz(y:Int):pE y=y - 256*bI (decide (127 < y)):=by
 unfold pE
 split
 ·rename_i h;rw[decide_eq_true h];show y - 256=y - 256*1;lia
 ·rename_i h;rw[decide_eq_false h];show y=y - 256*0;lia
theorem zH(n size:Int)(b:Bool):(match j2 n size b with|true=>iK n|false=>fA n size)=mu n size b:=by
  unfold mu j2
  cases h1:(size==8)with
  |false=>rfl
  | true=>
    cases b with
    |true=>rfl
    | false=>
      show(match aH (decide (4≤n)) (decide (n < 8))with|true=>iK n|false=>fA n size)=if(true&&!false&&decide (4≤n)&&decide (n < 8))=true then iK n else fA n size
      cases decide (4≤n) <;> cases decide (n < 8) <;> rfl
theorem Mb(L:Ln)(hh:decide (0≤L.pf.rex)=L.has):f6 L.pf=L.legacy++L.rexl:=by
  have e1:f6 L.pf=jX L.word (L.size==16) 0 L.lock++(if 0≤L.pf.rex then[L.pf.rex]else[]):=rfl
  have e2:L.rexl=if L.has then[L.rexv]else[]:=rfl
  have e3:L.pf.rex=if L.has then L.rexv else -1:=rfl
  rw[e1,←oV,e2]
  cases h:L.has with
  | true=>
    rw[h]at hh e3
    have hh:=of_decide_eq_true hh
    rw[if_pos hh,e3,if_pos rfl,if_pos rfl]
  | false=>
    rw[h]at hh e3
    have hh:=of_decide_eq_false hh
    rw[if_neg hh,if_neg (by decide)]
theorem uk(x:Int):x.fmod 8+8*x.fdiv 8=x:=by rw[Wc,Wd];lia
theorem Mj {KU:V→Prop} {xs:List Int} {L:Ln} (hl:xs.length≤63) (ok:L.Ok) (hk:KU (.bool true true)):Tb KU xs L L.legacy L.rexl:=by
  have F:=tC ok
  have hr:=gD ok
  have ll:=yr L
  refine⟨hl,by decide,fun _ _=>⟨ll,fun ms hp=>?_⟩⟩
  have g:xg L.word (L.size==16) L.lock ms:=qB ok.word (by rw[←oV];exact hp)
  have hlen:ms.length≤3:=by rw[hp.length_eq];exact ll
  have ex:bJ (bJ (bJ (bJ [15] ms) L.rexl) [L.t0,L.t1,L.disp]) [103,1]=[15]++(ms++(L.rexl++(L.t0::L.t1::[L.disp,103,1]))):=by
    simp only [aQ,List.append_assoc,List.cons_append,List.nil_append]
  have n1:(bJ [15] ms).length≤60:=by rw[aQ,List.length_append,List.length_cons,List.length_nil];lia
  have n2:(bJ (bJ [15] ms) L.rexl).length≤60:=by simp only [aQ,List.length_append,List.length_cons,List.length_nil];lia
  have n3:(bJ (bJ (bJ [15] ms) L.rexl) [L.t0,L.t1,L.disp]).length≤60:=by simp only [aQ,List.length_append,List.length_cons,List.length_nil];lia
  have n4:(bJ (bJ (bJ (bJ [15] ms) L.rexl) [L.t0,L.t1,L.disp]) [103,1]).length≤60:=by simp only [aQ,List.length_append,List.length_cons,List.length_nil];lia
  refine cy (by simp) (by lia) (cy n1 (by lia) (cy n2 (by simp) (cy n3 (by simp) ⟨?_,jz n4,⟨by decide,jz n4,by lia⟩,?_⟩)))
  · have h0:=qU ok
    have h1:=NA ok
    have h2:=ok.disp
    have o1:d3 (bJ (bJ (bJ [15] ms) L.rexl) [L.t0,L.t1,L.disp]):=by
      have:bJ (bJ (bJ [15] ms) L.rexl) [L.t0,L.t1,L.disp]=15::(ms++(L.rexl++[L.t0,L.t1,L.disp])):=by
        simp only [aQ,List.append_assoc,List.cons_append,List.nil_append]
      rw[this]
      exact⟨by decide,bQ g.oct (oh ok)⟩
    exact gB o1 ⟨by decide,by decide,trivial⟩
  · rw [ex]
    have dk:=RV ok (hd:=[15]) (y:=L.disp) (md:=true) (m:=L.t1) (tail:=[L.disp,103,1]) g.leg g.all ⟨ok.word,.inl rfl,fun _=>rfl,F.ok⟩ rfl (wN ok g hlen) fun _=>⟨[103,1],rfl⟩
    have hn:(rI L 1 ms.length ⟨L.word,L.size==16,0,L.lock,-1⟩ true L.t1 L.disp).n≤5:=by
      show 1+ms.length+L.rexl.length≤5
      lia
    refine⟨_,⟨dk,rfl,rfl,?_,qp (by decide) hn⟩,?_⟩
    · show(match L.size==16 with|true=>(match L.size==8 with|true=>true|false=>bB L.pf.rex 8==1)|false=>false)=false
      rw[F.w]
      rcases ok.size with h|h|h|h <;> rw[h] <;> rfl
    · have fm:bN ms.length=true:=jz (by lia)
      have e1:(rI L 1 ms.length ⟨L.word,L.size==16,0,L.lock,-1⟩ true L.t1 L.disp).size=L.size:=Dj ok rfl
      have tf:=NA ok
      have er:GW (rI L 1 ms.length ⟨L.word,L.size==16,0,L.lock,-1⟩ true L.t1 L.disp)=mu L.number L.size L.has:=by
        unfold GW
        rw[e1]
        have:((rI L 1 ms.length ⟨L.word,L.size==16,0,L.lock,-1⟩ true L.t1 L.disp).m.fdiv 8).fmod 8+8*bB (rI L 1 ms.length ⟨L.word,L.size==16,0,L.lock,-1⟩ true L.t1 L.disp).P.rex 4=L.number:=by
          show(L.t1.fdiv 8).fmod 8+8*bB L.pf.rex 4=L.number
          rw[tf.2.2.2,F.r,uk]
        rw[this]
        have h2:decide (0≤(rI L 1 ms.length ⟨L.word,L.size==16,0,L.lock,-1⟩ true L.t1 L.disp).P.rex)=L.has:=F.has
        rw[h2]
        exact zH _ _ _
      have em:(rI L 1 ms.length ⟨L.word,L.size==16,0,L.lock,-1⟩ true L.t1 L.disp).m.fmod 8+8*bB (rI L 1 ms.length ⟨L.word,L.size==16,0,L.lock,-1⟩ true L.t1 L.disp).P.rex 1=L.base:=by
        show L.t1.fmod 8+8*bB L.pf.rex 1=L.base
        rw[tf.2.2.1,F.b,uk]
      have en:Int.ofNat (rI L 1 ms.length ⟨L.word,L.size==16,0,L.lock,-1⟩ true L.t1 L.disp).n+1+2 - 1=Int.ofNat ms.length+Int.ofNat L.rexl.length+Int.ofNat [L.t0,L.t1,L.disp].length:=by
        have q:(rI L 1 ms.length ⟨L.word,L.size==16,0,L.lock,-1⟩ true L.t1 L.disp).n=1+ms.length+L.rexl.length:=rfl
        rw[q]
        have c:∀n:Nat,Int.ofNat n=(n:Int):=fun _=>rfl
        rw[c,c,c,c]
        simp only [List.length_cons,List.length_nil]
        lia
      have eS:pE (rI L 1 ms.length ⟨L.word,L.size==16,0,L.lock,-1⟩ true L.t1 L.disp).y=L.disp - 256*bI (decide (127 < L.disp)):=Fz _
      have eL:qD (rI L 1 ms.length ⟨L.word,L.size==16,0,L.lock,-1⟩ true L.t1 L.disp).P.lock=lT L.lock:=Ae _
      have eP:(rI L 1 ms.length ⟨L.word,L.size==16,0,L.lock,-1⟩ true L.t1 L.disp).P=L.pf:=rfl
      show Sx KU xs L L.legacy L.rexl ms [L.t0,L.t1,L.disp] (rI L 1 ms.length ⟨L.word,L.size==16,0,L.lock,-1⟩ true L.t1 L.disp)
      unfold Sx
      rw[e1,er,em,en,eS,eL]
      refine⟨fm,jz (by lia),rfl,fun q=>?_,fun _=>⟨dk.pok,cy (by lia) (by lia) ⟨?_,?_,fun q=>?_,fun _=>⟨hl,by decide,fun pk _=>z0 ok g hlen hk pk _ fun x hx=>hp.mem_iff.mpr hx⟩⟩⟩⟩
      · exfalso
        have:=Jy (ck L.d) (lT L.lock) (fA L.base 64) L.word (mu L.number L.size L.has) (L.disp - 256*bI (decide (127 < L.disp))) L.size (Int.ofNat ms.length+Int.ofNat L.rexl.length+Int.ofNat [L.t0,L.t1,L.disp].length)
        exact absurd (q.symm.trans (congrArg mC this)) (by decide)
      · refine gB ?_ hr.1
        have g0:=qB (ms:=L.legacy) ok.word (by rw[←oV])
        exact g0.oct
      · rw[aQ];exact jz (by rw[List.length_append];lia)
      · exfalso
        rw[eP,Mb L F.has,aQ,uQ]at q
        exact absurd q (by decide)
noncomputable def ji:bM:=fun as KV _=>fv (fT Hy some as) fun xs v=>xs.length≤63∧v=dG∧KV (.bool true true)
theorem Ar(w:World):∀R as KV,ji as KV R→∃bs,dm (fun _=>dG) w as bs∧au (V4 R) yU bs ⟨.nil,0⟩ (bg (bo (fun _=>dG) w KV)):=by
 intro R as KV h
 replace h:=Ws h
 obtain⟨k,xs,v,rfl,h⟩:=h
 obtain⟨hl,rfl,hk⟩:=h
 refine⟨[.irow false xs,.named 1],fun H rs hv=>?_,?_⟩
 ·exact hv.cons' fun r1 l1 a b e1=>b.cons' fun r2 l2 b c e2=>c.nil' fun e3=>by rw[e1,e2,e3];exact .cons (ba.rel .irow a) (.cons (.named b) .nil)
 rw[wb]
 have hk':bo (fun _=>dG) w KV (.bool true true):=⟨_,ba.same .refl,hk⟩
 refine⟨hl,fun L ok=>?_⟩
 have all:∀lg rx,L.legacy=lg→L.rexl=rx→Tb (bo (fun _=>dG) w KV) xs L lg rx:=fun lg rx e1 e2=>by
  subst e1 e2
  exact Mj hl ok hk'
 exact⟨⟨fun e=>⟨fun e'=>all _ _ e e',fun r e'=>all _ _ e e'⟩,fun x e=>⟨fun e'=>all _ _ e e',fun r e'=>all _ _ e e'⟩⟩,fun x y e=>⟨fun e'=>all _ _ e e',fun r e'=>all _ _ e e'⟩,fun x y z e=>⟨fun e'=>all _ _ e e',fun r e'=>all _ _ e e'⟩⟩
noncomputable def CF(a:Nat):Option (Nat×bM):=yT a [(1197,191,fu),(1204,141,fu),(1237,251,ji)]
noncomputable def Mg:df:={ig with C:=CF,NM:=yO}
noncomputable abbrev VV(R:Addr→Prop):Ev:=ev {Mg with R:=R} 320
theorem LW(R:Addr→Prop)(KU:V→Prop)(xs:List Int):au (VV R) zi [.irow false xs] ⟨.nil,0⟩ (bg KU)=(xs.length≤63∧xs.length≤63∧xs.length≤63∧dG=dG∧KU (.bool true true)):=by kernel_rfl
noncomputable def QV:bM:=fu
theorem OZ(w:World):∀R as KV,QV as KV R→∃bs,dm (fun _=>dG) w as bs∧au (VV R) zi bs ⟨.nil,0⟩ (bg (bo (fun _=>dG) w KV)):=by
 intro R as KV h
 obtain⟨k,xs,rfl,hl,hk⟩:=dR h
 refine⟨[.irow false xs],(bc.cons .irow .nil).same,?_⟩
 rw[LW]
 exact⟨hl,hl,hl,rfl,_,ba.same .refl,hk⟩
section
theorem je(d size:Int)(rm r:String)(num:Int):ba (va d size rm r num) (lY d size rm r num):=
 .inst (.cons .str (.cons .refl (.cons .int (.cons .refl (.cons .refl (.cons .refl (.cons .refl (.cons .refl (.cons .int (.cons .refl .nil))))))))))
theorem Px(d:Int):ba (.list (zq d)) (.list (EU d)):=.list (.cons (je ..) .nil)
theorem O8(d:Int):ba (.list (xX d)) (.list (Gi d)):=.list (.cons (je ..) (.cons (je ..) (.cons (je ..) .nil)))
theorem xZ(w:World){k1 k2 k3:Bool}{m e o:Int}:dm TI w [.named 1,.int k1 m,.int k2 e,.int k3 o] [dG,.int true m,.int true e,.int true o]:=by
  intro H rs hv
  cases hv with
  | cons a b=>
    cases a with
    |named a=>exact .cons a ((bc.cons .int (.cons .int (.cons .int .nil))).rel b)
theorem Hg {e m:Int} {A B:Prop} (h:match e==0 with|true=>(match m==0 with|true=>A|false=>match wQ m with|true=>B|false=>False)|false=>False):e=0∧((m=0∧A)∨((m=102∨m=242∨m=243)∧B)):=by
  cases qe:e==0 with
  |false=>rw[qe]at h;exact h.elim
  | true=>
    rw[qe]at h
    refine⟨eq_of_beq qe,?_⟩
    cases qm:m==0 with
    |true=>rw[qm]at h;exact .inl ⟨eq_of_beq qm,h⟩
    | false=>
      rw[qm]at h
      cases qa:wQ m with
      |false=>rw[qa]at h;exact h.elim
      | true=>
        rw[qa]at h
        refine .inr ⟨?_,h⟩
        have qa:(match m==102 with|true=>true|false=>match m==242 with|true=>true|false=>m==243)=true:=qa
        cases q1:m==102 with
        |true=>exact .inl (eq_of_beq q1)
        | false=>
          rw[q1]at qa
          cases q2:m==242 with
          |true=>exact .inr (.inl (eq_of_beq q2))
          |false=>rw[q2]at qa;exact .inr (.inr (eq_of_beq qa))
theorem Tu(w:World){D:Dc}(hd:0≤D.d∧D.d < 7):∀R as KV,FV D as KV R→∃bs,dm TI w as bs∧au (hX R) hY bs ⟨.nil,0⟩ (bg (bo TI w KV)):=by
  intro R as KV h
  have none_ (m:Int) (hm:m=102∨m=242∨m=243) (o:Int) (ho:o=8*D.d+(match D.is8 with|true=>0|false=>1)) (hk:KV (.list [])):au (hX R) hY [dG,.int true m,.int true 0,.int true o] ⟨.nil,0⟩ (bg (bo TI w KV)):=by
    subst ho
    cases D.is8 with
    | true=>
      show au (hX R) hY [dG,.int true m,.int true 0,.int true (8*D.d+0)] ⟨.nil,0⟩ _
      rw[Int.add_zero,I3 R _ hd.1 hd.2 hm]
      exact⟨_,ba.same .refl,hk⟩
    | false=>
      show au (hX R) hY [dG,.int true m,.int true 0,.int true (8*D.d+1)] ⟨.nil,0⟩ _
      rw[Iu R _ hd.1 hd.2 hm]
      exact⟨_,ba.same .refl,hk⟩
  replace h:=QW h
  obtain⟨k1,m,k2,e,k3,o,rfl,h⟩:=h
  obtain⟨rfl,⟨rfl,ho,hk⟩|⟨hm,ho,hk⟩⟩:=Hg h
  · refine⟨_,xZ w,?_⟩
    subst ho
    cases q:D.is8 with
    | true=>
      rw[q]at hk
      show au (hX R) hY [dG,.int true 0,.int true 0,.int true (8*D.d+0)] ⟨.nil,0⟩ _
      rw[Int.add_zero,M3 R _ hd.1 hd.2]
      exact⟨_,(Px _).same,hk⟩
    | false=>
      rw[q]at hk
      show au (hX R) hY [dG,.int true 0,.int true 0,.int true (8*D.d+1)] ⟨.nil,0⟩ _
      rw[MX R _ hd.1 hd.2]
      exact⟨_,(O8 _).same,hk⟩
  · exact⟨_,xZ w,none_ m hm _ ho hk⟩
theorem uX{T:Nat→V}{w:World}{KV:V→Prop}{v:V}(h:KV v):bo T w KV v:=⟨v,ba.same .refl,h⟩
section
variable {h B:Heap}{K:Frag}{prog:Program}{w:World}
noncomputable abbrev SP(prog:Program)(w:World)(B:Heap)(a m:Nat)(S:bM):Prop:=dM prog w TI B a m S
structure Bx(prog:Program)(w:World)(B:Heap):Prop where
 s155:SP prog w B 155 41 lr
 s226:SP prog w B 226 41 gv
 s219:SP prog w B 219 41 jN
 s1162:SP prog w B 1162 41 oK
 s1169:SP prog w B 1169 41 jW
 s127:SP prog w B 127 41 iq
 s134:SP prog w B 134 41 j5
 s205:SP prog w B 205 41 iM
 s814:SP prog w B 814 41 BQ
 s821:SP prog w B 821 41 wy
 s351:SP prog w B 351 41 gY
 s358:SP prog w B 358 41 jf
 s120:SP prog w B 120 41 C5
 s849:SP prog w B 849 41 oQ
 s863:SP prog w B 863 41 jT
 s987:SP prog w B 987 41 E0
 s1120:∀D:Dc,0≤D.d∧D.d < 7→SP prog w B 1120 41 (FV D)
theorem WI(S:eY h K)(k:∀b o,h.get? b=some o→b∉kA→B.get? b=some o)(hb:HA h B):Bx prog w B:=by
 have G:aY prog w TI {ig with C:=fun _=>none,NM:=yO,J:=fun _ _=>none} K B:=EX S k hb (fun _ e=>nomatch e) (fun _ _ _ e=>nomatch e)
 have G0:aY prog w TI ig K B:=⟨G.kin,G.g,G.nolimit,G.fi,G.keep,G.cm,G.cs,G.ci,G.named,G.spec,G.xc,fun _ _ e=>(nomatch e),G.low,G.lamP,G.bm,G.heard,G.exc⟩
 exact{
  s155:=aV G0 (i:=Hh) (by kernel_rfl) (An _ _)
  s226:=aV G0 (i:=IU) (by kernel_rfl) (pq _ _)
  s219:=aV G0 (i:=I4) (by kernel_rfl) (wU _ _)
  s1162:=aV G0 (i:=zg) (by kernel_rfl) (MU _ _)
  s1169:=aV G0 (i:=zf) (by kernel_rfl) (vE _ _)
  s127:=aV G0 (i:=Ht) (by kernel_rfl) (t7 _ _)
  s134:=aV G0 (i:=Hq) (by kernel_rfl) (xK _ _)
  s205:=aV G0 (i:=G6) (by kernel_rfl) (Em _ _)
  s814:=aV G0 (i:=Il) (by kernel_rfl) (Ov _ _)
  s821:=aV G0 (i:=Jl) (by kernel_rfl) (Ll _ _)
  s351:=aV G0 (i:=GL) (by kernel_rfl) (wa _ _)
  s358:=aV G0 (i:=Ib) (by kernel_rfl) (Bk _ _)
  s120:=aV G0 (i:=H0) (by kernel_rfl) (QK _ _)
  s849:=aV G0 (i:=IA) (by kernel_rfl) (CX _ _)
  s863:=aV G0 (i:=He) (by kernel_rfl) (xb _ _)
  s987:=aV G0 (i:=Hc) (by kernel_rfl) (O4 _ _)
  s1120:=fun D hd=>aV G0 (i:=hY) (by kernel_rfl) (Tu _ hd)}
end
end
section
section
variable {h B:Heap}{K:Frag}{prog:Program}{w:World}
structure lO(prog:Program)(w:World)(h B:Heap)(K:Frag):Prop where
 S:eY h K
 k:∀b o,h.get? b=some o→b∉kA→B.get? b=some o
 b:HA h B
theorem lO.cfg(X:lO prog w h B K){C:Addr→Option (Nat×bM)}{J:Nat→Nat→Option JT}
  (hC:∀a,(C a).isSome=true→(HV a).isSome=true) (hS:∀a m Sp,C a=some (m,Sp)→dM prog w TI B a m Sp):aY prog w TI {ig with C:=C,NM:=yO,J:=J} K B:=EX X.S X.k X.b hC hS
noncomputable def Oi(a:Nat):Bool:=eU (HV a)
theorem LC{l:Mc}(h:bH (fun p=>Oi p.1) l=true)(a:Addr)(e:(yT a l).isSome=true):(HV a).isSome=true:=Hd h e
noncomputable abbrev uY(prog:Program)(w:World)(B:Heap)(l:Mc):Prop:=HN (fun p=>dM prog w TI B p.1 p.2.1 p.2.2) l
theorem CJ{l:Mc}(h:uY prog w B l)(a:Addr)(m:Nat)(Sp:bM)(e:yT a l=some (m,Sp)):dM prog w TI B a m Sp:=Ki (M:=fun a y=>dM prog w TI B a y.1 y.2) e h
theorem lO.tab(X:lO prog w h B K){l:Mc}{J:Nat→Nat→Option JT}(h1:bH (fun p=>Oi p.1) l=true)(h2:uY prog w B l):aY prog w TI {ig with C:=fun a=>yT a l,NM:=yO,J:=J} K B:=X.cfg (LC h1) (CJ h2)
theorem JL(L:Bx prog w B):uY prog w B Iw:=⟨L.s155,L.s226,L.s219,L.s1162,L.s1169,L.s127,L.s134,L.s205,L.s814,L.s821,L.s351,L.s358,L.s120,L.s849,L.s863,trivial⟩
theorem IS(X:lO prog w h B K)(L:Bx prog w B):aY prog w TI (PE 1) K B:=X.tab (l:=Iw) (by kernel_rfl) (JL L)
structure GH(prog:Program)(w:World)(B:Heap):Prop where
 s233:SP prog w B 233 91 ib
 s1001:SP prog w B 1001 91 De
 s884:SP prog w B 884 91 CL
 s877:∀D:Dc,D.Mrm→SP prog w B 877 91 (oG D)
 s1218:SP prog w B 1218 91 jR
 s1211:SP prog w B 1211 91 kJ
 s1176:SP prog w B 1176 91 B4
theorem WB(X:lO prog w h B K)(L:Bx prog w B):GH prog w B:=by
 have G:=IS X L
 exact{
  s233:=aV G (i:=mv) (by kernel_rfl) (mw _ _)
  s1001:=aV G (i:=tG) (by kernel_rfl) (P4 _ _)
  s884:=aV G (i:=DF) (by kernel_rfl) (Pe _ _)
  s877:=fun D hD=>aV G (i:=HO) (by kernel_rfl) (Jt _ _ hD)
  s1218:=aV G (i:=tU) (by kernel_rfl) (LU _ _)
  s1211:=aV G (i:=yS) (by kernel_rfl) (DT _ _)
  s1176:=aV G (i:=yi) (by kernel_rfl) (Qi _ _)}
theorem L9(L:GH prog w B):SP prog w B 233 91 JH:=ir L.s233 fun R as KV e=>by
 replace e:=NG e
 obtain⟨_,_,_,_,rfl,e⟩:=e
 obtain⟨⟨a1,a2,a3⟩,b,c⟩:=e
 exact⟨_,bc.same (.cons .refl (.cons .refl .nil)),a1,a2,a3,fun p e' q=>uX (b p e' q),c⟩
theorem K6(L:GH prog w B)(D:Dc):SP prog w B 233 91 (Km D):=ir L.s233 fun R as KV e=>by
 replace e:=NG e
 obtain⟨_,_,_,_,rfl,e⟩:=e
 obtain⟨⟨a1,a2,a3,a4⟩,b⟩:=e
 refine⟨_,bc.same (.cons .refl (.cons .refl .nil)),a1,a2,a3,fun p e' q=>?_,fun q=>?_⟩
 ·rw[a4]at q
  cases q
  exact⟨_,ba.same (.tup (.cons (.inst (.cons .refl (.cons .bool (.cons .int (.cons .bool (.cons .refl .nil)))))) (.cons .refl .nil))),b⟩
 ·rw[a4]at q;cases q
theorem Lh(L:GH prog w B):SP prog w B 233 91 wj:=ir L.s233 fun R as KV e=>by
 replace e:=NG e
 obtain⟨_,_,_,_,rfl,e⟩:=e
 obtain⟨⟨a1,a2,a3,a4⟩,b⟩:=e
 refine⟨_,bc.same (.cons .refl (.cons .refl .nil)),a1,a2,a3,fun p e' q=>?_,fun _=>b⟩
 rw[a4]at q;cases q
theorem DH(L:Bx prog w B){D:Dc}(hw:D.w=bB D.P.rex 8):SP prog w B 134 41 (yZ D):=ir L.s134 fun R as KV e=>by
 replace e:=dI e
 obtain⟨k,o,rfl,e⟩:=e
 obtain⟨rfl,b⟩:=e
 rw[hw]at b
 exact⟨_,bc.same (.cons .refl .nil),_,ba.same (.tup (.cons .int (.cons .refl (.cons .refl (.cons .refl .nil))))),b⟩
theorem Oo(L:Bx prog w B)(L1:GH prog w B){D:Dc}(hd:0≤D.d∧D.d < 7)(hw:D.w=bB D.P.rex 8)(hm:D.Mrm):uY prog w B (LR D):=⟨K6 L1 D,L.s1120 D hd,DH L hw,L1.s877 D hm,L1.s884,L.s987,L1.s1001,L.s351,L.s358,trivial⟩
theorem Ma(X:lO prog w h B K)(L:Bx prog w B)(L1:GH prog w B):SP prog w B 1075 141 fW:=by
 refine vz (P:=Eg) (K:=K) (i:=nQ) (fun c hc=>?_) (fun c hc=>?_) (Ef _ _)
 ·rcases hc with rfl|⟨D,rfl,hd,hw,hm⟩
  ·exact X.tab (l:=[(233,91,wj)]) (by kernel_rfl) ⟨Lh L1,trivial⟩
  ·exact X.tab (l:=LR D) (by kernel_rfl) (Oo L L1 hd hw hm)
 ·rcases hc with rfl|⟨D,rfl,_⟩
  ·kernel_rfl
  ·kernel_rfl
theorem JD(L:SP prog w B 1075 141 fW):SP prog w B 1075 141 wB:=ir L fun R as KV e=>by
 replace e:=OO e
 obtain⟨_,_,_,_,rfl,e⟩:=e
 obtain⟨a1,D,a2,a3⟩:=e
 exact⟨_,bc.same (.cons .refl (.cons .refl (.cons .refl .nil))),a1,.inr ⟨D,a2,uX a3⟩⟩
theorem Kn(L:Bx prog w B)(L1:GH prog w B):uY prog w B FL:=⟨L9 L1,L1.s1176,L1.s1218,JL L⟩
structure Vl(prog:Program)(w:World)(B:Heap):Prop where
 s1190:SP prog w B 1190 141 fy
 s1204:SP prog w B 1204 141 fu
 s1225:SP prog w B 1225 141 rz
theorem Ww(X:lO prog w h B K)(L:Bx prog w B)(L1:GH prog w B):Vl prog w B:=by
 have G:aY prog w TI OF K B:=X.tab (l:=FL) (by kernel_rfl) (Kn L L1)
 exact{
  s1190:=aV G (i:=yC) (by kernel_rfl) (UG _ _)
  s1204:=aV G (i:=zh) (by kernel_rfl) (MC _ _)
  s1225:=aV G (i:=yV) (by kernel_rfl) (Mp _ _)}
theorem zG(X:lO prog w h B K)(L:Bx prog w B)(L1:GH prog w B)(L2:Vl prog w B):SP prog w B 1197 191 fu:=by
 have G:aY prog w TI Og K B:=X.tab (l:=(1190,141,fy)::FL) (by kernel_rfl) ⟨L2.s1190,Kn L L1⟩
 exact aV G (i:=yN) (by kernel_rfl) (Oz _ _)
theorem LB(X:lO prog w h B K)(D:SP prog w B 1075 141 fW):SP prog w B 1232 191 gG:=by
 have G:aY prog w TI J5 K B:=X.tab (l:=[(1075,141,fW)]) (by kernel_rfl) ⟨D,trivial⟩
 exact aV G (i:=yl) (by kernel_rfl) (AG _ _)
theorem w3(X:lO prog w h B K)(L:Bx prog w B)(L1:GH prog w B)(L2:Vl prog w B)(D:SP prog w B 1075 141 fW)(R:SP prog w B 1232 191 gG):SP prog w B 1237 251 ji:=by
 have G:aY prog w TI Pk K B:=X.tab (l:=[(1225,141,rz),(1211,91,kJ),(1075,141,wB),(1232,191,gG),(1162,41,oK),(205,41,iM)]) (by kernel_rfl) ⟨L2.s1225,L1.s1211,JD D,R,L.s1162,L.s205,trivial⟩
 exact aV G (i:=yU) (by kernel_rfl) (Ar _)
theorem GN(X:lO prog w h B K):aY prog w TI Mg K B:=by
 have L:Bx prog w B:=WI X.S X.k X.b
 have L1:=WB X L
 have L2:=Ww X L L1
 have D:=Ma X L L1
 have A:=zG X L L1 L2
 have Z:=w3 X L L1 L2 D (LB X D)
 exact X.tab (l:=[(1197,191,fu),(1204,141,fu),(1237,251,ji)]) (by kernel_rfl) ⟨A,L2.s1204,Z,trivial⟩
end
end
noncomputable def OX(a:Addr)(o:Obj):HP:=fun b x=>b=a∧x=o
theorem AB:Hw.map (·.1)=kA:=rfl
theorem DV {prog:Program} {w:World} {h:Heap} {K:Frag} {s:Shared} (S:eY h K) (hk:∀b o,h.get? b=some o→s.heap.get? b=some o)
    (hb:∃mg bm ob,s.heap.Ns mainGlobals mg∧mg "__builtins__"=some (.ref bm)∧bm≠builtinsNs∧s.heap.get? bm=some ob∧ob.cls=.type "module"∧ob.dict=some builtinsNs∧ob.data=.plain)
    {La:Addr} {rs:List Value} {n:Nat} {xs:List Int} (hl:s.heap.get? La=some (aN rs n)) (hx:IntsAre rs xs) (hn:xs.length≤63) {A:Around} (hfr:A.frames=some []) (hh:A.handled=none) (hd:A.depth+2*320+10 < recursionLimit) (hu:A.units+16*320+144 < cLine) :
    codeAny (model prog w) A (.call (.ref 1244) ⟨[.ref La],[]⟩) (kE (fun r s'=>r=.bool true∧OldK s.heap s'.heap∧s'.os=s.os∧s'.gens=s.gens) fun _ _=>False) s:=by
  have hP:∀l∈jv,s.heap.get? l.P=some (tabObj #[]):=fun l hl=>hk _ _ (i9 S hl).2.1
  have notL:∀l∈jv,l.P≠La:=fun l hl' q=>by
    have:=hP l hl'
    rw[q,hl]at this
    cases this
  let B:=hideAll s.heap kA
  have kB:∀b o,h.get? b=some o→b∉kA→B.get? b=some o:=fun b o e q=>hideAll_get _ (hk b o e) q
  have bm:HA h B:=by
    refine QC hb fun mg bm ob g1 g2 g3 g4 g5 g6 g7=>?_
    refine⟨bm,ob,?_,g3,hideAll_get _ g4 fun q=>?_,g5,g6,g7⟩
    · have:mg=h.nsMap mainGlobals:=by
        rw[g1.eq_nsMap,(S.ns.keeps hk).eq_nsMap.symm]
      rw[←this];exact g2
    · refine av (List.mem_map.mp q) fun l hl' q=>?_
      have:=hP l hl'
      rw[q,g4]at this
      cases this
      cases g5
  have X:lO prog w h B K:=⟨S,kB,bm⟩
  have G:=DN (GN X) (fun _=>False)
  have I:a8 (pm w TI) B (OX La (aN rs n)) [] Hw .nil s.heap:=by
    refine⟨fun b o e=>of_hideAll _ e,fun a o ⟨e1,e2⟩=>by rw[e1,e2];exact hl,fun p hp=>?_,fun p hp=>?_,?_,fun i o e=>(nomatch e),List.nodup_nil,fun a ha=>(nomatch ha),fun a ha=>(nomatch ha)⟩
    · refine av (List.mem_map.mp hp) fun l hl' rq2=>?_;subst rq2
      exact⟨_,hP l hl',#[],rfl,trivial,fun _ _ _=>.inl rfl⟩
    · refine av (List.mem_map.mp hp) fun l hl' rq2=>?_;subst rq2
      exact⟨hideAll_none _ (List.mem_map.mpr ⟨l,hl',rfl⟩),fun o ⟨e1,_⟩=>notL l hl' e1⟩
    · rw[AB];decide
  have hv:ak (pm w TI) (OX La (aN rs n)) [] [.irow false xs] [.ref La]:=.cons (.irow ⟨rfl,rfl⟩ hx) .nil
  refine av (OZ w (fun _=>False) [.irow false xs] (fun v=>v=.bool true true) ⟨hn,rfl⟩) fun bs hsm he=>?_
  refine rK (c:={Mg with R:=fun _=>False}) G (Fn G 320) hfr hh (by lia) (by lia) (i:=zi) (by kernel_rfl) he I rfl ⟨fun _ h=>(nomatch h),fun p hp=>hp⟩ (fun e s' _ _ _ t=>me t) (hsm _ _ hv) fun v r ob' H' ρ' s' I' hl' L' R' q=>?_
  refine aM q fun p hf q=>bD q fun hnr q=>?_
  refine av q fun u hsu eu=>?_
  refine av (jn 12 _ _ _ _ _ I' R' hf) fun aT fY bu=>?_
  have fk:=hsu _ _ (kc (G.named · _ _ ·) 14 _ _ bu hnr)
  have old:∀b o,s.heap.get? b=some o→asItWas s.heap s'.heap b o∧∃o',s'.heap.get? b=some o':=fun b o e=>by
    by_cases q:b∈kA
    · refine av (List.mem_map.mp q) fun l hl' rq2=>?_;subst rq2
      have e':=hP l hl'
      rw[e]at e'
      cases e'
      refine av (I'.frNs (l.P,zc l) (List.mem_map.mpr ⟨l,hl',rfl⟩)) fun o' h1 h2=>?_
      refine av h2 fun ps h3 _=>?_
      obtain⟨oc,vs,_,_,_,_,_,_,_,c1,c2,c3,c4,_⟩:=(i9 S hl').1
      refine⟨.inr (.inl ⟨⟨_,oc,vs,hk _ _ c1,c2,c3,c4⟩,rfl,#[],ps,rfl,?_⟩),o',h1⟩
      rw[h1,h3]
      simp
    · have:=I'.keep b o (hideAll_get _ e q)
      exact⟨.inl this,o,this⟩
  rw[eu]at fk
  exact⟨fk.inv,⟨fun b o e=>(old b o e).1,fun b o e=>(old b o e).2⟩,L'.os,L'.gens⟩
noncomputable def JY:List Stmt→Nat→List Stmt
  |[],_=>[]
  | x::r,n=>match n with
    |0=>[x]
    |n+1=>JY r n
noncomputable def q0:Program:={pw with main:={pw.main with body:=JY pw.main.body 133}}
noncomputable def nz:List Str:=(["_wall","MintError","OperandError","EncodeError","DecodeError","mask","wrap","signed","from_little","from_little_signed","FS","GS","DATA_prefixes","REPNE","REP","LOCK","REX","rex_octet","rex_bits","is_rex","segment_octet","sort_of","Prefixes","with_rex","with_legacy","read_prefixes","LOCKED","MOVED","COMPARED","is_fixed","is_immediate","is_relative","takes_memory","kind_size","kind_width","slot_of","Form","can_lock","repeats","FOLD","fold_names","wide_sizes","every_size","kind_of","accumulator","whole_immediate","paired","store_forms","load_forms","group_forms","immediate_forms","short_forms","accumulator_forms","fold_forms","test_forms","single_forms","arith_forms","Operand","Reg","Imm","Rel","Mem","Instruction","NAMES_8","NAMES_16","NAMES_32","NAMES_64","HIGH_NAMES","Register","early_names","late_ending","gpr","high","xmm","rip","NO_INDEX","NO_BASE","WITH_SIB","FROM_RIP","unpack_three","unpack_modrm","unpack_sib","octet_at","disp_width_of","read_modrm","memory_of","MOST_OCTETS","ESCAPE","DATA_decoder","NOP","REGISTER","Decoded","Frame","fits_size","fits_mod","fits_nop","picked","register_at","reg_operand","rm_operand","plus_operand","fixed_operand","field_at","written_operand","operands_of","check_used","prefix_word","read_frame","decode","codes_of","InstructionSet","_law_cell","_law_sort","_law_due","_law_heard","_law_read_right","_law_any_right","_law_made_right","_law_turned","_law_name","_law_line","_law_refused","_law_decoded_right"]:List String).map Str.ofString
theorem QX:opening pw=plainProg pw.main.scope.names:=by kernel_rfl
theorem Nl(s:Shared):fenceModules? pw s=some s:=by kernel_rfl
theorem O7(P:Params):((boot_heap P).isNs mainGlobals&&(Array.mk []:Array GenState).size==0,(boot_heap P).objs.size,(boot_heap P).nsMap mainGlobals "__annotations__")=(true,11,some (.ref 6)):=by kernel_rfl
theorem Jd{α:Type}{q:Program}{loose:List Str}{Xt:Shared→Bool}{Yf:Shared→α}{Ya:World→α}{N M RJ:Nat}{p:Program}{pd:Params→Heap}{ann:Option Value}{w:World}{zE:Array GenState}{Nx:Drawn}{Ny:Nat}
  (open_:(fencedOpening treeTable p w N).map (fun s=>(s.heap,s.gens,s.drawn,s.toks))=some (pd w.params,zE,Nx,Ny))
  (size:((pd w.params).isNs mainGlobals&&zE.size==0,(pd w.params).objs.size,(pd w.params).nsMap mainGlobals "__annotations__")=(true,RJ,ann))
  (le:Nat.ble M N=true)
  (run:∀os:OsState,∃s₁,topRun treeTable p w RJ ann M ⟨pd w.params,zE,Nx,Ny,os⟩ (topStub p)=some s₁∧(staticsOk (importedModules p.main.body) (pd w.params) s₁.heap&&namesBound p s₁.heap&&gensDone s₁&&laidKept (pd w.params) s₁.heap)=true∧
   openSeen q loose (importedModules p.main.body) Xt true s₁=openGood q loose∧Yf s₁=Ya w):(openEnds treeTable p w N).map (fun s=>(openSeen q loose (importedModules p.main.body) Xt true s,Yf s))=some (openGood q loose,Ya w):=by
 obtain⟨⟨h,gs,d,k,os⟩,e,e'⟩:=Option.map_eq_some_iff.mp open_
 obtain⟨rfl,rfl,rfl,rfl⟩:h=pd w.params∧gs=zE∧d=Nx∧k=Ny:=by simpa using e'
 obtain⟨z1,z2,z3⟩:_∧_∧_:=by simpa only [Prod.mk.injEq]using size
 obtain⟨s₁,r,l1,l2,l3⟩:=run os
 have r:=topRun_mono (N - M) _ _ _ _ r
 rw[show M+(N - M)=N by have:=Nat.le_of_ble_eq_true le;omega]at r
 have t:topFrom treeTable p w N ⟨pd w.params,gs,d,k,os⟩=some s₁:=by
  unfold topFrom
  dsimp only
  rw[z1,z2,z3,r]
  show(match staticsOk (importedModules p.main.body) (pd w.params) s₁.heap&&namesBound p s₁.heap&&gensDone s₁&&laidKept (pd w.params) s₁.heap with|true=>_|false=>_)=_
  rw[l1]
 unfold openEnds
 rw[e]
 show(topFrom treeTable p w N _).map _=_
 rw[t]
 exact congrArg some (Prod.ext l2 l3)
noncomputable def NH:Stmt→Str
 |.FunctionDef n _ _ _ _ _ _ _ _ _=>n
 |_=>Str.empty
noncomputable def WG(d:Arguments):Stmt→Arguments
 |.FunctionDef _ a _ _ _ _ _ _ _ _=>a
 |_=>d
noncomputable def NQ:Stmt→List Stmt
 |.FunctionDef _ _ b _ _ _ _ _ _ _=>b
 |.ClassDef _ _ _ b _ _ _ _ _ _ _=>b
 |_=>[]
noncomputable def RM:Stmt→Scope
 |.FunctionDef _ _ _ _ _ _ s _ _ _=>s
 |_=>⟨.module,[],false,false,[]⟩
noncomputable def T4:List Stmt→Nat→Stmt
  |[],_=>.Pass ⟨0,0,0,0⟩
  | x::r,n=>match n with
    |0=>x
    |n+1=>T4 r n
noncomputable def st(k:Nat):Stmt:=T4 pw.main.body k
noncomputable def sm(k j:Nat):Stmt:=T4 (NQ (st k)) j
noncomputable def ar(x:String)(t:Nat):Value:=.str (Str.ofString x) t
noncomputable def tO(l:List Value):Obj:=⟨.type "tuple",none,.seq l.toArray 0,#[]⟩
noncomputable def fO(l:List Value):Obj:=⟨.none,none,.fields l.toArray,#[]⟩
noncomputable def xO(c:String)(l:List Value):Obj:=⟨.type c,none,.fields l.toArray,#[]⟩
noncomputable def cO(l:List Value):Obj:=xO "code" l
noncomputable def jA(l:List Value):Obj:=xO "builtin_function_or_method" l
noncomputable def gO(l:List Value):Obj:=xO "getset_descriptor" l
noncomputable def uO(l:List Value):Obj:=xO "super" l
noncomputable def rO(l:List (Option Value)):Obj:=⟨.type "frame",none,.plain,l.toArray⟩
noncomputable def dE(P:Params)(x:String)(t:Nat)(v:Value):DictEntry:=⟨PyData.keyHash P (Str.ofString x),.str (Str.ofString x) t,v⟩
noncomputable def dO(c:Value)(n:Nat)(l:List DictEntry):Obj:=⟨c,none,.dict l.toArray n,#[]⟩
noncomputable def kO(nm:String)(bs mro:List Value)(ns:Nat)(sub:List Value)(sl:List (Option Value)):Obj:=
 ⟨.type "type",none,.cls ⟨Str.ofString nm,bs,mro,ns,Str.ofString nm,true,[],sub,false,none,false⟩,sl.toArray⟩
noncomputable def Dd:List String→Nat→List Value
 |[],_=>[]
 |x::r,t=>ar x t::Dd r (t+1)
noncomputable def yu(s:Stmt):Arguments:=WG ⟨[],[],none,[],[],none,[]⟩ s
noncomputable def fG(s:Stmt)(qn:String)(md dv:Value)(line argc fl a t:Nat)(vn cv:List String):List Obj:=
  [tO [],fO [],tO (Dd vn (t+3)),tO (Dd cv (t+3+vn.length)),
   ⟨.none,none,.func ⟨NH s,Str.ofString qn,yu s,.stmts (NQ s),RM s,0,[],.none,.none,.none,.none,none,.none,.none,0⟩,#[]⟩,
   cO [.str (NH s) t,ar qn (t+1),ar "/claim/cut.py" (t+2),.int line 0,.int argc 0,.int 0 0,.int 0 0,.int fl 0,.ref a,.bool true,.int 181 0,.ref (a+1),.none,.ref (a+2),.ref (a+3),.ref (a+4),
     .int (Int.ofNat (t+3+vn.length+cv.length)) 0,.int line 0,ar "/claim/cut.py" (t+4+vn.length+cv.length)],
   ⟨.type "function",none,.func ⟨NH s,Str.ofString qn,yu s,.stmts (NQ s),RM s,mainGlobals,[],dv,.none,.none,md,none,.ref (a+5),.none,builtinsNs⟩,#[]⟩]
noncomputable def fH(s:Stmt)(qn:String)(md dv:Value)(line argc fl a t:Nat):List Obj:=
  [tO [],fO [],
   ⟨.none,none,.func ⟨NH s,Str.ofString qn,yu s,.stmts (NQ s),RM s,0,[],.none,.none,.none,.none,none,.none,.none,0⟩,#[]⟩,
   cO [.str (NH s) t,ar qn (t+1),ar "/claim/cut.py" (t+2),.int line 0,.int argc 0,.int 0 0,.int 0 0,.int fl 0,.ref a,.bool true,.int 181 0,.ref (a+1),.none,.none,.none,.ref (a+2),
     .int (Int.ofNat (t+3)) 0,.int line 0,ar "/claim/cut.py" (t+4)],
   ⟨.type "function",none,.func ⟨NH s,Str.ofString qn,yu s,.stmts (NQ s),RM s,mainGlobals,[],dv,.none,.none,md,none,.ref (a+3),.none,builtinsNs⟩,#[]⟩]
noncomputable def L5:List Obj→List Obj
 |[]=>[]
 |[x]=>[x]
 |x::_::r=>x::L5 r
noncomputable def NK:Nat→List Obj→BT
 |0,_=>.nil
 |_+1,[]=>.nil
 |n+1,o::r=>.node o (NK n (L5 r)) (NK n (L5 (r.drop 1)))
noncomputable def QG(sub:List Value):Obj:=kO "Operand" [.type "object"] [.ref 517,.type "object"] 516 sub [none,none,some (ar "Operand" 795),some (ar "Operand" 803),some (.builtin "object.__new__"),some (.bool true)]
noncomputable def qV(P:Params)(nm:Value):List DictEntry:=[dE P "__name__" 165 nm,dE P "__doc__" 166 .none,dE P "__package__" 167 .none,dE P "__loader__" 168 (.builtin "__main__.__loader__#opaque"),dE P "__spec__" 169 .none,dE P "__annotations__" 170 (.ref 6),dE P "__builtins__" 171 (.ref 4),dE P "__file__" 173 (ar "/claim/cut.py" 172),dE P "__cached__" 174 .none,dE P "_wall" 193 (.ref 21),dE P "MintError" 233 (.ref 46),dE P "OperandError" 249 (.ref 59),dE P "EncodeError" 265 (.ref 71),dE P "DecodeError" 281 (.ref 83),dE P "mask" 288 (.ref 92),dE P "wrap" 296 (.ref 99),dE P "signed" 305 (.ref 106),dE P "from_little" 315 (.ref 113),dE P "from_little_signed" 322 (.ref 120),dE P "FS" 326 (.int 100 325),dE P "GS" 328 (.int 101 327),dE P "DATA_prefixes" 330 (.int 102 329),dE P "REPNE" 332 (.int 242 331),dE P "REP" 334 (.int 243 333),dE P "LOCK" 336 (.int 240 335),dE P "REX" 338 (.int 64 337),dE P "rex_octet" 349 (.ref 127),dE P "rex_bits" 356 (.ref 134),dE P "is_rex" 363 (.ref 141),dE P "segment_octet" 370 (.ref 148),dE P "sort_of" 377 (.ref 155),dE P "Prefixes" 454 (.ref 208),dE P "with_rex" 462 (.ref 219),dE P "with_legacy" 472 (.ref 226),dE P "read_prefixes" 482 (.ref 233),dE P "LOCKED" 486 (ar "add adc and or sbb sub xor inc dec neg not xchg xadd cmpxchg bts btr btc" 485),dE P "MOVED" 488 (ar "movsb movsw movsd movsq stosb stosw stosd stosq lodsb lodsw lodsd lodsq" 487),dE P "COMPARED" 490 (ar "cmpsb cmpsw cmpsd cmpsq scasb scasw scasd scasq" 489),dE P "is_fixed" 497 (.ref 240),dE P "is_immediate" 504 (.ref 247),dE P "is_relative" 511 (.ref 254),dE P "takes_memory" 518 (.ref 261),dE P "kind_size" 525 (.ref 268),dE P "kind_width" 532 (.ref 275),dE P "slot_of" 539 (.ref 282),dE P "Form" 622 (.ref 340),dE P "can_lock" 629 (.ref 351),dE P "repeats" 636 (.ref 358),dE P "FOLD" 640 (ar "add or adc sbb and sub xor cmp" 639),dE P "fold_names" 646 (.ref 365),dE P "wide_sizes" 652 (.ref 372),dE P "every_size" 658 (.ref 379),dE P "kind_of" 666 (.ref 386),dE P "accumulator" 673 (.ref 393),dE P "whole_immediate" 680 (.ref 400),dE P "paired" 688 (.ref 407),dE P "store_forms" 701 (.ref 415),dE P "load_forms" 714 (.ref 423),dE P "group_forms" 725 (.ref 430),dE P "immediate_forms" 737 (.ref 437),dE P "short_forms" 748 (.ref 444),dE P "accumulator_forms" 759 (.ref 451),dE P "fold_forms" 769 (.ref 458),dE P "test_forms" 776 (.ref 465),dE P "single_forms" 783 (.ref 472),dE P "arith_forms" 792 (.ref 479),dE P "Operand" 844 (.ref 517),dE P "Reg" 883 (.ref 552),dE P "Imm" 925 (.ref 586),dE P "Rel" 975 (.ref 627),dE P "Mem" 1051 (.ref 680),dE P "Instruction" 1124 (.ref 733),dE P "NAMES_8" 1128 (ar "al cl dl bl spl bpl sil dil" 1127),dE P "NAMES_16" 1130 (ar "ax cx dx bx sp bp si di" 1129),dE P "NAMES_32" 1132 (ar "eax ecx edx ebx esp ebp esi edi" 1131),dE P "NAMES_64" 1134 (ar "rax rcx rdx rbx rsp rbp rsi rdi" 1133),dE P "HIGH_NAMES" 1136 (ar "ah ch dh bh" 1135),dE P "Register" 1206 (.ref 789),dE P "early_names" 1213 (.ref 800),dE P "late_ending" 1220 (.ref 807),dE P "gpr" 1229 (.ref 814),dE P "high" 1236 (.ref 821),dE P "xmm" 1243 (.ref 828),dE P "rip" 1249 (.ref 835),dE P "NO_INDEX" 1253 (.int 4 1252),dE P "NO_BASE" 1255 (.int 5 1254),dE P "WITH_SIB" 1257 (.int 4 1256),dE P "FROM_RIP" 1259 (.int 5 1258),dE P "unpack_three" 1266 (.ref 842),dE P "unpack_modrm" 1273 (.ref 849),dE P "unpack_sib" 1280 (.ref 856),dE P "octet_at" 1288 (.ref 863),dE P "disp_width_of" 1297 (.ref 870),dE P "read_modrm" 1311 (.ref 877),dE P "memory_of" 1329 (.ref 884),dE P "MOST_OCTETS" 1333 (.int 15 1332),dE P "ESCAPE" 1335 (.int 15 1334),dE P "DATA_decoder" 1337 (.int 102 1336),dE P "NOP" 1339 (.int 144 1338),dE P "REGISTER" 1341 (.int 3 1340),dE P "Decoded" 1383 (.ref 908),dE P "Frame" 1473 (.ref 964),dE P "fits_size" 1481 (.ref 975),dE P "fits_mod" 1487 (.ref 980),dE P "fits_nop" 1496 (.ref 987),dE P "picked" 1505 (.ref 994),dE P "register_at" 1514 (.ref 1001),dE P "reg_operand" 1523 (.ref 1008),dE P "rm_operand" 1534 (.ref 1015),dE P "plus_operand" 1543 (.ref 1022),dE P "fixed_operand" 1550 (.ref 1029),dE P "field_at" 1560 (.ref 1036),dE P "written_operand" 1569 (.ref 1043),dE P "operands_of" 1583 (.ref 1050),dE P "check_used" 1589 (.ref 1055),dE P "prefix_word" 1599 (.ref 1062),dE P "read_frame" 1605 (.ref 1067),dE P "decode" 1620 (.ref 1075),dE P "codes_of" 1628 (.ref 1080),dE P "InstructionSet" 1724 (.ref 1151),dE P "_law_cell" 1734 (.ref 1162),dE P "_law_sort" 1741 (.ref 1169),dE P "_law_due" 1752 (.ref 1176),dE P "_law_heard" 1759 (.ref 1183),dE P "_law_read_right" 1771 (.ref 1190),dE P "_law_any_right" 1782 (.ref 1197),dE P "_law_made_right" 1799 (.ref 1204),dE P "_law_turned" 1810 (.ref 1211),dE P "_law_name" 1819 (.ref 1218),dE P "_law_line" 1841 (.ref 1225),dE P "_law_refused" 1851 (.ref 1232),dE P "_law_decoded_right" 1857 (.ref 1237),dE P "law" 1865 (.ref 1244)]
noncomputable def yo:List Value:=[.int 1 0,.int 0 0,.ref 20,.int 5 0,.int 0 0,.ref 27,.int 16 0,.int 0 0,.ref 55,.int 18 0,.int 0 0,.ref 67,.int 20 0,.int 0 0,.ref 79,.int 22 0,.int 0 0,.ref 91,.int 24 0,.int 0 0,.ref 98,.int 26 0,.int 0 0,.ref 105,.int 31 0,.int 0 0,.ref 112,.int 38 0,.int 0 0,.ref 119,.int 50 0,.int 0 0,.ref 126,.int 55 0,.int 0 0,.ref 133,.int 59 0,.int 0 0,.ref 140,.int 61 0,.int 0 0,.ref 147,.int 67 0,.int 0 0,.ref 154,.int 77 0,.int 0 0,.ref 161,.int 117 0,.int 0 0,.ref 218,.int 119 0,.int 0 0,.ref 225,.int 141 0,.int 0 0,.ref 232,.int 159 0,.int 0 0,.ref 239,.int 161 0,.int 0 0,.ref 246,.int 163 0,.int 0 0,.ref 253,.int 165 0,.int 0 0,.ref 260,.int 167 0,.int 0 0,.ref 267,.int 175 0,.int 0 0,.ref 274,.int 181 0,.int 0 0,.ref 281,.int 191 0,.int 0 0,.ref 288,.int 222 0,.int 0 0,.ref 350,.int 224 0,.int 0 0,.ref 357,.int 230 0,.int 0 0,.ref 364,.int 232 0,.int 0 0,.ref 371,.int 234 0,.int 0 0,.ref 378,.int 236 0,.int 0 0,.ref 385,.int 238 0,.int 0 0,.ref 392,.int 244 0,.int 0 0,.ref 399,.int 246 0,.int 0 0,.ref 406,.int 248 0,.int 0 0,.ref 414,.int 254 0,.int 0 0,.ref 422,.int 260 0,.int 0 0,.ref 429,.int 265 0,.int 0 0,.ref 436,.int 271 0,.int 0 0,.ref 443,.int 276 0,.int 0 0,.ref 450,.int 282 0,.int 0 0,.ref 457,.int 290 0,.int 0 0,.ref 464,.int 295 0,.int 0 0,.ref 471,.int 301 0,.int 0 0,.ref 478,.int 309 0,.int 0 0,.ref 485,.int 322 0,.int 0 0,.ref 527,.int 333 0,.int 0 0,.ref 560,.int 345 0,.int 0 0,.ref 594,.int 360 0,.int 0 0,.ref 635,.int 388 0,.int 0 0,.ref 688,.int 419 0,.int 0 0,.ref 743,.int 441 0,.int 0 0,.ref 799,.int 451 0,.int 0 0,.ref 806,.int 459 0,.int 0 0,.ref 813,.int 466 0,.int 0 0,.ref 820,.int 470 0,.int 0 0,.ref 827,.int 474 0,.int 0 0,.ref 834,.int 481 0,.int 0 0,.ref 841,.int 483 0,.int 0 0,.ref 848,.int 485 0,.int 0 0,.ref 855,.int 487 0,.int 0 0,.ref 862,.int 491 0,.int 0 0,.ref 869,.int 501 0,.int 0 0,.ref 876,.int 513 0,.int 0 0,.ref 883,.int 529 0,.int 0 0,.ref 890,.int 539 0,.int 0 0,.ref 918,.int 590 0,.int 0 0,.ref 974,.int 598 0,.int 0 0,.ref 979,.int 600 0,.int 0 0,.ref 986,.int 605 0,.int 0 0,.ref 993,.int 612 0,.int 0 0,.ref 1000,.int 616 0,.int 0 0,.ref 1007,.int 621 0,.int 0 0,.ref 1014,.int 629 0,.int 0 0,.ref 1021,.int 632 0,.int 0 0,.ref 1028,.int 640 0,.int 0 0,.ref 1035,.int 645 0,.int 0 0,.ref 1042,.int 651 0,.int 0 0,.ref 1049,.int 667 0,.int 0 0,.ref 1054,.int 675 0,.int 0 0,.ref 1061,.int 685 0,.int 0 0,.ref 1066,.int 694 0,.int 0 0,.ref 1074,.int 703 0,.int 0 0,.ref 1079,.int 707 0,.int 0 0,.ref 1086,.int 748 0,.int 0 0,.ref 1161,.int 752 0,.int 0 0,.ref 1168,.int 760 0,.int 0 0,.ref 1175,.int 773 0,.int 0 0,.ref 1182,.int 778 0,.int 0 0,.ref 1189,.int 783 0,.int 0 0,.ref 1196,.int 790 0,.int 0 0,.ref 1203,.int 808 0,.int 0 0,.ref 1210,.int 814 0,.int 0 0,.ref 1217,.int 816 0,.int 0 0,.ref 1224,.int 832 0,.int 0 0,.ref 1231,.int 834 0,.int 0 0,.ref 1236,.int 857 0,.int 0 0,.ref 1243]
noncomputable def Jk(P:Params):List DictEntry:=[dE P "type.__subclasses__.Exception.0" 230 (.int 46 0),dE P "type.__subclasses__.Exception.n" 231 (.int 1 0)]
noncomputable def g1(P:Params):List Obj:=fG (st 0) "_wall" (ar "__main__" 164) .none 1 1 3 15 187 ["k"] []++([tO [.type "Exception"],jA [.builtin "type.__prepare__",.type "type"],dO (.type "dict") 6 [dE P "__module__" 203 (ar "octetmint.basics" 194),dE P "__qualname__" 205 (ar "MintError" 204),dE P "__firstlineno__" 207 (.int 5 206),dE P "__init__" 216 (.ref 36),dE P "told" 223 (.ref 43),dE P "__static_attributes__" 226 (.ref 44)],tO [],fO [.int 7 0,.int 4 0,.ref 35,.int 12 0,.int 4 0,.ref 42],cO [ar "MintError" 198,ar "MintError" 199,ar "/claim/cut.py" 200,.int 5 0,.int 0 0,.int 0 0,.int 0 0,.int 0 0,.ref 25,.bool false,.int 181 0,.ref 26,.none,.none,.none,.none,.int 201 0,.int 5 0,ar "/claim/cut.py" 202],rO [some (.ref 27),some (.ref 3),some (.ref 24),none,some (ar "octetmint.basics" 194),none,some (.ref 0)],tO [.none]]++(fG (sm 2 0) "MintError.__init__" (ar "octetmint.basics" 194) (.ref 29) 7 3 3 30 208 ["self","what","at"] []++(fG (sm 2 1) "MintError.told" (ar "octetmint.basics" 194) .none 12 1 3 37 217 ["self"] []++([tO [ar "at" 224,ar "what" 225],dO (.type "dict") 3 [dE P "__module__" 203 (ar "octetmint.basics" 194),dE P "__firstlineno__" 207 (.int 5 206),dE P "__init__" 216 (.ref 36),dE P "told" 223 (.ref 43),dE P "__static_attributes__" 226 (.ref 44),dE P "__weakref__" 228 (.ref 47),dE P "__doc__" 229 .none],kO "MintError" [.type "Exception"] [.ref 46,.type "Exception",.type "BaseException",.type "object"] 45 [.ref 59,.ref 71,.ref 83] [some (.ref 22),none,some (ar "MintError" 196),some (ar "MintError" 204),some (.builtin "Exception.__new__"),some (.bool true)],gO [ar "__weakref__" 227,.ref 46,.builtin "ExceptionGroup.__weakref__",.none],uO [.ref 46,.ref 46,.ref 46],jA [.builtin "object.__init_subclass__",.ref 46],tO [.ref 46],jA [.builtin "type.__prepare__",.type "type"],dO (.type "dict") 4 [dE P "__module__" 241 (ar "octetmint.basics" 194),dE P "__qualname__" 243 (ar "OperandError" 242),dE P "__firstlineno__" 245 (.int 16 244),dE P "__static_attributes__" 246 (.ref 57)],tO [],fO [],cO [ar "OperandError" 236,ar "OperandError" 237,ar "/claim/cut.py" 238,.int 16 0,.int 0 0,.int 0 0,.int 0 0,.int 0 0,.ref 53,.bool false,.int 181 0,.ref 54,.none,.none,.none,.none,.int 239 0,.int 16 0,ar "/claim/cut.py" 240],rO [some (.ref 55),some (.ref 3),some (.ref 52),none,some (ar "octetmint.basics" 194),none,some (.ref 0)],tO [],dO (.type "dict") 2 [dE P "__module__" 241 (ar "octetmint.basics" 194),dE P "__firstlineno__" 245 (.int 16 244),dE P "__static_attributes__" 246 (.ref 57),dE P "__doc__" 247 .none],kO "OperandError" [.ref 46] [.ref 59,.ref 46,.type "Exception",.type "BaseException",.type "object"] 58 [] [some (.ref 50),none,some (ar "OperandError" 234),some (ar "OperandError" 242),some (.builtin "Exception.__new__"),some (.bool true)],uO [.ref 59,.ref 59,.ref 59],jA [.builtin "object.__init_subclass__",.ref 59],tO [.ref 46],jA [.builtin "type.__prepare__",.type "type"],dO (.type "dict") 4 [dE P "__module__" 257 (ar "octetmint.basics" 194),dE P "__qualname__" 259 (ar "EncodeError" 258),dE P "__firstlineno__" 261 (.int 18 260),dE P "__static_attributes__" 262 (.ref 69)],tO [],fO [],cO [ar "EncodeError" 252,ar "EncodeError" 253,ar "/claim/cut.py" 254,.int 18 0,.int 0 0,.int 0 0,.int 0 0,.int 0 0,.ref 65,.bool false,.int 181 0,.ref 66,.none,.none,.none,.none,.int 255 0,.int 18 0,ar "/claim/cut.py" 256],rO [some (.ref 67),some (.ref 3),some (.ref 64),none,some (ar "octetmint.basics" 194),none,some (.ref 0)],tO [],dO (.type "dict") 2 [dE P "__module__" 257 (ar "octetmint.basics" 194),dE P "__firstlineno__" 261 (.int 18 260),dE P "__static_attributes__" 262 (.ref 69),dE P "__doc__" 263 .none],kO "EncodeError" [.ref 46] [.ref 71,.ref 46,.type "Exception",.type "BaseException",.type "object"] 70 [] [some (.ref 62),none,some (ar "EncodeError" 250),some (ar "EncodeError" 258),some (.builtin "Exception.__new__"),some (.bool true)],uO [.ref 71,.ref 71,.ref 71],jA [.builtin "object.__init_subclass__",.ref 71],tO [.ref 46],jA [.builtin "type.__prepare__",.type "type"],dO (.type "dict") 4 [dE P "__module__" 273 (ar "octetmint.basics" 194),dE P "__qualname__" 275 (ar "DecodeError" 274),dE P "__firstlineno__" 277 (.int 20 276),dE P "__static_attributes__" 278 (.ref 81)],tO [],fO [],cO [ar "DecodeError" 268,ar "DecodeError" 269,ar "/claim/cut.py" 270,.int 20 0,.int 0 0,.int 0 0,.int 0 0,.int 0 0,.ref 77,.bool false,.int 181 0,.ref 78,.none,.none,.none,.none,.int 271 0,.int 20 0,ar "/claim/cut.py" 272],rO [some (.ref 79),some (.ref 3),some (.ref 76),none,some (ar "octetmint.basics" 194),none,some (.ref 0)],tO [],dO (.type "dict") 2 [dE P "__module__" 273 (ar "octetmint.basics" 194),dE P "__firstlineno__" 277 (.int 20 276),dE P "__static_attributes__" 278 (.ref 81),dE P "__doc__" 279 .none],kO "DecodeError" [.ref 46] [.ref 83,.ref 46,.type "Exception",.type "BaseException",.type "object"] 82 [] [some (.ref 74),none,some (ar "DecodeError" 266),some (ar "DecodeError" 274),some (.builtin "Exception.__new__"),some (.bool true)],uO [.ref 83,.ref 83,.ref 83],jA [.builtin "object.__init_subclass__",.ref 83]]++(fG (st 6) "mask" (ar "octetmint.basics" 194) .none 22 1 3 86 282 ["size"] []++(fG (st 7) "wrap" (ar "octetmint.basics" 194) .none 24 2 3 93 289 ["worth","size"] []++(fG (st 8) "signed" (ar "octetmint.basics" 194) .none 26 2 3 100 297 ["worth","size","low"] []++(fG (st 9) "from_little" (ar "octetmint.basics" 194) .none 31 1 3 107 306 ["octets","worth","shift","octet"] []++(fG (st 10) "from_little_signed" (ar "octetmint.basics" 194) .none 38 1 3 114 316 ["octets"] []++(fG (st 19) "rex_octet" (ar "octetmint.prefixes" 323) .none 50 4 3 121 339 ["w","r","x","b","bit"] []++(fG (st 20) "rex_bits" (ar "octetmint.prefixes" 323) .none 55 1 3 128 350 ["octet"] []++(fG (st 21) "is_rex" (ar "octetmint.prefixes" 323) .none 59 1 3 135 357 ["octet"] []++(fG (st 22) "segment_octet" (ar "octetmint.prefixes" 323) .none 61 1 3 142 364 ["segment"] []++(fG (st 23) "sort_of" (ar "octetmint.prefixes" 323) .none 67 1 3 149 371 ["octet"] []++([tO [],jA [.builtin "type.__prepare__",.type "type"],dO (.type "dict") 10 [dE P "__module__" 385 (ar "octetmint.prefixes" 323),dE P "__qualname__" 387 (ar "Prefixes" 386),dE P "__firstlineno__" 389 (.int 77 388),dE P "__init__" 405 (.ref 170),dE P "told" 412 (.ref 177),dE P "has_rex" 419 (.ref 184),dE P "bits" 426 (.ref 191),dE P "count" 433 (.ref 198),dE P "octets" 441 (.ref 205),dE P "__static_attributes__" 447 (.ref 206)],tO [],fO [.int 79 0,.int 4 0,.ref 169,.int 86 0,.int 4 0,.ref 176,.int 89 0,.int 4 0,.ref 183,.int 92 0,.int 4 0,.ref 190,.int 95 0,.int 4 0,.ref 197,.int 98 0,.int 4 0,.ref 204],cO [ar "Prefixes" 380,ar "Prefixes" 381,ar "/claim/cut.py" 382,.int 77 0,.int 0 0,.int 0 0,.int 0 0,.int 0 0,.ref 159,.bool false,.int 181 0,.ref 160,.none,.none,.none,.none,.int 383 0,.int 77 0,ar "/claim/cut.py" 384],rO [some (.ref 161),some (.ref 3),some (.ref 158),none,some (ar "octetmint.prefixes" 323),none,some (.ref 0)],tO [ar "" 390,.bool false,.int 0 391,.bool false,.int (-1) 393]]++(fG (sm 24 0) "Prefixes.__init__" (ar "octetmint.prefixes" 323) (.ref 163) 79 6 3 164 394 ["self","segment","is_data","repeat","is_lock","rex"] []++(fG (sm 24 1) "Prefixes.told" (ar "octetmint.prefixes" 323) .none 86 1 3 171 406 ["self"] []++(fG (sm 24 2) "Prefixes.has_rex" (ar "octetmint.prefixes" 323) .none 89 1 3 178 413 ["self"] []++(fG (sm 24 3) "Prefixes.bits" (ar "octetmint.prefixes" 323) .none 92 1 3 185 420 ["self"] []++(fG (sm 24 4) "Prefixes.count" (ar "octetmint.prefixes" 323) .none 95 1 3 192 427 ["self"] []++(fG (sm 24 5) "Prefixes.octets" (ar "octetmint.prefixes" 323) .none 98 1 3 199 434 ["self","found"] []++([tO [ar "is_data" 442,ar "is_lock" 443,ar "repeat" 444,ar "rex" 445,ar "segment" 446],dO (.type "dict") 4 [dE P "__module__" 385 (ar "octetmint.prefixes" 323),dE P "__firstlineno__" 389 (.int 77 388),dE P "__init__" 405 (.ref 170),dE P "told" 412 (.ref 177),dE P "has_rex" 419 (.ref 184),dE P "bits" 426 (.ref 191),dE P "count" 433 (.ref 198),dE P "octets" 441 (.ref 205),dE P "__static_attributes__" 447 (.ref 206),dE P "__dict__" 449 (.ref 209),dE P "__weakref__" 451 (.ref 210),dE P "__doc__" 452 .none],kO "Prefixes" [.type "object"] [.ref 208,.type "object"] 207 [] [none,none,some (ar "Prefixes" 378),some (ar "Prefixes" 386),some (.builtin "object.__new__"),some (.bool true)],gO [ar "__dict__" 448,.ref 208,.builtin "function.__dict__",.builtin "function.__dict__#set"],gO [ar "__weakref__" 450,.ref 208,.builtin "ExceptionGroup.__weakref__",.none],uO [.ref 208,.ref 208,.ref 208],jA [.builtin "object.__init_subclass__",.ref 208]]++(fG (st 25) "with_rex" (ar "octetmint.prefixes" 323) .none 117 2 3 213 455 ["prefixes","rex"] []++(fG (st 26) "with_legacy" (ar "octetmint.prefixes" 323) .none 119 2 3 220 463 ["prefixes","octet","sort","segment"] []++(fG (st 27) "read_prefixes" (ar "octetmint.prefixes" 323) .none 141 2 3 227 473 ["octets","at","found","octet"] [])))))))))))))))))))))))))
noncomputable def g2(P:Params):List Obj:=fG (st 32) "is_fixed" (ar "octetmint.forms" 483) .none 159 1 3 234 491 ["kind"] []++(fG (st 33) "is_immediate" (ar "octetmint.forms" 483) .none 161 1 3 241 498 ["kind"] []++(fG (st 34) "is_relative" (ar "octetmint.forms" 483) .none 163 1 3 248 505 ["kind"] []++(fG (st 35) "takes_memory" (ar "octetmint.forms" 483) .none 165 1 3 255 512 ["kind"] []++(fG (st 36) "kind_size" (ar "octetmint.forms" 483) .none 167 1 3 262 519 ["kind"] []++(fG (st 37) "kind_width" (ar "octetmint.forms" 483) .none 175 1 3 269 526 ["kind"] []++(fG (st 38) "slot_of" (ar "octetmint.forms" 483) .none 181 1 3 276 533 ["kind"] []++([tO [],jA [.builtin "type.__prepare__",.type "type"],dO (.type "dict") 11 [dE P "__module__" 547 (ar "octetmint.forms" 483),dE P "__qualname__" 549 (ar "Form" 548),dE P "__firstlineno__" 551 (.int 191 550),dE P "__init__" 562 (.ref 295),dE P "told" 569 (.ref 302),dE P "slots" 576 (.ref 309),dE P "has_modrm" 583 (.ref 316),dE P "has_plus" 590 (.ref 323),dE P "memory_size" 597 (.ref 330),dE P "needs_memory" 604 (.ref 337),dE P "__static_attributes__" 615 (.ref 338)],tO [],fO [.int 193 0,.int 4 0,.ref 294,.int 205 0,.int 4 0,.ref 301,.int 208 0,.int 4 0,.ref 308,.int 211 0,.int 4 0,.ref 315,.int 214 0,.int 4 0,.ref 322,.int 217 0,.int 4 0,.ref 329,.int 220 0,.int 4 0,.ref 336],cO [ar "Form" 542,ar "Form" 543,ar "/claim/cut.py" 544,.int 191 0,.int 0 0,.int 0 0,.int 0 0,.int 0 0,.ref 286,.bool false,.int 181 0,.ref 287,.none,.none,.none,.none,.int 545 0,.int 191 0,ar "/claim/cut.py" 546],rO [some (.ref 288),some (.ref 3),some (.ref 285),none,some (ar "octetmint.forms" 483),none,some (.ref 0)],tO [.int 0 552,.int (-1) 554,.int 0 555,.int 0 556,.bool false]]++(fH (sm 39 0) "Form.__init__" (ar "octetmint.forms" 483) (.ref 290) 193 9 3 291 557++(fG (sm 39 1) "Form.told" (ar "octetmint.forms" 483) .none 205 1 3 296 563 ["self"] []++(fG (sm 39 2) "Form.slots" (ar "octetmint.forms" 483) .none 208 1 3 303 570 ["self"] []++(fG (sm 39 3) "Form.has_modrm" (ar "octetmint.forms" 483) .none 211 1 3 310 577 ["self"] []++(fG (sm 39 4) "Form.has_plus" (ar "octetmint.forms" 483) .none 214 1 3 317 584 ["self"] []++(fG (sm 39 5) "Form.memory_size" (ar "octetmint.forms" 483) .none 217 1 3 324 591 ["self"] []++(fG (sm 39 6) "Form.needs_memory" (ar "octetmint.forms" 483) .none 220 1 3 331 598 ["self"] []++([tO [ar "digit" 605,ar "escape" 606,ar "is_wide" 607,ar "kinds" 608,ar "must" 609,ar "name" 610,ar "number" 611,ar "opcode" 612,ar "places" 613,ar "size" 614],dO (.type "dict") 4 [dE P "__module__" 547 (ar "octetmint.forms" 483),dE P "__firstlineno__" 551 (.int 191 550),dE P "__init__" 562 (.ref 295),dE P "told" 569 (.ref 302),dE P "slots" 576 (.ref 309),dE P "has_modrm" 583 (.ref 316),dE P "has_plus" 590 (.ref 323),dE P "memory_size" 597 (.ref 330),dE P "needs_memory" 604 (.ref 337),dE P "__static_attributes__" 615 (.ref 338),dE P "__dict__" 617 (.ref 341),dE P "__weakref__" 619 (.ref 342),dE P "__doc__" 620 .none],kO "Form" [.type "object"] [.ref 340,.type "object"] 339 [] [none,none,some (ar "Form" 540),some (ar "Form" 548),some (.builtin "object.__new__"),some (.bool true)],gO [ar "__dict__" 616,.ref 340,.builtin "function.__dict__",.builtin "function.__dict__#set"],gO [ar "__weakref__" 618,.ref 340,.builtin "ExceptionGroup.__weakref__",.none],uO [.ref 340,.ref 340,.ref 340],jA [.builtin "object.__init_subclass__",.ref 340]]++(fG (st 40) "can_lock" (ar "octetmint.forms" 483) .none 222 1 3 345 623 ["form"] []++(fG (st 41) "repeats" (ar "octetmint.forms" 483) .none 224 1 3 352 630 ["name"] []++(fG (st 44) "fold_names" (ar "octetmint.arith" 637) .none 230 0 3 359 641 [] []++(fG (st 45) "wide_sizes" (ar "octetmint.arith" 637) .none 232 0 3 366 647 [] []++(fG (st 46) "every_size" (ar "octetmint.arith" 637) .none 234 0 3 373 653 [] []++(fG (st 47) "kind_of" (ar "octetmint.arith" 637) .none 236 2 3 380 659 ["stem","size"] []++(fG (st 48) "accumulator" (ar "octetmint.arith" 637) .none 238 1 3 387 667 ["size"] []++(fG (st 49) "whole_immediate" (ar "octetmint.arith" 637) .none 244 1 3 394 674 ["size"] []++(fG (st 50) "paired" (ar "octetmint.arith" 637) .none 246 2 3 401 681 ["opcode","size"] []++([tO [.int 0 689]]++(fG (st 51) "store_forms" (ar "octetmint.arith" 637) (.ref 408) 248 3 3 409 690 ["name","opcode","escape","found","size","kinds"] []++([tO [.int 0 702]]++(fG (st 52) "load_forms" (ar "octetmint.arith" 637) (.ref 416) 254 3 3 417 703 ["name","opcode","escape","found","size","kinds"] []++(fG (st 53) "group_forms" (ar "octetmint.arith" 637) .none 260 3 3 424 715 ["name","opcode","digit","found","size"] []++(fG (st 54) "immediate_forms" (ar "octetmint.arith" 637) .none 265 3 3 431 726 ["name","opcode","digit","found","size","kinds"] []++(fG (st 55) "short_forms" (ar "octetmint.arith" 637) .none 271 3 3 438 738 ["name","opcode","digit","found","size"] []++(fG (st 56) "accumulator_forms" (ar "octetmint.arith" 637) .none 276 2 3 445 749 ["name","opcode","found","size","kinds"] []++(fG (st 57) "fold_forms" (ar "octetmint.arith" 637) .none 282 2 3 452 760 ["name","digit","base","found"] []++(fG (st 58) "test_forms" (ar "octetmint.arith" 637) .none 290 0 3 459 770 ["found"] []++(fG (st 59) "single_forms" (ar "octetmint.arith" 637) .none 295 0 3 466 777 ["found"] []++(fG (st 60) "arith_forms" (ar "octetmint.arith" 637) .none 301 0 3 473 784 ["found","digit","name"] []++([tO [],jA [.builtin "type.__prepare__",.type "type"],dO (.type "dict") 8 [dE P "__module__" 802 (ar "octetmint.operands" 793),dE P "__qualname__" 804 (ar "Operand" 803),dE P "__firstlineno__" 806 (.int 309 805),dE P "__init__" 814 (.ref 493),dE P "told" 821 (.ref 500),dE P "symbol" 828 (.ref 507),dE P "registers" 835 (.ref 514),dE P "__static_attributes__" 837 (.ref 515)],tO [],fO [.int 311 0,.int 4 0,.ref 492,.int 314 0,.int 4 0,.ref 499,.int 317 0,.int 4 0,.ref 506,.int 320 0,.int 4 0,.ref 513],cO [ar "Operand" 797,ar "Operand" 798,ar "/claim/cut.py" 799,.int 309 0,.int 0 0,.int 0 0,.int 0 0,.int 0 0,.ref 483,.bool false,.int 181 0,.ref 484,.none,.none,.none,.none,.int 800 0,.int 309 0,ar "/claim/cut.py" 801],rO [some (.ref 485),some (.ref 3),some (.ref 482),none,some (ar "octetmint.operands" 793),none,some (.ref 0)]]++(fG (sm 62 0) "Operand.__init__" (ar "octetmint.operands" 793) .none 311 2 3 487 807 ["self","kind"] []++(fG (sm 62 1) "Operand.told" (ar "octetmint.operands" 793) .none 314 1 3 494 815 ["self"] []++(fG (sm 62 2) "Operand.symbol" (ar "octetmint.operands" 793) .none 317 1 3 501 822 ["self"] []++(fG (sm 62 3) "Operand.registers" (ar "octetmint.operands" 793) .none 320 1 3 508 829 ["self"] []++([tO [ar "kind" 836],dO (.type "dict") 4 [dE P "__module__" 802 (ar "octetmint.operands" 793),dE P "__firstlineno__" 806 (.int 309 805),dE P "__init__" 814 (.ref 493),dE P "told" 821 (.ref 500),dE P "symbol" 828 (.ref 507),dE P "registers" 835 (.ref 514),dE P "__static_attributes__" 837 (.ref 515),dE P "__dict__" 839 (.ref 518),dE P "__weakref__" 841 (.ref 519),dE P "__doc__" 842 .none],(QG [.ref 552,.ref 586,.ref 627,.ref 680]),gO [ar "__dict__" 838,.ref 517,.builtin "function.__dict__",.builtin "function.__dict__#set"],gO [ar "__weakref__" 840,.ref 517,.builtin "ExceptionGroup.__weakref__",.none],uO [.ref 517,.ref 517,.ref 517],jA [.builtin "object.__init_subclass__",.ref 517],tO [.ref 517],jA [.builtin "type.__prepare__",.type "type"],dO (.type "dict") 7 [dE P "__module__" 852 (ar "octetmint.operands" 793),dE P "__qualname__" 854 (ar "Reg" 853),dE P "__firstlineno__" 856 (.int 322 855),dE P "__init__" 864 (.ref 535),dE P "told" 871 (.ref 542),dE P "registers" 878 (.ref 549),dE P "__static_attributes__" 880 (.ref 550)],tO [],fO [.int 324 0,.int 4 0,.ref 534,.int 328 0,.int 4 0,.ref 541,.int 331 0,.int 4 0,.ref 548],cO [ar "Reg" 847,ar "Reg" 848,ar "/claim/cut.py" 849,.int 322 0,.int 0 0,.int 0 0,.int 0 0,.int 0 0,.ref 525,.bool false,.int 181 0,.ref 526,.none,.none,.none,.none,.int 850 0,.int 322 0,ar "/claim/cut.py" 851],rO [some (.ref 527),some (.ref 3),some (.ref 524),none,some (ar "octetmint.operands" 793),none,some (.ref 0)]]++(fG (sm 63 0) "Reg.__init__" (ar "octetmint.operands" 793) .none 324 2 3 529 857 ["self","register"] []++(fG (sm 63 1) "Reg.told" (ar "octetmint.operands" 793) .none 328 1 3 536 865 ["self"] []++(fG (sm 63 2) "Reg.registers" (ar "octetmint.operands" 793) .none 331 1 3 543 872 ["self"] []++([tO [ar "register" 879],dO (.type "dict") 2 [dE P "__module__" 852 (ar "octetmint.operands" 793),dE P "__firstlineno__" 856 (.int 322 855),dE P "__init__" 864 (.ref 535),dE P "told" 871 (.ref 542),dE P "registers" 878 (.ref 549),dE P "__static_attributes__" 880 (.ref 550),dE P "__doc__" 881 .none],kO "Reg" [.ref 517] [.ref 552,.ref 517,.type "object"] 551 [] [some (.ref 522),none,some (ar "Reg" 845),some (ar "Reg" 853),some (.builtin "object.__new__"),some (.bool true)],uO [.ref 552,.ref 552,.ref 552],jA [.builtin "object.__init_subclass__",.ref 552],tO [.ref 517],jA [.builtin "type.__prepare__",.type "type"],dO (.type "dict") 7 [dE P "__module__" 891 (ar "octetmint.operands" 793),dE P "__qualname__" 893 (ar "Imm" 892),dE P "__firstlineno__" 895 (.int 333 894),dE P "__init__" 905 (.ref 569),dE P "told" 912 (.ref 576),dE P "symbol" 919 (.ref 583),dE P "__static_attributes__" 922 (.ref 584)],tO [],fO [.int 335 0,.int 4 0,.ref 568,.int 340 0,.int 4 0,.ref 575,.int 343 0,.int 4 0,.ref 582],cO [ar "Imm" 886,ar "Imm" 887,ar "/claim/cut.py" 888,.int 333 0,.int 0 0,.int 0 0,.int 0 0,.int 0 0,.ref 558,.bool false,.int 181 0,.ref 559,.none,.none,.none,.none,.int 889 0,.int 333 0,ar "/claim/cut.py" 890],rO [some (.ref 560),some (.ref 3),some (.ref 557),none,some (ar "octetmint.operands" 793),none,some (.ref 0)],tO [ar "" 896]]++(fG (sm 64 0) "Imm.__init__" (ar "octetmint.operands" 793) (.ref 562) 335 3 3 563 897 ["self","worth","name"] []++(fG (sm 64 1) "Imm.told" (ar "octetmint.operands" 793) .none 340 1 3 570 906 ["self"] []++(fG (sm 64 2) "Imm.symbol" (ar "octetmint.operands" 793) .none 343 1 3 577 913 ["self"] []++([tO [ar "name" 920,ar "worth" 921],dO (.type "dict") 2 [dE P "__module__" 891 (ar "octetmint.operands" 793),dE P "__firstlineno__" 895 (.int 333 894),dE P "__init__" 905 (.ref 569),dE P "told" 912 (.ref 576),dE P "symbol" 919 (.ref 583),dE P "__static_attributes__" 922 (.ref 584),dE P "__doc__" 923 .none],kO "Imm" [.ref 517] [.ref 586,.ref 517,.type "object"] 585 [] [some (.ref 555),none,some (ar "Imm" 884),some (ar "Imm" 892),some (.builtin "object.__new__"),some (.bool true)],uO [.ref 586,.ref 586,.ref 586],jA [.builtin "object.__init_subclass__",.ref 586]]))))))))))))))))))))))))))))))))))))))))))))))))))
noncomputable def g3(P:Params):List Obj:=[tO [.ref 517],jA [.builtin "type.__prepare__",.type "type"],dO (.type "dict") 8 [dE P "__module__" 933 (ar "octetmint.operands" 793),dE P "__qualname__" 935 (ar "Rel" 934),dE P "__firstlineno__" 937 (.int 345 936),dE P "__init__" 947 (.ref 603),dE P "told" 954 (.ref 610),dE P "symbol" 961 (.ref 617),dE P "target" 969 (.ref 624),dE P "__static_attributes__" 972 (.ref 625)],tO [],fO [.int 347 0,.int 4 0,.ref 602,.int 352 0,.int 4 0,.ref 609,.int 355 0,.int 4 0,.ref 616,.int 358 0,.int 4 0,.ref 623],cO [ar "Rel" 928,ar "Rel" 929,ar "/claim/cut.py" 930,.int 345 0,.int 0 0,.int 0 0,.int 0 0,.int 0 0,.ref 592,.bool false,.int 181 0,.ref 593,.none,.none,.none,.none,.int 931 0,.int 345 0,ar "/claim/cut.py" 932],rO [some (.ref 594),some (.ref 3),some (.ref 591),none,some (ar "octetmint.operands" 793),none,some (.ref 0)],tO [ar "" 938]]++(fG (sm 65 0) "Rel.__init__" (ar "octetmint.operands" 793) (.ref 596) 347 3 3 597 939 ["self","worth","name"] []++(fG (sm 65 1) "Rel.told" (ar "octetmint.operands" 793) .none 352 1 3 604 948 ["self"] []++(fG (sm 65 2) "Rel.symbol" (ar "octetmint.operands" 793) .none 355 1 3 611 955 ["self"] []++(fG (sm 65 3) "Rel.target" (ar "octetmint.operands" 793) .none 358 2 3 618 962 ["self","behind"] []++([tO [ar "name" 970,ar "worth" 971],dO (.type "dict") 2 [dE P "__module__" 933 (ar "octetmint.operands" 793),dE P "__firstlineno__" 937 (.int 345 936),dE P "__init__" 947 (.ref 603),dE P "told" 954 (.ref 610),dE P "symbol" 961 (.ref 617),dE P "target" 969 (.ref 624),dE P "__static_attributes__" 972 (.ref 625),dE P "__doc__" 973 .none],kO "Rel" [.ref 517] [.ref 627,.ref 517,.type "object"] 626 [] [some (.ref 589),none,some (ar "Rel" 926),some (ar "Rel" 934),some (.builtin "object.__new__"),some (.bool true)],uO [.ref 627,.ref 627,.ref 627],jA [.builtin "object.__init_subclass__",.ref 627],tO [.ref 517],jA [.builtin "type.__prepare__",.type "type"],dO (.type "dict") 10 [dE P "__module__" 983 (ar "octetmint.operands" 793),dE P "__qualname__" 985 (ar "Mem" 984),dE P "__firstlineno__" 987 (.int 360 986),dE P "__init__" 1004 (.ref 644),dE P "told" 1013 (.ref 651),dE P "symbol" 1020 (.ref 658),dE P "registers" 1026 (.ref 663),dE P "is_rip" 1033 (.ref 670),dE P "is_absolute" 1040 (.ref 677),dE P "__static_attributes__" 1048 (.ref 678)],tO [],fO [.int 362 0,.int 4 0,.ref 643,.int 372 0,.int 4 0,.ref 650,.int 377 0,.int 4 0,.ref 657,.int 380 0,.int 4 0,.ref 662,.int 383 0,.int 4 0,.ref 669,.int 386 0,.int 4 0,.ref 676],cO [ar "Mem" 978,ar "Mem" 979,ar "/claim/cut.py" 980,.int 360 0,.int 0 0,.int 0 0,.int 0 0,.int 0 0,.ref 633,.bool false,.int 181 0,.ref 634,.none,.none,.none,.none,.int 981 0,.int 360 0,ar "/claim/cut.py" 982],rO [some (.ref 635),some (.ref 3),some (.ref 632),none,some (ar "octetmint.operands" 793),none,some (.ref 0)],tO [.int 0 988,ar "" 989,ar "" 990]]++(fG (sm 66 0) "Mem.__init__" (ar "octetmint.operands" 793) (.ref 637) 362 8 3 638 991 ["self","base","index","scale","worth","size","segment","name"] []++(fG (sm 66 1) "Mem.told" (ar "octetmint.operands" 793) .none 372 1 3 645 1005 ["self","base","index"] []++(fG (sm 66 2) "Mem.symbol" (ar "octetmint.operands" 793) .none 377 1 3 652 1014 ["self"] []++(fH (sm 66 3) "Mem.registers" (ar "octetmint.operands" 793) .none 380 1 3 659 1021++(fG (sm 66 4) "Mem.is_rip" (ar "octetmint.operands" 793) .none 383 1 3 664 1027 ["self"] []++(fG (sm 66 5) "Mem.is_absolute" (ar "octetmint.operands" 793) .none 386 1 3 671 1034 ["self"] []++([tO [ar "base" 1041,ar "index" 1042,ar "name" 1043,ar "scale" 1044,ar "segment" 1045,ar "size" 1046,ar "worth" 1047],dO (.type "dict") 2 [dE P "__module__" 983 (ar "octetmint.operands" 793),dE P "__firstlineno__" 987 (.int 360 986),dE P "__init__" 1004 (.ref 644),dE P "told" 1013 (.ref 651),dE P "symbol" 1020 (.ref 658),dE P "registers" 1026 (.ref 663),dE P "is_rip" 1033 (.ref 670),dE P "is_absolute" 1040 (.ref 677),dE P "__static_attributes__" 1048 (.ref 678),dE P "__doc__" 1049 .none],kO "Mem" [.ref 517] [.ref 680,.ref 517,.type "object"] 679 [] [some (.ref 630),none,some (ar "Mem" 976),some (ar "Mem" 984),some (.builtin "object.__new__"),some (.bool true)],uO [.ref 680,.ref 680,.ref 680],jA [.builtin "object.__init_subclass__",.ref 680],tO [],jA [.builtin "type.__prepare__",.type "type"],dO (.type "dict") 10 [dE P "__module__" 1059 (ar "octetmint.operands" 793),dE P "__qualname__" 1061 (ar "Instruction" 1060),dE P "__firstlineno__" 1063 (.int 388 1062),dE P "__init__" 1074 (.ref 697),dE P "told" 1080 (.ref 702),dE P "memory_at" 1089 (.ref 709),dE P "memory" 1097 (.ref 716),dE P "symbols" 1104 (.ref 723),dE P "replaced" 1113 (.ref 730),dE P "__static_attributes__" 1117 (.ref 731)],tO [],fO [.int 390 0,.int 4 0,.ref 696,.int 395 0,.int 4 0,.ref 701,.int 398 0,.int 4 0,.ref 708,.int 404 0,.int 4 0,.ref 715,.int 408 0,.int 4 0,.ref 722,.int 411 0,.int 4 0,.ref 729],cO [ar "Instruction" 1054,ar "Instruction" 1055,ar "/claim/cut.py" 1056,.int 388 0,.int 0 0,.int 0 0,.int 0 0,.int 0 0,.ref 686,.bool false,.int 181 0,.ref 687,.none,.none,.none,.none,.int 1057 0,.int 388 0,ar "/claim/cut.py" 1058],rO [some (.ref 688),some (.ref 3),some (.ref 685),none,some (ar "octetmint.operands" 793),none,some (.ref 0)],tO [ar "" 1064]]++(fG (sm 67 0) "Instruction.__init__" (ar "octetmint.operands" 793) (.ref 690) 390 4 3 691 1065 ["self","name","operands","prefix"] []++(fH (sm 67 1) "Instruction.told" (ar "octetmint.operands" 793) .none 395 1 3 698 1075++(fG (sm 67 2) "Instruction.memory_at" (ar "octetmint.operands" 793) .none 398 1 3 703 1081 ["self","at","operand"] []++(fG (sm 67 3) "Instruction.memory" (ar "octetmint.operands" 793) .none 404 1 3 710 1090 ["self","at"] []++(fG (sm 67 4) "Instruction.symbols" (ar "octetmint.operands" 793) .none 408 1 3 717 1098 ["self"] []++(fG (sm 67 5) "Instruction.replaced" (ar "octetmint.operands" 793) .none 411 3 3 724 1105 ["self","at","operand"] []++([tO [ar "name" 1114,ar "operands" 1115,ar "prefix" 1116],dO (.type "dict") 4 [dE P "__module__" 1059 (ar "octetmint.operands" 793),dE P "__firstlineno__" 1063 (.int 388 1062),dE P "__init__" 1074 (.ref 697),dE P "told" 1080 (.ref 702),dE P "memory_at" 1089 (.ref 709),dE P "memory" 1097 (.ref 716),dE P "symbols" 1104 (.ref 723),dE P "replaced" 1113 (.ref 730),dE P "__static_attributes__" 1117 (.ref 731),dE P "__dict__" 1119 (.ref 734),dE P "__weakref__" 1121 (.ref 735),dE P "__doc__" 1122 .none],kO "Instruction" [.type "object"] [.ref 733,.type "object"] 732 [] [none,none,some (ar "Instruction" 1052),some (ar "Instruction" 1060),some (.builtin "object.__new__"),some (.bool true)],gO [ar "__dict__" 1118,.ref 733,.builtin "function.__dict__",.builtin "function.__dict__#set"],gO [ar "__weakref__" 1120,.ref 733,.builtin "ExceptionGroup.__weakref__",.none],uO [.ref 733,.ref 733,.ref 733],jA [.builtin "object.__init_subclass__",.ref 733],tO [],jA [.builtin "type.__prepare__",.type "type"],dO (.type "dict") 10 [dE P "__module__" 1144 (ar "octetmint.registers" 1125),dE P "__qualname__" 1146 (ar "Register" 1145),dE P "__firstlineno__" 1148 (.int 419 1147),dE P "__init__" 1159 (.ref 751),dE P "code" 1166 (.ref 758),dE P "is_extended" 1173 (.ref 765),dE P "is_high" 1180 (.ref 772),dE P "needs_rex" 1187 (.ref 779),dE P "told" 1194 (.ref 786),dE P "__static_attributes__" 1199 (.ref 787)],tO [],fO [.int 421 0,.int 4 0,.ref 750,.int 427 0,.int 4 0,.ref 757,.int 430 0,.int 4 0,.ref 764,.int 433 0,.int 4 0,.ref 771,.int 436 0,.int 4 0,.ref 778,.int 439 0,.int 4 0,.ref 785],cO [ar "Register" 1139,ar "Register" 1140,ar "/claim/cut.py" 1141,.int 419 0,.int 0 0,.int 0 0,.int 0 0,.int 0 0,.ref 741,.bool false,.int 181 0,.ref 742,.none,.none,.none,.none,.int 1142 0,.int 419 0,ar "/claim/cut.py" 1143],rO [some (.ref 743),some (.ref 3),some (.ref 740),none,some (ar "octetmint.registers" 1125),none,some (.ref 0)]]++(fG (sm 74 0) "Register.__init__" (ar "octetmint.registers" 1125) .none 421 5 3 745 1149 ["self","name","kind","number","size"] []++(fG (sm 74 1) "Register.code" (ar "octetmint.registers" 1125) .none 427 1 3 752 1160 ["self"] []++(fG (sm 74 2) "Register.is_extended" (ar "octetmint.registers" 1125) .none 430 1 3 759 1167 ["self"] []++(fG (sm 74 3) "Register.is_high" (ar "octetmint.registers" 1125) .none 433 1 3 766 1174 ["self"] []++(fG (sm 74 4) "Register.needs_rex" (ar "octetmint.registers" 1125) .none 436 1 3 773 1181 ["self"] []++(fG (sm 74 5) "Register.told" (ar "octetmint.registers" 1125) .none 439 1 3 780 1188 ["self"] []++([tO [ar "kind" 1195,ar "name" 1196,ar "number" 1197,ar "size" 1198],dO (.type "dict") 4 [dE P "__module__" 1144 (ar "octetmint.registers" 1125),dE P "__firstlineno__" 1148 (.int 419 1147),dE P "__init__" 1159 (.ref 751),dE P "code" 1166 (.ref 758),dE P "is_extended" 1173 (.ref 765),dE P "is_high" 1180 (.ref 772),dE P "needs_rex" 1187 (.ref 779),dE P "told" 1194 (.ref 786),dE P "__static_attributes__" 1199 (.ref 787),dE P "__dict__" 1201 (.ref 790),dE P "__weakref__" 1203 (.ref 791),dE P "__doc__" 1204 .none],kO "Register" [.type "object"] [.ref 789,.type "object"] 788 [] [none,none,some (ar "Register" 1137),some (ar "Register" 1145),some (.builtin "object.__new__"),some (.bool true)],gO [ar "__dict__" 1200,.ref 789,.builtin "function.__dict__",.builtin "function.__dict__#set"],gO [ar "__weakref__" 1202,.ref 789,.builtin "ExceptionGroup.__weakref__",.none],uO [.ref 789,.ref 789,.ref 789],jA [.builtin "object.__init_subclass__",.ref 789]]++(fG (st 75) "early_names" (ar "octetmint.registers" 1125) .none 441 1 3 794 1207 ["size"] []++(fG (st 76) "late_ending" (ar "octetmint.registers" 1125) .none 451 1 3 801 1214 ["size"] []++(fG (st 77) "gpr" (ar "octetmint.registers" 1125) .none 459 2 3 808 1221 ["number","size","names"] []++(fG (st 78) "high" (ar "octetmint.registers" 1125) .none 466 1 3 815 1230 ["number"] []++(fG (st 79) "xmm" (ar "octetmint.registers" 1125) .none 470 1 3 822 1237 ["number"] []++(fG (st 80) "rip" (ar "octetmint.registers" 1125) .none 474 0 3 829 1244 [] []++(fG (st 86) "unpack_three" (ar "octetmint.modrm" 1250) .none 481 1 3 836 1260 ["octet"] []++(fG (st 87) "unpack_modrm" (ar "octetmint.modrm" 1250) .none 483 1 3 843 1267 ["octet"] []++(fG (st 88) "unpack_sib" (ar "octetmint.modrm" 1250) .none 485 1 3 850 1274 ["octet"] []++(fG (st 89) "octet_at" (ar "octetmint.modrm" 1250) .none 487 2 3 857 1281 ["octets","at"] []++(fG (st 90) "disp_width_of" (ar "octetmint.modrm" 1250) .none 491 3 3 864 1289 ["mod","rm","sib"] []++(fG (st 91) "read_modrm" (ar "octetmint.modrm" 1250) .none 501 2 3 871 1298 ["octets","at","mod","reg","rm","sib","width","disp"] []++(fG (st 92) "memory_of" (ar "octetmint.modrm" 1250) .none 513 8 3 878 1312 ["mod","rm","sib","disp","x","b","size","segment","shift","index","base","first"] [])))))))))))))))))))))))))))))))))))))))
noncomputable def g4(P:Params):List Obj:=[tO [],jA [.builtin "type.__prepare__",.type "type"],dO (.type "dict") 6 [dE P "__module__" 1349 (ar "octetmint.decoder" 1330),dE P "__qualname__" 1351 (ar "Decoded" 1350),dE P "__firstlineno__" 1353 (.int 529 1352),dE P "__init__" 1364 (.ref 898),dE P "told" 1371 (.ref 905),dE P "__static_attributes__" 1376 (.ref 906)],tO [],fO [.int 531 0,.int 4 0,.ref 897,.int 537 0,.int 4 0,.ref 904],cO [ar "Decoded" 1344,ar "Decoded" 1345,ar "/claim/cut.py" 1346,.int 529 0,.int 0 0,.int 0 0,.int 0 0,.int 0 0,.ref 888,.bool false,.int 181 0,.ref 889,.none,.none,.none,.none,.int 1347 0,.int 529 0,ar "/claim/cut.py" 1348],rO [some (.ref 890),some (.ref 3),some (.ref 887),none,some (ar "octetmint.decoder" 1330),none,some (.ref 0)]]++(fG (sm 99 0) "Decoded.__init__" (ar "octetmint.decoder" 1330) .none 531 5 3 892 1354 ["self","instruction","length","form","prefixes"] []++(fG (sm 99 1) "Decoded.told" (ar "octetmint.decoder" 1330) .none 537 1 3 899 1365 ["self"] []++([tO [ar "form" 1372,ar "instruction" 1373,ar "length" 1374,ar "prefixes" 1375],dO (.type "dict") 4 [dE P "__module__" 1349 (ar "octetmint.decoder" 1330),dE P "__firstlineno__" 1353 (.int 529 1352),dE P "__init__" 1364 (.ref 898),dE P "told" 1371 (.ref 905),dE P "__static_attributes__" 1376 (.ref 906),dE P "__dict__" 1378 (.ref 909),dE P "__weakref__" 1380 (.ref 910),dE P "__doc__" 1381 .none],kO "Decoded" [.type "object"] [.ref 908,.type "object"] 907 [] [none,none,some (ar "Decoded" 1342),some (ar "Decoded" 1350),some (.builtin "object.__new__"),some (.bool true)],gO [ar "__dict__" 1377,.ref 908,.builtin "function.__dict__",.builtin "function.__dict__#set"],gO [ar "__weakref__" 1379,.ref 908,.builtin "ExceptionGroup.__weakref__",.none],uO [.ref 908,.ref 908,.ref 908],jA [.builtin "object.__init_subclass__",.ref 908],tO [],jA [.builtin "type.__prepare__",.type "type"],dO (.type "dict") 10 [dE P "__module__" 1391 (ar "octetmint.decoder" 1330),dE P "__qualname__" 1393 (ar "Frame" 1392),dE P "__firstlineno__" 1395 (.int 539 1394),dE P "__init__" 1406 (.ref 926),dE P "has_rex" 1413 (.ref 933),dE P "is_narrow" 1420 (.ref 940),dE P "take_code" 1429 (.ref 947),dE P "take_must" 1438 (.ref 954),dE P "take_modrm" 1447 (.ref 961),dE P "__static_attributes__" 1466 (.ref 962)],tO [],fO [.int 541 0,.int 4 0,.ref 925,.int 562 0,.int 4 0,.ref 932,.int 565 0,.int 4 0,.ref 939,.int 568 0,.int 4 0,.ref 946,.int 579 0,.int 4 0,.ref 953,.int 585 0,.int 4 0,.ref 960],cO [ar "Frame" 1386,ar "Frame" 1387,ar "/claim/cut.py" 1388,.int 539 0,.int 0 0,.int 0 0,.int 0 0,.int 0 0,.ref 916,.bool false,.int 181 0,.ref 917,.none,.none,.none,.none,.int 1389 0,.int 539 0,ar "/claim/cut.py" 1390],rO [some (.ref 918),some (.ref 3),some (.ref 915),none,some (ar "octetmint.decoder" 1330),none,some (.ref 0)]]++(fG (sm 100 0) "Frame.__init__" (ar "octetmint.decoder" 1330) .none 541 4 3 920 1396 ["self","begin","prefixes","code_at","bits"] []++(fG (sm 100 1) "Frame.has_rex" (ar "octetmint.decoder" 1330) .none 562 1 3 927 1407 ["self"] []++(fG (sm 100 2) "Frame.is_narrow" (ar "octetmint.decoder" 1330) .none 565 1 3 934 1414 ["self"] []++(fG (sm 100 3) "Frame.take_code" (ar "octetmint.decoder" 1330) .none 568 2 3 941 1421 ["self","octets","at"] []++(fG (sm 100 4) "Frame.take_must" (ar "octetmint.decoder" 1330) .none 579 2 3 948 1430 ["self","iset","must"] []++(fG (sm 100 5) "Frame.take_modrm" (ar "octetmint.decoder" 1330) .none 585 2 3 955 1439 ["self","octets","told"] []++([tO [ar "b" 1448,ar "begin" 1449,ar "code_at" 1450,ar "disp" 1451,ar "escape" 1452,ar "mod" 1453,ar "modrm_at" 1454,ar "must" 1455,ar "opcode" 1456,ar "prefixes" 1457,ar "r" 1458,ar "reg" 1459,ar "rest_at" 1460,ar "rm" 1461,ar "sib" 1462,ar "w" 1463,ar "width" 1464,ar "x" 1465],dO (.type "dict") 4 [dE P "__module__" 1391 (ar "octetmint.decoder" 1330),dE P "__firstlineno__" 1395 (.int 539 1394),dE P "__init__" 1406 (.ref 926),dE P "has_rex" 1413 (.ref 933),dE P "is_narrow" 1420 (.ref 940),dE P "take_code" 1429 (.ref 947),dE P "take_must" 1438 (.ref 954),dE P "take_modrm" 1447 (.ref 961),dE P "__static_attributes__" 1466 (.ref 962),dE P "__dict__" 1468 (.ref 965),dE P "__weakref__" 1470 (.ref 966),dE P "__doc__" 1471 .none],kO "Frame" [.type "object"] [.ref 964,.type "object"] 963 [] [none,none,some (ar "Frame" 1384),some (ar "Frame" 1392),some (.builtin "object.__new__"),some (.bool true)],gO [ar "__dict__" 1467,.ref 964,.builtin "function.__dict__",.builtin "function.__dict__#set"],gO [ar "__weakref__" 1469,.ref 964,.builtin "ExceptionGroup.__weakref__",.none],uO [.ref 964,.ref 964,.ref 964],jA [.builtin "object.__init_subclass__",.ref 964]]++(fG (st 101) "fits_size" (ar "octetmint.decoder" 1330) .none 590 2 3 969 1474 ["form","frame"] []++(fH (st 102) "fits_mod" (ar "octetmint.decoder" 1330) .none 598 2 3 976 1482++(fG (st 103) "fits_nop" (ar "octetmint.decoder" 1330) .none 600 2 3 981 1488 ["form","frame","is_plain"] []++(fG (st 104) "picked" (ar "octetmint.decoder" 1330) .none 605 2 3 988 1497 ["forms","frame","form"] []++(fG (st 105) "register_at" (ar "octetmint.decoder" 1330) .none 612 3 3 995 1506 ["number","size","has_rex"] []++(fG (st 106) "reg_operand" (ar "octetmint.decoder" 1330) .none 616 2 3 1002 1515 ["kind","frame","number"] []++(fG (st 107) "rm_operand" (ar "octetmint.decoder" 1330) .none 621 2 3 1009 1524 ["kind","frame","size","segment","number"] []++(fG (st 108) "plus_operand" (ar "octetmint.decoder" 1330) .none 629 2 3 1016 1535 ["kind","frame","number"] []++(fG (st 109) "fixed_operand" (ar "octetmint.decoder" 1330) .none 632 1 3 1023 1544 ["kind"] []++(fG (st 110) "field_at" (ar "octetmint.decoder" 1330) .none 640 3 3 1030 1551 ["octets","at","width","field"] []++(fG (st 111) "written_operand" (ar "octetmint.decoder" 1330) .none 645 3 3 1037 1561 ["kind","slot","field"] []++(fG (st 112) "operands_of" (ar "octetmint.decoder" 1330) .none 651 3 3 1044 1570 ["form","frame","octets","found","end","kind","slot","width"] []++(fH (st 113) "check_used" (ar "octetmint.decoder" 1330) .none 667 3 3 1051 1584++(fG (st 114) "prefix_word" (ar "octetmint.decoder" 1330) .none 675 2 3 1056 1590 ["form","frame","repeat","word"] []++(fH (st 115) "read_frame" (ar "octetmint.decoder" 1330) .none 685 3 3 1063 1600++([tO [.int 0 1606]]++(fG (st 116) "decode" (ar "octetmint.decoder" 1330) (.ref 1068) 694 3 3 1069 1607 ["iset","octets","at","frame","form","operands","end","instruction"] []++(fH (st 118) "codes_of" (ar "octetmint.iset" 1621) .none 703 1 3 1076 1623++([tO [],jA [.builtin "type.__prepare__",.type "type"],dO (.type "dict") 13 [dE P "__module__" 1636 (ar "octetmint.iset" 1621),dE P "__qualname__" 1638 (ar "InstructionSet" 1637),dE P "__firstlineno__" 1640 (.int 707 1639),dE P "__init__" 1651 (.ref 1094),dE P "told" 1657 (.ref 1099),dE P "find" 1665 (.ref 1106),dE P "has" 1673 (.ref 1113),dE P "at" 1683 (.ref 1120),dE P "names" 1690 (.ref 1127),dE P "codes" 1697 (.ref 1134),dE P "counts" 1705 (.ref 1141),dE P "memory_sizes" 1713 (.ref 1148),dE P "__static_attributes__" 1717 (.ref 1149)],tO [],fO [.int 709 0,.int 4 0,.ref 1093,.int 724 0,.int 4 0,.ref 1098,.int 727 0,.int 4 0,.ref 1105,.int 730 0,.int 4 0,.ref 1112,.int 733 0,.int 4 0,.ref 1119,.int 736 0,.int 4 0,.ref 1126,.int 739 0,.int 4 0,.ref 1133,.int 742 0,.int 4 0,.ref 1140,.int 745 0,.int 4 0,.ref 1147],cO [ar "InstructionSet" 1631,ar "InstructionSet" 1632,ar "/claim/cut.py" 1633,.int 707 0,.int 0 0,.int 0 0,.int 0 0,.int 0 0,.ref 1084,.bool false,.int 181 0,.ref 1085,.none,.none,.none,.none,.int 1634 0,.int 707 0,ar "/claim/cut.py" 1635],rO [some (.ref 1086),some (.ref 3),some (.ref 1083),none,some (ar "octetmint.iset" 1621),none,some (.ref 0)]]++(fG (sm 119 0) "InstructionSet.__init__" (ar "octetmint.iset" 1621) .none 709 2 3 1088 1641 ["self","forms","number","form","code"] []++(fH (sm 119 1) "InstructionSet.told" (ar "octetmint.iset" 1621) .none 724 1 3 1095 1652++(fG (sm 119 2) "InstructionSet.find" (ar "octetmint.iset" 1621) .none 727 2 3 1100 1658 ["self","name"] []++(fG (sm 119 3) "InstructionSet.has" (ar "octetmint.iset" 1621) .none 730 2 3 1107 1666 ["self","name"] []++(fG (sm 119 4) "InstructionSet.at" (ar "octetmint.iset" 1621) .none 733 4 3 1114 1674 ["self","must","escape","opcode"] []++(fG (sm 119 5) "InstructionSet.names" (ar "octetmint.iset" 1621) .none 736 1 3 1121 1684 ["self"] []++(fG (sm 119 6) "InstructionSet.codes" (ar "octetmint.iset" 1621) .none 739 1 3 1128 1691 ["self"] []++(fG (sm 119 7) "InstructionSet.counts" (ar "octetmint.iset" 1621) .none 742 2 3 1135 1698 ["self","name"] []++(fG (sm 119 8) "InstructionSet.memory_sizes" (ar "octetmint.iset" 1621) .none 745 2 3 1142 1706 ["self","name"] []++([tO [ar "by_code" 1714,ar "by_name" 1715,ar "forms" 1716],dO (.type "dict") 4 [dE P "__module__" 1636 (ar "octetmint.iset" 1621),dE P "__firstlineno__" 1640 (.int 707 1639),dE P "__init__" 1651 (.ref 1094),dE P "told" 1657 (.ref 1099),dE P "find" 1665 (.ref 1106),dE P "has" 1673 (.ref 1113),dE P "at" 1683 (.ref 1120),dE P "names" 1690 (.ref 1127),dE P "codes" 1697 (.ref 1134),dE P "counts" 1705 (.ref 1141),dE P "memory_sizes" 1713 (.ref 1148),dE P "__static_attributes__" 1717 (.ref 1149),dE P "__dict__" 1719 (.ref 1152),dE P "__weakref__" 1721 (.ref 1153),dE P "__doc__" 1722 .none],kO "InstructionSet" [.type "object"] [.ref 1151,.type "object"] 1150 [] [none,none,some (ar "InstructionSet" 1629),some (ar "InstructionSet" 1637),some (.builtin "object.__new__"),some (.bool true)],gO [ar "__dict__" 1718,.ref 1151,.builtin "function.__dict__",.builtin "function.__dict__#set"],gO [ar "__weakref__" 1720,.ref 1151,.builtin "ExceptionGroup.__weakref__",.none],uO [.ref 1151,.ref 1151,.ref 1151],jA [.builtin "object.__init_subclass__",.ref 1151]]++(fG (st 121) "_law_cell" (ar "law_nn0080_01" 1725) .none 748 2 3 1156 1727 ["script","at"] []++(fG (st 122) "_law_sort" (ar "law_nn0080_01" 1725) .none 752 1 3 1163 1735 ["octet"] []++(fG (st 123) "_law_due" (ar "law_nn0080_01" 1725) .none 760 1 3 1170 1742 ["octets","seen","octet","way","word"] []++(fG (st 124) "_law_heard" (ar "law_nn0080_01" 1725) .none 773 1 3 1177 1753 ["ask"] []++(fG (st 125) "_law_read_right" (ar "law_nn0080_01" 1725) .none 778 2 3 1184 1760 ["octets","ahead","due","heard"] ["octets","ahead"]++(fG (st 126) "_law_any_right" (ar "law_nn0080_01" 1725) .none 783 1 3 1191 1772 ["script","some","octets","spot","pick"] []++(fG (st 127) "_law_made_right" (ar "law_nn0080_01" 1725) .none 790 1 3 1198 1783 ["script","pick","word","is_data","repeat","is_lock","bits","rex","made","row","told"] []++(fG (st 128) "_law_turned" (ar "law_nn0080_01" 1725) .none 808 2 3 1205 1800 ["row","pick","rest","found","spot"] []++(fG (st 129) "_law_name" (ar "law_nn0080_01" 1725) .none 814 3 3 1212 1811 ["number","size","has_rex"] []++(fG (st 130) "_law_line" (ar "law_nn0080_01" 1725) .none 816 1 3 1219 1820 ["script","pick","digit","size","word","is_lock","base","number","idle","rex","has_rex","disp","legacy","tail","place","due"] []++(fG (st 131) "_law_refused" (ar "law_nn0080_01" 1725) .none 832 2 3 1226 1842 ["iset","octets"] ["iset","octets"]++(fH (st 132) "_law_decoded_right" (ar "law_nn0080_01" 1725) .none 834 2 3 1233 1852++(fG (st 133) "law" (ar "law_nn0080_01" 1725) .none 857 1 3 1238 1858 ["script","iset"] []))))))))))))))))))))))))))))))))))))))))))))))))))))
noncomputable def l1(P:Params):List Obj:=g1 P
noncomputable def S1(w:World)(os:OsState):SharedT:=⟨NK 12 (boot_o_0 w.params::boot_o_1 w.params::dO .none 2 (Jk w.params)::dO (.type "dict") 38 ((qV w.params (ar "octetmint.forms" 483)).take 38)::boot_o_4 w.params::boot_o_5 w.params::boot_o_6 w.params::boot_o_7 w.params::boot_o_8 w.params::boot_o_9 w.params::boot_o_10 w.params::NO::fO (yo.take 57)::NI::NB::l1 w.params),234,(boot_heap w.params).life,#[],boot_drawn,491,os⟩
noncomputable def l2(P:Params):List Obj:=(g1 P++(g2 P)).set 502 (QG [.ref 552,.ref 586])
noncomputable def S2(w:World)(os:OsState):SharedT:=⟨NK 12 (boot_o_0 w.params::boot_o_1 w.params::dO .none 2 (Jk w.params)::dO (.type "dict") 69 ((qV w.params (ar "octetmint.operands" 793)).take 69)::boot_o_4 w.params::boot_o_5 w.params::boot_o_6 w.params::boot_o_7 w.params::boot_o_8 w.params::boot_o_9 w.params::boot_o_10 w.params::NO::fO (yo.take 147)::NI::NB::l2 w.params),589,(boot_heap w.params).life,#[],boot_drawn,926,os⟩
noncomputable def l3(P:Params):List Obj:=g1 P++(g2 P++(g3 P))
noncomputable def S3(w:World)(os:OsState):SharedT:=⟨NK 12 (boot_o_0 w.params::boot_o_1 w.params::dO .none 2 (Jk w.params)::dO (.type "dict") 100 ((qV w.params (ar "octetmint.decoder" 1330)).take 100)::boot_o_4 w.params::boot_o_5 w.params::boot_o_6 w.params::boot_o_7 w.params::boot_o_8 w.params::boot_o_9 w.params::boot_o_10 w.params::NO::fO (yo.take 198)::NI::NB::l3 w.params),885,(boot_heap w.params).life,#[],boot_drawn,1342,os⟩
noncomputable def l4(P:Params):List Obj:=g1 P++(g2 P++(g3 P++(g4 P)))
noncomputable def S4(w:World)(os:OsState):SharedT:=⟨NK 12 (boot_o_0 w.params::boot_o_1 w.params::dO .none 2 (Jk w.params)::dO (.type "dict") 133 ((qV w.params (ar "law_nn0080_01" 1725)).take 133)::boot_o_4 w.params::boot_o_5 w.params::boot_o_6 w.params::boot_o_7 w.params::boot_o_8 w.params::boot_o_9 w.params::boot_o_10 w.params::NO::fO (yo.take 297)::NI::NB::l4 w.params),1245,(boot_heap w.params).life,#[],boot_drawn,1866,os⟩
noncomputable def p1:Pos:=⟨158,0,158,8⟩
theorem Ue(w:World)(os:OsState):segRunT treeTable pw w 11 (some (.ref 6)) 1 1837 (Sb w os) (piecesOf (bE.take 32) xx cE n6 [topFrame n6])=some (.next,S1 w os,cE,p1):=by
 rw[PySem.W.Fast.te10110043849684766642,PySem.W.Fast.te14364793385576792824]
 kernel_rfl
noncomputable def p2:Pos:=⟨333,0,344,24⟩
theorem UM(w:World)(os:OsState):segRunT treeTable pw w 11 (some (.ref 6)) 1 2173 (S1 w os) (piecesOf ((bE.drop 32).take 33) xx cE p1 [topFrame n6])=some (.next,S2 w os,cE,p2):=by
 rw[PySem.W.Fast.te10110043849684766642,PySem.W.Fast.te14364793385576792824]
 kernel_rfl
noncomputable def p3:Pos:=⟨528,0,528,8⟩
theorem Vf(w:World)(os:OsState):segRunT treeTable pw w 11 (some (.ref 6)) 1 2079 (S2 w os) (piecesOf ((bE.drop 65).take 34) xx cE p2 [topFrame n6])=some (.next,S3 w os,cE,p3):=by
 rw[PySem.W.Fast.te10110043849684766642,PySem.W.Fast.te14364793385576792824]
 kernel_rfl
noncomputable def p4:Pos:=⟨857,0,859,98⟩
theorem TA(w:World)(os:OsState):segRunT treeTable pw w 11 (some (.ref 6)) 1 2103 (S3 w os) (piecesOf (bE.drop 99) xx cE p3 [topFrame n6])=some (.next,S4 w os,cE,p4):=by
 rw[PySem.W.Fast.te10110043849684766642,PySem.W.Fast.te14364793385576792824]
 kernel_rfl
theorem Sm(w:World)(os:OsState):topRun treeTable pw w 11 (some (.ref 6)) 60 (S4 w os).abs (restOf [] xx cE p4 [topFrame n6])=some (S4 w os).abs:=by kernel_rfl
theorem DE:bE.take 32++((bE.drop 32).take 33++((bE.drop 65).take 34++(bE.drop 99++[])))=bE:=by
 have a:=List.take_append_drop 34 (bE.drop 65)
 have b:=List.take_append_drop 33 (bE.drop 32)
 rw[List.drop_drop]at a b
 rw[List.append_nil,a,b,List.take_append_drop]
theorem U8(w:World)(os:OsState):topRun treeTable pw w 11 (some (.ref 6)) (12+(1+(1837+(2173+(2079+(2103+60)))))) ⟨boot_heap w.params,Array.mk [],boot_drawn,boot_toks,os⟩ (topStub pw)=some (S4 w os).abs:=by
 refine go_top (pre w os) ?_
 refine piece_block (OQ w os) ?_
 rw[←DE]
 exact piece_app (segRun_of (Ue w os)) (piece_app (segRun_of (UM w os)) (piece_app (segRun_of (Vf w os)) (piece_app (segRun_of (TA w os)) (Sm w os))))
theorem Td(w:World)(os:OsState):(staticsOk (importedModules pw.main.body) (boot_heap w.params) (S4 w os).abs.heap&&namesBound pw (S4 w os).abs.heap&&gensDone (S4 w os).abs&&laidKept (boot_heap w.params) (S4 w os).abs.heap)=true:=by kernel_rfl
theorem Uy(w:World)(os:OsState):openSeen q0 nz (importedModules pw.main.body) (fun _=>true) true (S4 w os).abs=openGood q0 nz:=by kernel_rfl
section
noncomputable def BN(n:Nat)(t:BT)(a:Nat):Option Obj:=bO (Nat.blt a n) (oO (t.get a) alive)
noncomputable def hZ(n:Nat)(t:BT):List Nat→Frag
 |[]=>[]
 |a::r=>oX (BN n t a) (fun o=>(a,o)::hZ n t r) (hZ n t r)
theorem lp{a b:Nat}(h:Nat.blt a b=true):a < b:=Nat.le_of_ble_eq_true h
theorem qA{K:Frag}{o:Option Obj}{a b:Addr}:List.lookup a (oX o (fun o=>(b,o)::K) K)=bX (a==b) (oX o some (K.lookup a)) (K.lookup a):=by
  cases o with
  |none=>cases a==b <;> rfl
  | some o=>
    show List.lookup a ((b,o)::K)=_
    rw[List.lookup_cons]
    cases a==b <;> rfl
theorem Fj{n:Nat}{t:BT}{life:Life}(as:List Nat):(hZ n t as).In (absHeap t n life):=by
  induction as with
  |nil=>exact fun a o e=>nomatch e
  | cons b r ih=>
    intro a o e
    have e:=qA.symm.trans e
    refine iV e (fun q e=>dD e (fun x ex e=>?_) fun _ e=>ih a o e) fun _ e=>ih a o e
    refine cH ex fun hb ex=>aA ex fun o1 h1 h2=>?_
    rw[eq_of_beq q,←af e,abs_get (lp hb) h1,h2]
theorem lH{n:Nat}{t:BT}{x:Nat}{o:Obj}(hx:x < n)(hg:t.get x=some o)(ha:alive o=some o){as:List Nat}(h:x∈as):(hZ n t as).lookup x=some o:=by
  have hf:BN n t x=some o:=by
    unfold BN
    rw[show Nat.blt x n=true from Nat.ble_eq_true_of_le hx,hg];exact ha
  induction as with
  |nil=>cases h
  | cons b r ih=>
    refine qA.trans ?_
    cases q:x==b with
    |true=>rw[←eq_of_beq q,hf];rfl
    |false=>exact ih ((List.mem_cons.mp h).resolve_left fun e=>by rw[e,beq_self_eq_true]at q;cases q)
noncomputable def Mt(g:Nat→Option Obj)(v:Value):Option (List (Option V)):=bX (B3 v) (some []) (oO (BW v) fun d=>bO (Ax.contains d) (oO (g d) fun o=>oO (pX o) fun xs=>some (xs.toList.map Qq)))
noncomputable def Cq(o:Obj)(q:Str):Bool:=match o with
 |⟨_,_,.fields vs,_⟩=>(match vs.toList with|_::.str n _::_=>n==q|_=>false)
 |_=>false
noncomputable def Kp(g:Nat→Option Obj)(a:Nat)(f:FuncData):Bool:=aH (f.code==.ref (a - 1)) (oB (g (a - 1)) fun o=>Cq o f.qualname)
noncomputable def yI(g:Nat→Option Obj)(a:Addr):Option gq:=oO (g a) fun o=>oO (qq o) fun f=>some (mT (Kp g a f) (Mt g f.defaults) f)
theorem zX{o:Obj}{xs:Array Value}(h:pX o=some xs):alive o=some o:=by
 obtain⟨c,d,dt,sl⟩:=o
 cases dt <;> first|rfl|cases h
theorem A2{o:Obj}{f:FuncData}(h:qq o=some f):alive o=some o:=by
 obtain⟨c,d,dt,sl⟩:=o
 cases dt <;> first|rfl|cases h
theorem xw{o:Obj}{q:Str}(h:Cq o q=true):alive o=some o:=by
 obtain⟨c,d,dt,sl⟩:=o
 cases dt <;> first|rfl|cases h
theorem Al{K:Frag}{c:Addr}{o:Obj}{q:Str}(h:K.lookup c=some o):codeIn K (.ref c) q=Cq o q:=by
 unfold codeIn
 dsimp only
 rw[h]
 obtain⟨c,d,dt,sl⟩:=o
 cases dt <;> rfl
section
variable {n:Nat}{t:BT}{as:List Nat}
theorem PC{v:Value}{l:List (Option V)}(h:Mt t.get v=some l)(h3:∀d∈Ax,d∈as∧d < n):oj (hZ n t as) v=some l:=by
 unfold oj
 refine iV h (fun e h=>by rw[e];exact h) fun e h=>aA h fun d ed h=>cH h fun hc h=>aA h fun o ho h=>aA h fun xs hx h=>?_
 have q:=h3 d (List.contains_iff_mem.mp hc)
 rw[e,ed]
 show oO ((hZ n t as).lookup d) _=_
 rw[lH (as:=as) q.2 ho (zX hx) q.1]
 show oO (pX o) _=_
 rw[hx];exact h
theorem CZ{a:Addr}{i:ag}(h:yI t.get a=nv i)(h1:a∈as)(h2:a - 1∈as)(h3:∀d∈Ax,d∈as∧d < n)(h4:a < n):qO (hZ n t as) a=nv i:=by
 refine aA h fun o ho h=>aA h fun f hf h=>?_
 have hl:(hZ n t as).lookup a=some o:=lH h4 ho (A2 hf) h1
 have e4:Mt t.get f.defaults=some (i.ds.map some):=congrArg (fun z:gq=>z.2.2.2.1) (af h)
 have e8:Kp t.get a f=true:=congrArg (fun z:gq=>z.2.2.2.2.getD 7 false) (af h)
 have g8:codeIn (hZ n t as) f.code f.qualname=true:=az e8 fun q g=>kF g fun o' ho' g=>by
  rw[eq_of_beq q,Al (lH (Nat.lt_of_le_of_lt (Nat.sub_le _ _) h4) ho' (xw g) h2)];exact g
 unfold qO
 rw[hl]
 show oO (qq o) _=_
 rw[hf]
 show some (mT (codeIn (hZ n t as) f.code f.qualname) (oj (hZ n t as) f.defaults) f)=_
 rw[g8,PC e4 h3,←e4,←e8]
 exact h
end
noncomputable abbrev VH:OsState:=(start (opening pw)).1.os
noncomputable abbrev TF(w:World):BT:=(S4 w VH).tree
noncomputable abbrev HF(w:World):Heap:=absHeap (TF w) 1245 (boot_heap w.params).life
noncomputable abbrev KF(w:World):Frag:=hZ 1245 (TF w) Kr
theorem UC(w:World):v8.list.map (fun p=>yI (TF w).get p.1)=v8.list.map (fun p=>nv p.2):=by kernel_rfl
theorem U4(w:World):o7.list.map (fun p=>Ez (HF w) p.2)=o7.list.map (fun p=>DR p.2):=by kernel_rfl
theorem Vk(w:World):MH (KF w)=true:=by kernel_rfl
theorem UR(w:World):(vZ (KF w),RP (KF w))=(wY,true):=by kernel_rfl
theorem UU(w:World):jv.map (qS (HF w) (KF w))=jv.map rj:=by kernel_rfl
theorem S6(w:World):(((HF w).nsMap mainGlobals "Exception").isNone,(HF w).nsMap builtinsNs "Exception",((HF w).get? sysModules).isSome,(HF w).isNs mainGlobals,(HF w).isNs builtinsNs,(HF w).isNs cStatics,(HF w).nsMap cStatics "sys.recursionlimit")=(true,some (Value.type "Exception"),true,true,true,true,none):=by kernel_rfl
theorem QB:(v8.list.all fun p=>Nat.blt p.1 1245)=true:=by kernel_rfl
theorem Oj:(Ax.all fun d=>Nat.blt d 1245)=true:=by kernel_rfl
theorem N7(w:World):eY (HF w) (KF w):=by
 refine bC (Prod.mk.inj (S6 w)) fun e7 e=>?_
 refine bC (Prod.mk.inj e) fun e8 e=>?_
 refine bC (Prod.mk.inj e) fun e9 e=>?_
 refine bC (Prod.mk.inj e) fun e10 e=>?_
 refine bC (Prod.mk.inj e) fun e11 e=>?_
 refine bC (Prod.mk.inj e) fun e12 e13=>?_
 refine bC (Prod.mk.inj (UR w)) fun e4 e6=>?_
 have hd:∀d∈Ax,d∈Kr∧d < 1245:=fun d hd=>⟨List.mem_append_right _ hd,lp (List.all_eq_true.mp Oj d hd)⟩
 exact⟨Fj _,List.map_inj_left.mp (UU w),fun p hp=>CZ (List.map_inj_left.mp (UC w) p hp) (List.mem_append_left _ (List.mem_append_right _ (List.mem_flatMap.mpr ⟨p,hp,.head _⟩))) (List.mem_append_left _ (List.mem_append_right _ (List.mem_flatMap.mpr ⟨p,hp,.tail _ (.head _)⟩))) hd (lp (List.all_eq_true.mp QB p hp)),
  List.map_inj_left.mp (U4 w),e4,Vk w,e6,Option.isNone_iff_eq_none.mp e7,e8,Option.isSome_iff_exists.mp e9,.of_isNs e10,.of_isNs e11,.of_isNs e12,e13⟩
end
abbrev rowL:OpenRow:=PySem.Challenge.rw_nn0080_01.row
theorem Qw(w:World){h:Heap}{K:Frag}(S:eY h K){h':Heap}(hk:∀b o,h.get? b=some o→h'.get? b=some o){mg:cq}(hg:h'.Ns mainGlobals mg){fa:Addr}(hm:mg "law"=some (.ref fa)):fa=1244:=by
 have q:mg=h.nsMap mainGlobals:=by rw[hg.eq_nsMap,(S.ns.keeps hk).eq_nsMap.symm]
 have g:G0 "law"=some (.glob 1244):=by kernel_rfl
 refine av (KN S _ _ g) fun r h1 h2=>?_
 have r1:=h1 (pm w TI) (fun _ _=>False) []
 cases r1
 rcases h2 with h2|⟨h2,_⟩
 ·rw[←q,hm]at h2;cases h2;rfl
 ·rw[←q,hm]at h2;cases h2
set_option tactic.hygienic true in
theorem OH{d:DefRec}{kwd:List (Str×Expr)}(hn:d.name="law"):WalkO q0 nz (fun _ _=>True) (fun w h=>∀b o,(HF w).get? b=some o→h.get? b=some o) rowL.toRowW d kwd fun f vs=>PySem.call f vs:=by
  intro w WM s₁ mg mb G Y fa o pm cd doc dV kV ho hd hcd hD hmg hg args vals as hpre hlay hrd hwl hlo
  have hk:=Y
  have S:=N7 w
  wrow_args hpre hlay hrd hwl hlo
  rename_i xs _ _ _ _ _ _ _ La rs _ hL _ hW _ hI _ hc _
  rw[hn]at hmg
  obtain rfl:=Qw w S hk G.T.g hmg
  refine Vo G.T.bmain fun bm ob b1 b2 b3 b4 b5 b6=>?_
  have hL:s₁.heap.get? La=some (aN rs 0):=by
    obtain⟨o',g1,_,n,g2⟩:=hL
    have ho:ofPy (PyData.list (List.map PyData.int xs))=.list (ofPys (List.map PyData.int xs)):=by rw[ofPy]
    rw[ho]at hW
    cases hW with
    | list q _=>
      rw[q]at g1
      cases g1
      cases g2
      rw[q]
  refine enter_call (codeAny_mono (DV S hk ⟨mg,bm,ob,G.T.g,b1,b2,b3,b4,b5,b6⟩ hL hI (by lia) rfl rfl (by decide) (by decide)) fun r s' z=>?_)
  rcases r with _|(v|_|_|_)
  · exact z.elim
  all_goals first|exact z.elim|skip
  refine AH z fun rq0 ok hos hgs=>?_;subst rq0
  exact⟨.inl ⟨.bool true,.bool true,[],rfl,fun _=>rfl,.bool true,by wrow_post,fun _=>⟨List.nodup_nil,fun _ q=>(nomatch q)⟩⟩,ok,hos,fun y hy=>by rw[hgs,hg]at hy;simp at hy⟩
theorem Pq:LeftO rowL.prog q0 nz (fun _=>true) (fun s=>s.heap) HF 9000:=fun w=>by
 refine Jd (boot_open QX (by decide) Nl w) (O7 w.params) (M:=12+(1+(1837+(2173+(2079+(2103+60)))))) (by decide) fun os=>⟨(S4 w os).abs,U8 w os,Td w os,Uy w os,rfl⟩
theorem row_holds(said:rowL.wellSaid=true):rowL.Holds:=by
 refine holds_open (r:=rowL) (q:=q0) (loose:=nz) (Xt:=fun _=>true) (XP:=fun _ _=>True) (Yf:=fun s=>s.heap) (Ya:=HF) (YP:=fun w h=>∀b o,(HF w).get? b=some o→h.get? b=some o) (N:=9000) Pq
  (fun _ s e b o q=>by rw[e];exact q) (fun _ h h' k k' b o q=>k' b o (k b o q)) (fun _ _=>trivial) (fun _ _ _ _ _=>trivial) (by rfl) (by rfl) (by rfl) (fun s _=>recFacts_nil rfl) (by rfl) said (by decide +kernel) ⟨rfl,rfl,rfl,rfl,rfl,by decide +kernel⟩ ?hw (OH rfl)
 case hw=>w_witness2
theorem law_said:OpenLaw.wellSaid PySem.Challenge.rw_nn0080_01=true:=by
 rw[Fast.te9446332074065402090]
 unfold Fast.tw9446332074065402090 Fast.tw17960256430627541270 Fast.tw2436336058641802641 Fast.tw12908688711261696721
 repeat' (with_reducible refine look_both ?_ ?_)
 all_goals decide +kernel
end Mine
theorem PySem.Challenge.cw_nn0080_01_holds : PySem.Challenge.rw_nn0080_01.Holds := by
 exact holds_law Mine.law_said Mine.row_holds
