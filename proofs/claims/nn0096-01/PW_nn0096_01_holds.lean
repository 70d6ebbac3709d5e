import PyProof.Rows.All
import Wide.All
import OpenK.AllK
import Wide.FinOn
import Open.Tops
import PySem.Challenge.RW_nn0096_01
set_option Elab.async false
set_option linter.all false
set_option bootstrap.genMatcherCode false
set_option genCtorIdx false
section
open PySem
set_option maxRecDepth 100000
set_option backward.match.sparseCases false
namespace Mine
inductive V where
  |none
  |bool (b:Bool)
  |int (i:Int)
  |str (x:Nat)
  |tup (vs:List V)
  |lst (vs:List V)
  |rng (n:Int)
  |inst (c:Nat) (vs:List V)
  |obj (c:Nat) (own:Bool) (k:Nat)
  |ref (own:Bool) (k:Nat)
  |fn (f:Nat)
  |cls (c:Nat)
  |prim (p:Nat)
inductive Cell where
  |list (vs:List V)
  |dict (ks:List Nat) (vs:List V)
  |sdict (ks:List Nat) (vs:List V)
  |idict (f:Int→Option Int) (n:Nat)
structure Sg where
  rw:List Cell
  own:List Cell
noncomputable def Sg.get(σ:Sg)(o:Bool)(k:Nat):Option Cell:=match o with |true=>σ.own[k]? |false=>σ.rw[k]?
noncomputable def Sg.set(σ:Sg)(o:Bool)(k:Nat)(m:Cell):Sg:=match o with |true=>⟨σ.rw,σ.own.set k m⟩ |false=>⟨σ.rw.set k m,σ.own⟩
noncomputable def Sg.new(σ:Sg)(o:Bool)(m:Cell):Sg:=match o with |true=>⟨σ.rw,σ.own++ [m]⟩ |false=>⟨σ.rw++ [m],σ.own⟩
noncomputable def Sg.nxt(σ:Sg)(o:Bool):Nat:=match o with |true=>σ.own.length |false=>σ.rw.length
mutual
noncomputable def V.free:V→Bool
  | .obj _ o _=>!o
  | .ref o _=>!o
  | .tup vs=>freeL vs
  | .lst vs=>freeL vs
  | .inst _ vs=>freeL vs
  |_=>true
noncomputable def freeL:List V→Bool
  | [] =>true
  |v::vs=>v.free&&freeL vs
end
noncomputable def Cell.free:Cell→Bool
  | .list vs=>freeL vs
  | .dict _ vs=>freeL vs
  | .sdict _ vs=>freeL vs
  | .idict _ _=>true
set_option genSizeOf false
set_option genInjectivity false
set_option genCtorIdx true in
inductive BM where
  |append |reverse |remove |index |split0 |split1 |starts |get
inductive Ex where
  |loc (i:Nat) (p:Pos)
  |glob (i:Nat) (p:Pos)
  |int (i:Int) (k:Nat) (p:Pos)
  |str (x:Nat) (k:Nat) (p:Pos)
  |bool (b:Bool) (k:Nat) (p:Pos)
  |none (k:Nat) (p:Pos)
  |bin (op:Operator) (a b:Ex) (p:Pos)
  |mulM (o:Bool) (a b:Ex) (p:Pos)
  |neg (a:Ex) (p:Pos)
  |not (a:Ex) (p:Pos)
  |cmp (op:CmpOp) (a b:Ex) (p:Pos)
  |cmp2 (op op':CmpOp) (a b c:Ex) (p:Pos)
  |and(es:List Ex) (p:Pos)
  |or (es:List Ex) (p:Pos)
  |ite (t a b:Ex) (p:Pos)
  |tup (es:List Ex) (k:Nat) (p:Pos)
  |lst (es:List Ex) (p:Pos)
  |lstM (o:Bool) (es:List Ex) (p:Pos)
  |dictI (o:Bool) (p:Pos)
  |dictS (o:Bool) (xs:List (Nat×Nat×Pos)) (es:List Ex) (p:Pos)
  |attr (a:Ex) (x:Nat) (p:Pos)
  |sub (a b:Ex) (p:Pos)
  |slcTo (a:Ex) (h:Ex) (q p:Pos)
  |slcOn (a:Ex) (l:Ex) (q p:Pos)
  |call (f:Ex) (es:List Ex) (p:Pos)
  |meth (a:Ex) (x:Nat) (es:List Ex) (q p:Pos)
  |bm (m:BM) (a:Ex) (es:List Ex) (q p:Pos)
  |comp1 (e:Ex) (x y:Nat) (q1 q2 q3 q4:Pos) (p:Pos)
inductive Tg where
  |loc (i:Nat) (p:Pos)
  |attr (a:Ex) (x:Nat) (p:Pos)
  |sub (a b:Ex) (p:Pos)
inductive Sx where
  |asg (t:Tg) (e:Ex) (p:Pos)
  |asgT (ts:List Tg) (k:Nat) (q:Pos) (e:Ex) (p:Pos)
  |asgW (i j:Nat) (qi qj:Pos) (k:Nat) (q:Pos) (a b:Ex) (ke:Nat) (pe p:Pos)
  |asgW3 (i j l:Nat) (qi qj ql:Pos) (k:Nat) (q:Pos) (a b c:Ex) (ke:Nat) (pe p:Pos)
  |asgC (i:Nat) (q:Pos) (e:Ex) (x:Nat) (q1 q2 q3 q4 q5:Pos) (k:Nat) (c p:Pos)
  |ex (e:Ex) (p:Pos)
  |ret (e:Ex) (p:Pos)
  |ret0 (p:Pos)
  |ifs (t:Ex) (b c:List Sx) (p:Pos)
  |whl (t:Ex) (b:List Sx) (p:Pos)
  |for (i:Nat) (q:Pos) (e:Ex) (b:List Sx) (p:Pos)
  |raise (e:Ex) (p:Pos)
structure Fn where
  np:Nat
  ns:List Nat
  gs:List Nat
  gv:List V
  defs:List V
  pure:Bool
  body:List Sx
  cl:List Nat
structure Cls where
  names:List Nat
  frozen:Bool
  init:Nat
  meths:List (Nat×Nat)
structure Tabs where
  nm:Nat→Str
  fn:Nat→Option Fn
  cls:Nat→Option Cls
  fnAddr:Nat→Nat
  clsAddr:Nat→Nat
  split0:Nat→Option (List Nat)
  split1:Nat→Nat→Option (List Nat)
  starts:Nat→Nat→Option Bool
  cut:Nat→Nat→Option Nat
  len:Nat→Option Nat
  char:Nat→Nat→Option Nat
  empty:Nat
  int:Nat
  init:Nat
  exc:Nat→Bool
set_option genInjectivity true
set_option genCtorIdx true in
inductive R(α:Type) where
  |ok (a:α) (σ:Sg)
  |exc (c:Nat) (σ:Sg)
  |stuck
noncomputable def R.bind{α β:Type}(r:R α)(f:α→Sg→R β):R β:=match r with | .ok a σ=>f a σ | .exc c σ=> .exc c σ | .stuck=> .stuck
noncomputable def R.only{α β:Type}(r:R α)(f:α→Sg→R β):R β:=match r with | .ok a σ=>f a σ |_=> .stuck
noncomputable def R.opt{α β:Type}(o:Option α)(f:α→R β):R β:=match o with |some a=>f a |none=> .stuck
noncomputable def R.grd{β:Type}(b:Bool)(r:R β):R β:=match b with |true=>r |false=> .stuck
noncomputable def og{α:Type}(b:Bool)(x:α):Option α:=match b with |true=>some x |false=>none
noncomputable def V.asInt:V→Option Int | .int i=>some i |_=>Option.none
noncomputable def V.asBool:V→Option Bool | .bool b=>some b |_=>Option.none
noncomputable def V.asStr:V→Option Nat | .str x=>some x |_=>Option.none
noncomputable def V.asTup:V→Option (List V)| .tup vs=>some vs |_=>Option.none
noncomputable def V.asLst:V→Option (List V)| .lst vs=>some vs |_=>Option.none
noncomputable def V.asRef:V→Option (Bool×Nat)| .ref o k=>some (o,k)|_=>Option.none
noncomputable def V.asCls:V→Option Nat | .cls c=>some c |_=>Option.none
noncomputable def V.isNone:V→Bool | .none=>true |_=>false
noncomputable def V.quiet:V→Bool | .none=>true | .int _=>true | .bool _=>true |_=>false
noncomputable def Cell.asList:Cell→Option (List V)| .list vs=>some vs |_=>none
noncomputable def Cell.asDict:Cell→Option (List Nat×List V)| .dict ks vs=>some (ks,vs)|_=>none
noncomputable def Cell.asInts:Cell→Option ((Int→Option Int)×Nat)| .idict f n=>some (f,n)|_=>none
noncomputable def one{α:Type}:List α→Option α | [v] =>some v |_=>none
noncomputable def getF:List Nat→List V→Nat→Option V
  | [],_,_=>none
  |k::ks,vs,x=>match vs with | [] =>none |v::vs=>if k=x then some v else getF ks vs x
noncomputable def putF:List Nat→List V→Nat→V→Option (List Nat×List V)
  | [],vs,x,w=>og vs.isEmpty ([x],[w])
  | k::ks,vs,x,w=>match vs with
    | [] =>none
    |v::vs=>if k=x then some (k::ks,w::vs) else(putF ks vs x w).map fun p=>(k::p.1,v::p.2)
noncomputable def sm(i:Int):Bool:=decide (i.natAbs<2 ^ 4000)
noncomputable def word(i:Int):Bool:=decide (i.natAbs<2 ^ 64)
noncomputable def binI(op:Operator)(i j:Int):Option Int:=match op with
  | .Add=>some (i+j)
  | .Sub=>some (i-j)
  | .Mult=>og (word i||word j||(sm i&&sm j)) (i*j)
  | .FloorDiv=>og (!(decide (j=0))&&sm j) (i.fdiv j)
  | .Mod=>og (!(decide (j=0))) (i.fmod j)
  | .BitAnd=>some (Builtin.bitAnd i j)
  | .BitOr=>some (Builtin.bitOr i j)
  | .BitXor=>some (Builtin.bitXor i j)
  | .LShift=>og (decide (0≤j)&&decide (j≤100000)&&sm i) (i*2 ^ j.toNat)
  | .RShift=>og (decide (0≤j)) (i.fdiv (2 ^ j.toNat))
  | .Pow=>og (decide (0≤j)&&decide (j≤1000)&&sm i) (i ^ j.toNat)
  |_=>none
noncomputable def isN:Ex→Bool
  | .loc _ _=>true
  | .glob _ _=>true
  |_=>false
noncomputable def isTup:Ex→Bool
  | .tup _ _ _=>true
  |_=>false
noncomputable def isComp:Ex→Bool
  | .comp1 _ _ _ _ _ _ _ _=>true
  |_=>false
noncomputable def isLocT(cl:List Nat):Tg→Bool
  | .loc i _=>!(cl.contains i)
  |_=>false
noncomputable def locIn(n:Nat):Tg→Bool
  | .loc i _=>decide (i<n)
  |_=>true
noncomputable def nonC1:Ex→Bool
  | .loc _ _=>true
  | .glob _ _=>true
  | .call _ _ _=>true
  | .meth _ _ _ _ _=>true
  | .attr _ _ _=>true
  |_=>false
noncomputable def nonC:Ex→Bool
  | .bin _ a _ _=>nonC1 a
  | .sub a _ _=>nonC1 a
  |e=>nonC1 e
noncomputable def isC:Ex→Bool
  | .int _ _ _=>true
  | .str _ _ _=>true
  |_=>false
noncomputable def madeOf:Ex→Option (Nat×List Ex)
  | .call f es _=>match f with | .glob i _=>some (i,es)|_=>none
  |_=>none
noncomputable def lineN:Nat:=100000
noncomputable def isAdd:Operator→Bool | .Add=>true |_=>false
noncomputable def binV(op:Operator)(v w:V):Option V:=match v with
  | .int i=>w.asInt.bind fun j=>(binI op i j).map .int
  | .lst a=>w.asLst.bind fun b=>og (isAdd op&&decide (a.length+b.length≤lineN)) (.lst (a++b))
  |_=>none
noncomputable def cmpI(op:CmpOp)(i j:Int):Option Bool:=match op with
  | .Eq=>some (i==j)
  | .NotEq=>some (i !=j)
  | .Lt=>some (decide (i<j))
  | .LtE=>some (decide (i≤j))
  | .Gt=>some (decide (i>j))
  | .GtE=>some (decide (i≥j))
  |_=>none
noncomputable def cmpE(op:CmpOp)(b:Bool):Option Bool:=match op with | .Eq=>some b | .NotEq=>some (!b)|_=>none
noncomputable def cmpS(op:CmpOp)(b:Bool):Option Bool:=match op with | .Is=>some b | .IsNot=>some (!b)|_=>none
noncomputable def cmpN(op:CmpOp)(b:Bool):Option Bool:=match op with | .In=>some b | .NotIn=>some (!b)|_=>none
noncomputable def cmpD(op:CmpOp)(b:Bool):Option Bool:=match op with | .NotEq=>some b |_=>none
noncomputable def strsOf:List V→Option (List Nat)
  | [] =>some []
  |v::vs=>v.asStr.bind fun x=>(strsOf vs).map (x:: ·)
noncomputable def hasL(x:Nat)(vs:List V):Option Bool:=(strsOf vs).map (·.contains x)
noncomputable def hasC(x:Nat):Cell→Option Bool
  | .list vs=>hasL x vs
  | .sdict ks _=>some (ks.contains x)
  |_=>none
noncomputable def hasX(σ:Sg)(x:Nat):V→Option Bool
  | .ref o k=>(σ.get o k).bind (hasC x)
  | .tup vs=>hasL x vs
  | .lst vs=>hasL x vs
  |_=>none
noncomputable def V.isI(i:Int):V→Bool | .int j=>i==j |_=>false
noncomputable def V.isS(x:Nat):V→Bool | .str y=>x==y |_=>false
noncomputable def sameV(w:V):V→Bool
  | .int i=>w.isI i
  | .str x=>w.isS x
  |_=>false
noncomputable def sameAs:List V→List V→Bool
  | [],ws=>ws.isEmpty
  |v::vs,ws=>match ws with | [] =>false |w::ws=>sameV w v&&sameAs vs ws
noncomputable def cmpV(σ:Sg)(op:CmpOp)(v w:V):Option Bool:=match v with
  | .int i=>w.asInt.bind (cmpI op i)
  | .str x=>match w.asStr with |some y=>cmpE op (x==y)|none=>(hasX σ x w).bind (cmpN op)
  | .bool x=>w.asBool.bind fun y=>cmpD op (x !=y)
  | .none=>cond w.isNone (cmpS op true) none
  | .inst _ _=>cond w.isNone (cmpS op false) none
  | .lst vs=>w.asLst.bind fun ws=>cond ws.isEmpty (cmpE op vs.isEmpty) (cond (sameAs vs ws) (cmpD op false) none)
  | .tup vs=>w.asTup.bind fun ws=>cond (sameAs vs ws) (cmpD op false) none
  | .ref o k=>w.asLst.bind fun ws=>cond ws.isEmpty (((σ.get o k).bind Cell.asList).bind fun vs=>cmpE op vs.isEmpty) none
  |_=>none
noncomputable def attrV(T:Tabs)(σ:Sg)(x:Nat):V→Option V
  | .inst c vs=>(T.cls c).bind fun C=>getF C.names vs x
  | .obj c o k=>(T.cls c).bind fun C=>((σ.get o k).bind Cell.asDict).bind fun p=>cond (C.names.contains x) (getF p.1 p.2 x) none
  |_=>none
noncomputable def atL(vs:List V)(i:Int):Option V:=cond (decide (0≤i)&&decide (i<lineN)) vs[i.toNat]? none
noncomputable def subC(w:V):Cell→Option V
  | .list vs=>w.asInt.bind (atL vs)
  | .sdict ks vs=>w.asStr.bind (getF ks vs)
  |_=>none
noncomputable def subV(T:Tabs)(σ:Sg)(v w:V):Option V:=match v with
  | .tup vs=>w.asInt.bind (atL vs)
  | .lst vs=>w.asInt.bind (atL vs)
  | .str x=>w.asInt.bind fun i=>cond (decide (0≤i)) ((T.char x i.toNat).map .str) none
  | .ref o k=>(σ.get o k).bind (subC w)
  |_=>none
noncomputable def intsOf:List V→Option (List Int)
  | [] =>some []
  |v::vs=>v.asInt.bind fun x=>(intsOf vs).map (x:: ·)
noncomputable def lenC:Cell→Option Int
  | .list vs=>og (decide (vs.length≤lineN)) vs.length
  | .sdict ks _=>og (decide (ks.length≤100)) ks.length
  |_=>none
noncomputable def pLen(T:Tabs)(σ:Sg)(v:V):Option V:=match v with
  | .str x=>(T.len x).map fun(n:Nat)=>V.int n
  | .ref o k=>((σ.get o k).bind lenC).map .int
  | .lst vs=>og (decide (vs.length≤lineN)) (.int vs.length)
  | .tup vs=>og (decide (vs.length≤lineN)) (.int vs.length)
  |_=>none
noncomputable def pRange(v:V):Option V:=v.asInt.bind fun n=>og (decide (0≤n)&&decide (n≤1000)) (.rng n)
noncomputable def pAbs(v:V):Option V:=v.asInt.map fun i=> .int i.natAbs
noncomputable def pInt(v:V):Option V:=match v with
  | .int i=>some (.int i)
  | .bool b=>some (.int (if b then 1 else 0))
  |_=>none
noncomputable def pSum(v:V):Option V:=(v.asLst.bind intsOf).map fun(is:List Int)=>V.int is.sum
noncomputable def pList(v:V):Option V:=v.asTup.bind fun vs=>og (decide (vs.length≤lineN)) (.lst vs)
noncomputable def pTuple(v:V):Option V:=v.asLst.bind fun vs=>og (decide (vs.length≤lineN)) (.tup vs)
noncomputable def prim1(T:Tabs)(σ:Sg)(v:V):Nat→Option V
  |0=>pLen T σ v
  |1=>pRange v
  |2=>pAbs v
  |3=>pInt v
  |4=>pSum v
  |5=>pList v
  |6=>pTuple v
  |_+7=>none
noncomputable def primV(T:Tabs)(σ:Sg)(p:Nat)(vs:List V):Option V:=(one vs).bind fun v=>prim1 T σ v p
noncomputable def lstAt(σ:Sg)(v:V):Option (Bool×Nat×List V):=v.asRef.bind fun p=>((σ.get p.1 p.2).bind Cell.asList).map fun vs=>(p.1,p.2,vs)
noncomputable def mAppend(σ:Sg)(v:V)(ws:List V):Option (V×Sg):=(lstAt σ v).bind fun p=>(one ws).bind fun w=>og (decide (p.2.2.length<lineN)&&(p.1||w.free)) (.none,σ.set p.1 p.2.1 (.list (p.2.2++ [w])))
noncomputable def mReverse(σ:Sg)(v:V)(ws:List V):Option (V×Sg):=(lstAt σ v).bind fun p=>og (ws.isEmpty&&decide (p.2.2.length≤lineN)) (.none,σ.set p.1 p.2.1 (.list p.2.2.reverse))
noncomputable def mRemove(σ:Sg)(v:V)(ws:List V):Option (V×Sg):=(lstAt σ v).bind fun p=>((one ws).bind V.asStr).bind fun x=>(strsOf p.2.2).bind fun xs=>og (xs.contains x&&decide (xs.length≤lineN)) (.none,σ.set p.1 p.2.1 (.list ((xs.erase x).map .str)))
noncomputable def mIndex(σ:Sg)(v:V)(ws:List V):Option (V×Sg):=(v.asLst.bind strsOf).bind fun xs=>((one ws).bind V.asStr).bind fun x=>og (xs.contains x&&decide (xs.length≤lineN)) (.int (xs.idxOf x),σ)
noncomputable def mSplit0(T:Tabs)(σ:Sg)(v:V)(ws:List V):Option (V×Sg):=cond ws.isEmpty ((v.asStr.bind T.split0).map fun xs=>(.lst (xs.map .str),σ)) none
noncomputable def mSplit1(T:Tabs)(σ:Sg)(v:V)(ws:List V):Option (V×Sg):=v.asStr.bind fun x=>((one ws).bind V.asStr).bind fun y=>(T.split1 x y).map fun xs=>(.lst (xs.map .str),σ)
noncomputable def mStarts(T:Tabs)(σ:Sg)(v:V)(ws:List V):Option (V×Sg):=v.asStr.bind fun x=>((one ws).bind V.asStr).bind fun y=>(T.starts x y).map fun b=>(.bool b,σ)
noncomputable def mGet(σ:Sg)(v:V)(ws:List V):Option (V×Sg):=(v.asRef.bind fun p=>(σ.get p.1 p.2).bind Cell.asInts).bind fun f=>match ws with
  |i::ws=>i.asInt.bind fun i=>((one ws).bind V.asInt).map fun d=>(.int ((f.1 i).getD d),σ)
  | [] =>none
noncomputable def bmV(T:Tabs)(σ:Sg)(m:BM)(v:V)(ws:List V):Option (V×Sg):=match m with
  | .append=>mAppend σ v ws
  | .reverse=>mReverse σ v ws
  | .remove=>mRemove σ v ws
  | .index=>mIndex σ v ws
  | .split0=>mSplit0 T σ v ws
  | .split1=>mSplit1 T σ v ws
  | .starts=>mStarts T σ v ws
  | .get=>mGet σ v ws
noncomputable def setAttr(T:Tabs)(σ:Sg)(x:Nat)(v:V):V→Option Sg
  | .obj c o k=>(T.cls c).bind fun C=>((σ.get o k).bind Cell.asDict).bind fun p=>cond (C.names.contains x&&decide (p.1.length≤100)&&(o||v.free)) ((putF p.1 p.2 x v).map fun q=>σ.set o k (.dict q.1 q.2)) none
  |_=>none
noncomputable def setC(o:Bool)(u v:V):Cell→Option Cell
  | .list vs=>u.asInt.bind fun i=>og (decide (0≤i)&&decide (i<vs.length)&&decide (i<lineN)&&(o||v.free)) (.list (vs.set i.toNat v))
  | .idict f n=>u.asInt.bind fun i=>v.asInt.bind fun j=>og (decide (n≤lineN)) (.idict (fun a=>if a=i then some j else f a) (n+1))
  | .sdict ks vs=>u.asStr.bind fun x=>cond (decide (ks.length≤100)&&(o||v.free)) ((putF ks vs x v).map fun q=> .sdict q.1 q.2) none
  | .dict _ _=>none
noncomputable def setSub(σ:Sg)(w u v:V):Option Sg:=w.asRef.bind fun p=>((σ.get p.1 p.2).bind (setC p.1 u v)).map (σ.set p.1 p.2)
noncomputable def compS(T:Tabs)(v:V):Option (List V):=v.asLst.bind fun vs=>cond (decide (vs.length≤lineN)) ((strsOf vs).map fun xs=>(xs.filter (· !=T.empty)).map .str) none
noncomputable def compI(v:V):Option (List V):=v.asLst.bind fun vs=>cond (decide (vs.length≤lineN)) ((intsOf vs).map fun _=>vs) none
noncomputable def nowFrz(names:List Nat)(c:Nat)(own:List Cell)(v:V)(σ:Sg):R V:=R.grd v.isNone (R.opt (σ.own.head?.bind Cell.asDict) fun p=>R.grd (decide (p.1=names)&&freeL p.2) (.ok (.inst c p.2) ⟨σ.rw,own⟩))
noncomputable def construct(T:Tabs)(K:Nat→List V→Sg→R V)(c:Nat)(vs:List V)(σ:Sg):R V:=R.opt (T.cls c) fun C=>cond C.frozen
    (R.grd (freeL vs) ((K C.init (.obj c true 0::vs) ⟨σ.rw,[.dict [] []]⟩).only (nowFrz C.names c σ.own)))
    ((K C.init (.obj c false σ.rw.length::vs) ⟨σ.rw++ [.dict [] []],σ.own⟩).only fun v σ'=>R.grd v.isNone (.ok (.obj c false σ.rw.length) σ'))
noncomputable def callV(T:Tabs)(K:Nat→List V→Sg→R V)(f:V)(vs:List V)(σ:Sg):R V:=match f with
  | .fn f=>K f vs σ
  | .cls c=>construct T K c vs σ
  | .prim p=>R.opt (primV T σ p vs) fun v=> .ok v σ
  |_=> .stuck
noncomputable def mlook(T:Tabs)(σ:Sg)(x:Nat)(v:V):Option (Nat×List V):=match v with
  | .inst c _=>(T.cls c).bind fun C=>(C.meths.lookup x).map fun f=>(f,[v])
  | .obj c o k=>(T.cls c).bind fun C=>((σ.get o k).bind Cell.asDict).bind fun p=>cond (p.1.contains x) none ((C.meths.lookup x).map fun f=>(f,[v]))
  | .cls c=>(T.cls c).bind fun C=>(C.meths.lookup x).map fun f=>(f,[])
  |_=>none
noncomputable def bmOk(σ:Sg)(m:BM)(v:V):Bool:=match m with
  | .append=>(lstAt σ v).isSome
  | .reverse=>(lstAt σ v).isSome
  | .remove=>(lstAt σ v).isSome
  | .index=>v.asLst.isSome
  | .split0=>v.asStr.isSome
  | .split1=>v.asStr.isSome
  | .starts=>v.asStr.isSome
  | .get=>(v.asRef.bind fun p=>(σ.get p.1 p.2).bind Cell.asInts).isSome
noncomputable def cutV(T:Tabs)(σ:Sg)(v:V)(i:Nat):Option V:=match v with
  | .str x=>(T.cut x i).map .str
  | .ref o k=>((σ.get o k).bind Cell.asList).bind fun vs=>og (decide (vs.length≤lineN)) (.lst (vs.drop i))
  |_=>none
mutual
noncomputable def evalE(T:Tabs)(K:Nat→List V→Sg→R V)(fn:Fn)(ρ:List (Option V)):Ex→Sg→R V
  | .loc i _,σ=>R.opt (ρ[i]?.bind id) fun v=> .ok v σ
  | .glob i _,σ=>R.opt fn.gv[i]? fun v=> .ok v σ
  | .int i _ _,σ=> .ok (.int i) σ
  | .str x _ _,σ=> .ok (.str x) σ
  | .bool b _ _,σ=> .ok (.bool b) σ
  | .none _ _,σ=> .ok .none σ
  | .bin op a b _,σ=>(evalE T K fn ρ a σ).bind fun v σ=>(evalE T K fn ρ b σ).bind fun w σ=>R.opt (binV op v w) fun u=> .ok u σ
  | .mulM o a b _,σ=>(evalE T K fn ρ a σ).bind fun v σ=>(evalE T K fn ρ b σ).bind fun w σ=>R.opt (v.asLst.bind one) fun v=>R.opt w.asInt fun i=>
      R.grd (decide (0≤i)&&decide (i≤1000)&&(o||v.free)) (.ok (.ref o (σ.nxt o)) (σ.new o (.list (List.replicate i.toNat v))))
  | .neg a _,σ=>(evalE T K fn ρ a σ).bind fun v σ=>R.opt v.asInt fun i=> .ok (.int (-i)) σ
  | .not a _,σ=>(evalE T K fn ρ a σ).bind fun v σ=>R.opt v.asBool fun b=> .ok (.bool (!b)) σ
  | .cmp op a b _,σ=>(evalE T K fn ρ a σ).bind fun v σ=>(evalE T K fn ρ b σ).bind fun w σ=>R.opt (cmpV σ op v w) fun u=> .ok (.bool u) σ
  | .cmp2 op op' a b c _,σ=>(evalE T K fn ρ a σ).bind fun v σ=>(evalE T K fn ρ b σ).bind fun w σ=>R.opt v.asInt fun i=>R.opt w.asInt fun j=>R.opt (cmpI op i j) fun d=>cond d
      ((evalE T K fn ρ c σ).bind fun u σ=>R.opt u.asInt fun k=>R.opt (cmpI op' j k) fun d=> .ok (.bool d) σ)
      (.ok (.bool false) σ)
  | .and es _,σ=>R.grd (!es.isEmpty) (evalAnd T K fn ρ es σ)
  | .or es _,σ=>R.grd (!es.isEmpty) (evalOr T K fn ρ es σ)
  | .ite t a b _,σ=>(evalE T K fn ρ t σ).bind fun v σ=>R.opt v.asBool fun c=>cond c (evalE T K fn ρ a σ) (evalE T K fn ρ b σ)
  | .tup es _ _,σ=>(evalEs T K fn ρ es σ).bind fun v σ=>R.opt v.asTup fun vs=>R.grd (decide (vs.length≤lineN)) (.ok (.tup vs) σ)
  | .lst es _,σ=>(evalEs T K fn ρ es σ).bind fun v σ=>R.opt v.asTup fun vs=>R.grd (decide (vs.length≤lineN)) (.ok (.lst vs) σ)
  | .lstM o es _,σ=>(evalEs T K fn ρ es σ).bind fun v σ=>R.opt v.asTup fun vs=>R.grd (decide (vs.length≤lineN)&&(o||freeL vs)) (.ok (.ref o (σ.nxt o)) (σ.new o (.list vs)))
  | .dictI o _,σ=> .ok (.ref o (σ.nxt o)) (σ.new o (.idict (fun _=>none) 0))
  | .dictS o xs es _,σ=>R.grd (es.all isC) ((evalEs T K fn ρ es σ).bind fun v σ=>R.opt v.asTup fun vs=>
      R.grd (decide (vs.length=xs.length)&&decide (vs.length≤15)&&decide (xs.map (·.1)).Nodup) (.ok (.ref o (σ.nxt o)) (σ.new o (.sdict (xs.map (·.1)) vs))))
  | .attr a x _,σ=>(evalE T K fn ρ a σ).bind fun v σ=>R.opt (attrV T σ x v) fun u=> .ok u σ
  | .sub a b _,σ=>(evalE T K fn ρ a σ).bind fun v σ=>(evalE T K fn ρ b σ).bind fun w σ=>R.opt (subV T σ v w) fun u=> .ok u σ
  | .slcTo a h _ _,σ=>(evalE T K fn ρ a σ).bind fun v σ=>(evalE T K fn ρ h σ).bind fun w σ=>R.opt v.asLst fun vs=>R.opt w.asInt fun i=>
      R.grd (decide (0≤i)&&decide (vs.length≤lineN)) (.ok (.lst (vs.take i.toNat)) σ)
  | .slcOn a l _ _,σ=>(evalE T K fn ρ a σ).bind fun v σ=>(evalE T K fn ρ l σ).bind fun w σ=>R.opt w.asInt fun i=>R.grd (decide (0≤i)) (R.opt (cutV T σ v i.toNat) fun u=> .ok u σ)
  | .call f es _,σ=>R.grd (isN f) ((evalE T K fn ρ f σ).bind fun g σ=>(evalEs T K fn ρ es σ).bind fun v σ=>R.opt v.asTup fun vs=>callV T K g vs σ)
  | .meth a x es _ _,σ=>R.grd (decide (es.length<29)) ((evalE T K fn ρ a σ).bind fun v σ=>R.opt (mlook T σ x v) fun p=>(evalEs T K fn ρ es σ).bind fun v σ=>R.opt v.asTup fun vs=>K p.1 (p.2++vs) σ)
  | .bm m a es _ _,σ=>R.grd (decide (es.length<29)) ((evalE T K fn ρ a σ).bind fun v σ=>R.grd (bmOk σ m v) ((evalEs T K fn ρ es σ).bind fun u σ=>R.opt u.asTup fun vs=>R.opt (bmV T σ m v vs) fun p=> .ok p.1 p.2))
  | .comp1 a x y _ _ _ _ _,σ=>R.grd (decide (y=T.int)&& !(decide (x=y))) ((evalE T K fn ρ a σ).bind fun v σ=>R.opt (compI v) fun vs=> .ok (.lst vs) σ)
noncomputable def evalEs(T:Tabs)(K:Nat→List V→Sg→R V)(fn:Fn)(ρ:List (Option V)):List Ex→Sg→R V
  | [],σ=> .ok (.tup []) σ
  |e::es,σ=>(evalE T K fn ρ e σ).bind fun v σ=>(evalEs T K fn ρ es σ).bind fun u σ=>R.opt u.asTup fun vs=> .ok (.tup (v::vs)) σ
noncomputable def evalAnd(T:Tabs)(K:Nat→List V→Sg→R V)(fn:Fn)(ρ:List (Option V)):List Ex→Sg→R V
  | [],σ=> .ok (.bool true) σ
  |e::es,σ=>(evalE T K fn ρ e σ).bind fun v σ=>R.opt v.asBool fun b=>cond b (evalAnd T K fn ρ es σ) (.ok (.bool false) σ)
noncomputable def evalOr(T:Tabs)(K:Nat→List V→Sg→R V)(fn:Fn)(ρ:List (Option V)):List Ex→Sg→R V
  | [],σ=> .ok (.bool false) σ
  |e::es,σ=>(evalE T K fn ρ e σ).bind fun v σ=>R.opt v.asBool fun b=>cond b (.ok (.bool true) σ) (evalOr T K fn ρ es σ)
end
set_option genCtorIdx true in
inductive Out where
  |next (ρ:List (Option V))
  |ret (v:V)
noncomputable def Out.val:Out→V | .next _=> .none | .ret v=>v
noncomputable def Out.on(f:List (Option V)→Sg→R Out)(o:Out)(σ:Sg):R Out:=match o with | .next ρ=>f ρ σ | .ret v=> .ok (.ret v) σ
noncomputable def assignT(T:Tabs)(K:Nat→List V→Sg→R V)(fn:Fn)(ρ:List (Option V))(v:V):Tg→Sg→R Out
  | .loc i _,σ=>R.grd (decide (i<ρ.length)) (.ok (.next (ρ.set i (some v))) σ)
  | .attr a x _,σ=>(evalE T K fn ρ a σ).bind fun o σ=>R.opt (setAttr T σ x v o) fun σ=> .ok (.next ρ) σ
  | .sub a b _,σ=>(evalE T K fn ρ a σ).bind fun o σ=>(evalE T K fn ρ b σ).bind fun i σ=>R.opt (setSub σ o i v) fun σ=> .ok (.next ρ) σ
noncomputable def assignTs(T:Tabs)(K:Nat→List V→Sg→R V)(fn:Fn):List Tg→List V→List (Option V)→Sg→R Out
  | [],vs,ρ,σ=>R.grd vs.isEmpty (.ok (.next ρ) σ)
  | t::ts,vs,ρ,σ=>match vs with
    | [] => .stuck
    |v::vs=>(assignT T K fn ρ v t σ).bind (Out.on (assignTs T K fn ts vs))
noncomputable def loopW(t:List (Option V)→Sg→R V)(b:List (Option V)→Sg→R Out):Nat→List (Option V)→Sg→R Out
  |0,_,_=> .stuck
  |n+1,ρ,σ=>(t ρ σ).bind fun v σ=>R.opt v.asBool fun c=>cond c ((b ρ σ).bind (Out.on (loopW t b n))) (.ok (.next ρ) σ)
noncomputable def loopF(b:V→List (Option V)→Sg→R Out):List V→List (Option V)→Sg→R Out
  | [],ρ,σ=> .ok (.next ρ) σ
  |v::vs,ρ,σ=>(b v ρ σ).bind (Out.on (loopF b vs))
noncomputable def iterV:V→Option (List V)
  | .lst vs=>some vs
  | .tup vs=>some vs
  | .rng n=>og (decide (0≤n)&&decide (n≤1000)) ((List.range n.toNat).map fun(i:Nat)=> .int i)
  |_=>none
mutual
noncomputable def evalS(T:Tabs)(K:Nat→List V→Sg→R V)(fn:Fn):Sx→List (Option V)→Sg→R Out
  | .asg t e _,ρ,σ=>R.grd (!isComp e) ((evalE T K fn ρ e σ).bind fun v σ=>assignT T K fn ρ v t σ)
  | .asgT ts _ _ e _,ρ,σ=>R.grd (!isComp e&&(!isTup e|| !ts.all (isLocT fn.cl))&&ts.all (locIn fn.ns.length)) ((evalE T K fn ρ e σ).bind fun v σ=>R.opt v.asTup fun vs=>R.grd (decide (ts.length=vs.length)) (assignTs T K fn ts vs ρ σ))
  | .asgW i j _ _ _ _ a b _ _ _,ρ,σ=>R.grd (!(decide (i=j))&&decide (i<ρ.length)&&decide (j<ρ.length)&&nonC a&& !(fn.cl.contains i)&& !(fn.cl.contains j))
      ((evalE T K fn ρ a σ).bind fun v σ=>(evalE T K fn ρ b σ).bind fun w σ=> .ok (.next ((ρ.set j (some w)).set i (some v))) σ)
  | .asgW3 i j l _ _ _ _ _ a b c _ _ _,ρ,σ=>R.grd (!(decide (i=j))&& !(decide (i=l))&& !(decide (j=l))&&decide (i<ρ.length)&&decide (j<ρ.length)&&decide (l<ρ.length)&&nonC a&& !(fn.cl.contains i)&& !(fn.cl.contains j)&& !(fn.cl.contains l))
      ((evalE T K fn ρ a σ).bind fun u σ=>(evalE T K fn ρ b σ).bind fun v σ=>(evalE T K fn ρ c σ).bind fun w σ=> .ok (.next (((ρ.set l (some w)).set j (some v)).set i (some u))) σ)
  | .asgC i _ e x _ _ _ _ _ _ _ _,ρ,σ=>R.grd (decide (i<ρ.length)&& !(decide (fn.ns.getD i 0=x))&& !(fn.cl.contains i)) ((evalE T K fn ρ e σ).bind fun v σ=>R.opt (compS T v) fun vs=> .ok (.next (ρ.set i (some (.ref true (σ.nxt true))))) (σ.new true (.list vs)))
  | .ex e _,ρ,σ=>R.grd (!isComp e) ((evalE T K fn ρ e σ).bind fun v σ=>R.grd v.quiet (.ok (.next ρ) σ))
  | .ret e _,ρ,σ=>(evalE T K fn ρ e σ).bind fun v σ=> .ok (.ret v) σ
  | .ret0 _,_,σ=> .ok (.ret .none) σ
  | .ifs t b c _,ρ,σ=>(evalE T K fn ρ t σ).bind fun v σ=>R.opt v.asBool fun d=>cond d (evalSs T K fn b ρ σ) (evalSs T K fn c ρ σ)
  | .whl t b _,ρ,σ=>loopW (fun ρ σ=>evalE T K fn ρ t σ) (fun ρ σ=>evalSs T K fn b ρ σ) 20 ρ σ
  | .for i _ e b _,ρ,σ=>(evalE T K fn ρ e σ).bind fun v σ=>R.opt (iterV v) fun vs=>loopF (fun v ρ σ=>R.grd (decide (i<ρ.length)) (evalSs T K fn b (ρ.set i (some v)) σ)) vs ρ σ
  | .raise e _,ρ,σ=>R.opt (madeOf e) fun p=>R.opt (fn.gv[p.1]?.bind V.asCls) fun c=>R.grd (T.exc c) ((evalEs T K fn ρ p.2 σ).bind fun v σ=>R.opt ((v.asTup.bind one).bind V.asStr) fun _=> .exc c σ)
noncomputable def evalSs(T:Tabs)(K:Nat→List V→Sg→R V)(fn:Fn):List Sx→List (Option V)→Sg→R Out
  | [],ρ,σ=> .ok (.next ρ) σ
  |s::ss,ρ,σ=>(evalS T K fn s ρ σ).bind (Out.on fun ρ σ=>evalSs T K fn ss ρ σ)
end
noncomputable def frz1(own:List Cell)(v:V):Option V:=match v with
  | .ref o k=>cond o ((own[k]?.bind Cell.asList).bind fun vs=>og (freeL vs) (.lst vs)) (some v)
  |v=>og v.free v
noncomputable def frzL(own:List Cell):List V→Option (List V)
  | [] =>some []
  |v::vs=>(frz1 own v).bind fun w=>(frzL own vs).map (w:: ·)
noncomputable def frz(own:List Cell)(v:V):Option V:=match v.asTup with
  |some vs=>(frzL own vs).map .tup
  |none=>frz1 own v
noncomputable def bindV(fn:Fn)(vs:List V):Option (List (Option V)):=
  og (decide (vs.length≤fn.np)&&decide (fn.np≤vs.length+fn.defs.length))
    ((vs++fn.defs.drop (vs.length+fn.defs.length-fn.np)).map some++List.replicate (fn.ns.length-fn.np) none)
noncomputable def outR(r:R Out):R V:=r.bind fun o σ=> .ok o.val σ
noncomputable def runFn(T:Tabs)(K:Nat→List V→Sg→R V)(fn:Fn)(vs:List V)(σ:Sg):R V:=R.opt (bindV fn vs) fun ρ=>cond fn.pure
    (R.grd (freeL vs) ((evalSs T K fn fn.body ρ ⟨σ.rw,[]⟩).only fun o σ'=>R.opt (frz σ'.own o.val) fun v=> .ok v ⟨σ'.rw,σ.own⟩))
    (outR (evalSs T K fn fn.body ρ σ))
noncomputable def call(T:Tabs):Nat→Nat→List V→Sg→R V
  |0,_,_,_=> .stuck
  |n+1,f,vs,σ=>R.opt (T.fn f) fun fn=>runFn T (call T n) fn vs σ
end Mine
end
section
open PySem
set_option maxRecDepth 100000
set_option backward.match.sparseCases false
set_option genInjectivity false
set_option genSizeOf false
namespace Mine
noncomputable abbrev Z(l a b:Nat):Pos:=⟨l,a,l,b⟩
noncomputable def b_mask:List Sx:= [(.ret (.bin .Sub (.bin .LShift (.int 1 0 (Z 23 12 13)) (.loc 0 (Z 23 17 21)) (Z 23 12 21)) (.int 1 0 (Z 23 25 26)) (Z 23 11 26)) (Z 23 4 26))]
noncomputable def f_mask:Fn:=⟨1,[0],[],[],[],false,b_mask,[]⟩
noncomputable def b_wrap:List Sx:= [(.ret (.bin .BitAnd (.loc 0 (Z 25 11 16)) (.call (.glob 0 (Z 25 19 23)) [(.loc 1 (Z 25 24 28))] (Z 25 19 29)) (Z 25 11 29)) (Z 25 4 29))]
noncomputable def f_wrap:Fn:=⟨2,[1,0],[2],[(.fn 0)],[],false,b_wrap,[]⟩
noncomputable def b_0:List Sx:= [(.asg (.loc 2 (Z 27 4 7)) (.call (.glob 0 (Z 27 10 14)) [(.loc 0 (Z 27 15 20)),(.loc 1 (Z 27 22 26))] (Z 27 10 27)) (Z 27 4 27)),
  (.ifs (.cmp .Eq (.bin .RShift (.loc 2 (Z 28 7 10)) (.bin .Sub (.loc 1 (Z 28 14 18)) (.int 1 0 (Z 28 21 22)) (Z 28 14 22)) (Z 28 7 22)) (.int 1 0 (Z 28 26 27)) (Z 28 7 27)) [(.ret (.bin .Sub (.loc 2 (Z 29 15 18)) (.bin .LShift (.int 1 0 (Z 29 22 23)) (.loc 1 (Z 29 27 31)) (Z 29 22 31)) (Z 29 15 32)) (Z 29 8 32))] [] ⟨28,4,29,32⟩),
  (.ret (.loc 2 (Z 30 11 14)) (Z 30 4 14))]
noncomputable def f_0:Fn:=⟨2,[1,0,3],[4],[(.fn 1)],[],false,b_0,[]⟩
noncomputable def b_1:List Sx:= [(.asg (.loc 2 (Z 32 4 8)) (.bin .LShift (.int 1 0 (Z 32 11 12)) (.bin .Sub (.loc 1 (Z 32 16 20)) (.int 1 0 (Z 32 23 24)) (Z 32 16 24)) (Z 32 11 24)) (Z 32 4 24)),
  (.ret (.cmp2 .LtE .Lt (.neg (.loc 2 (Z 33 12 16)) (Z 33 11 16)) (.loc 0 (Z 33 20 25)) (.loc 2 (Z 33 28 32)) (Z 33 11 32)) (Z 33 4 32))]
noncomputable def f_1:Fn:=⟨2,[1,0,5],[],[],[],false,b_1,[]⟩
noncomputable def b_bit:List Sx:= [(.ret (.bin .BitAnd (.bin .RShift (.loc 0 (Z 37 11 16)) (.loc 1 (Z 37 20 21)) (Z 37 11 21)) (.int 1 0 (Z 37 24 25)) (Z 37 11 25)) (Z 37 4 25))]
noncomputable def f_bit:Fn:=⟨2,[1,6],[],[],[],false,b_bit,[]⟩
noncomputable def b_ones:List Sx:= [(.asg (.loc 2 (Z 39 4 8)) (.call (.glob 0 (Z 39 11 15)) [(.loc 0 (Z 39 16 21)),(.loc 1 (Z 39 23 27))] (Z 39 11 28)) (Z 39 4 28)),
  (.asg (.loc 3 (Z 40 4 9)) (.int 0 0 (Z 40 12 13)) (Z 40 4 13)),
  (.whl (.cmp .Gt (.loc 2 (Z 41 10 14)) (.int 0 0 (Z 41 17 18)) (Z 41 10 18)) [(.asg (.loc 2 (Z 42 8 12)) (.bin .BitAnd (.loc 2 (Z 42 15 19)) (.bin .Sub (.loc 2 (Z 42 22 26)) (.int 1 0 (Z 42 29 30)) (Z 42 22 30)) (Z 42 15 30)) (Z 42 8 30)),
  (.asg (.loc 3 (Z 43 8 13)) (.bin .Add (.loc 3 (Z 43 16 21)) (.int 1 0 (Z 43 24 25)) (Z 43 16 25)) (Z 43 8 25))] ⟨41,4,43,25⟩),
  (.ret (.loc 3 (Z 44 11 16)) (Z 44 4 16))]
noncomputable def f_ones:Fn:=⟨2,[1,0,7,8],[4],[(.fn 1)],[],false,b_ones,[]⟩
noncomputable def b_2:List Sx:= [(.ret (.bin .Sub (.int 1 0 (Z 46 11 12)) (.bin .Mod (.call (.glob 0 (Z 46 15 19)) [(.loc 0 (Z 46 20 25)),(.int 8 0 (Z 46 27 28))] (Z 46 15 29)) (.int 2 0 (Z 46 32 33)) (Z 46 15 33)) (Z 46 11 33)) (Z 46 4 33))]
noncomputable def f_2:Fn:=⟨1,[1],[9],[(.fn 5)],[],false,b_2,[]⟩
noncomputable def b_3:List Sx:= [(.asg (.loc 1 (Z 96 4 9)) (.lstM true [] (Z 96 12 14)) (Z 96 4 14)),
  (.asg (.loc 2 (Z 97 4 9)) (.loc 0 (Z 97 12 16)) (Z 97 4 16)),
  (.whl (.cmp .Eq (.attr (.loc 2 (Z 98 10 15)) 10 (Z 98 10 20)) (.str 11 0 (Z 98 24 32)) (Z 98 10 32)) [(.ex (.bm .append (.loc 1 (Z 99 8 13)) [(.loc 2 (Z 99 21 26))] (Z 99 8 20) (Z 99 8 27)) (Z 99 8 27)),
  (.asg (.loc 2 (Z 100 8 13)) (.attr (.loc 2 (Z 100 16 21)) 12 (Z 100 16 26)) (Z 100 8 26))] ⟨98,4,100,26⟩),
  (.ex (.bm .reverse (.loc 1 (Z 101 4 9)) [] (Z 101 4 17) (Z 101 4 19)) (Z 101 4 19)),
  (.ret (.tup [(.loc 2 (Z 102 12 17)),(.loc 1 (Z 102 19 24))] 0 (Z 102 11 25)) (Z 102 4 25))]
noncomputable def f_3:Fn:=⟨1,[13,14,15],[],[],[],true,b_3,[]⟩
noncomputable def b_4:List Sx:= [(.asgC 4 (Z 128 4 9) (.loc 1 (Z 128 30 36)) 16 (Z 128 13 17) (Z 128 22 26) (Z 128 40 44) (Z 128 48 50) (Z 128 40 50) 0 (Z 128 12 51) (Z 128 4 51)),
  (.asg (.loc 5 (Z 129 4 9)) (.lstM true [] (Z 129 12 14)) (Z 129 4 14)),
  (.for 3 (Z 130 8 12) (.loc 2 (Z 130 16 23)) [(.ifs (.and [(.cmp .NotEq (.loc 3 (Z 131 11 15)) (.str 17 0 (Z 131 19 21)) (Z 131 11 21)),(.cmp .In (.loc 3 (Z 131 26 30)) (.loc 4 (Z 131 34 39)) (Z 131 26 39))] (Z 131 11 39)) [(.ex (.bm .remove (.loc 4 (Z 132 12 17)) [(.loc 3 (Z 132 25 29))] (Z 132 12 24) (Z 132 12 30)) (Z 132 12 30))] [(.ifs (.cmp .NotEq (.loc 3 (Z 133 13 17)) (.str 17 0 (Z 133 21 23)) (Z 133 13 23)) [(.ex (.bm .append (.loc 5 (Z 134 12 17)) [(.loc 3 (Z 134 25 29))] (Z 134 12 24) (Z 134 12 30)) (Z 134 12 30))] [] ⟨133,8,134,30⟩)] ⟨131,8,134,30⟩)] ⟨130,4,134,30⟩),
  (.ifs (.or [(.cmp .Gt (.call (.glob 0 (Z 135 7 10)) [(.loc 4 (Z 135 11 16))] (Z 135 7 17)) (.int 1 0 (Z 135 20 21)) (Z 135 7 21)),(.cmp .Gt (.call (.glob 0 (Z 135 25 28)) [(.loc 5 (Z 135 29 34))] (Z 135 25 35)) (.int 1 0 (Z 135 38 39)) (Z 135 25 39))] (Z 135 7 39)) [(.raise (.call (.glob 1 (Z 136 14 25)) [(.str 18 0 (Z 136 26 69))] (Z 136 14 70)) (Z 136 8 70))] [] ⟨135,4,136,70⟩),
  (.ret (.call (.glob 2 (Z 137 11 17)) [(.loc 0 (Z 137 18 23)),(.ite (.cmp .NotEq (.loc 4 (Z 137 37 42)) (.lst [] (Z 137 46 48)) (Z 137 37 48)) (.sub (.loc 4 (Z 137 25 30)) (.int 0 0 (Z 137 31 32)) (Z 137 25 33)) (.str 17 0 (Z 137 54 56)) (Z 137 25 56)),(.ite (.cmp .NotEq (.loc 5 (Z 137 70 75)) (.lst [] (Z 137 79 81)) (Z 137 70 81)) (.sub (.loc 5 (Z 137 58 63)) (.int 0 0 (Z 137 64 65)) (Z 137 58 66)) (.str 17 0 (Z 137 87 89)) (Z 137 58 89))] (Z 137 11 90)) (Z 137 4 90))]
noncomputable def f_4:Fn:=⟨3,[1,19,20,16,21,22],[23,24,25],[(.prim 0),(.cls 1071),(.cls 4)],[],true,b_4,[]⟩
noncomputable def b_5:List Sx:= [(.ifs (.cmp .Eq (.loc 1 (Z 162 7 12)) (.int 0 0 (Z 162 16 17)) (Z 162 7 17)) [(.raise (.call (.glob 0 (Z 163 14 25)) [(.str 26 0 (Z 163 26 44))] (Z 163 14 45)) (Z 163 8 45))] [] ⟨162,4,163,45⟩),
  (.ifs (.cmp .NotEq (.cmp .Lt (.loc 0 (Z 164 8 11)) (.int 0 0 (Z 164 14 15)) (Z 164 8 15)) (.cmp .Lt (.loc 1 (Z 164 21 26)) (.int 0 0 (Z 164 29 30)) (Z 164 21 30)) (Z 164 7 31)) [(.ret (.neg (.bin .FloorDiv (.call (.glob 1 (Z 165 17 20)) [(.loc 0 (Z 165 21 24))] (Z 165 17 25)) (.call (.glob 1 (Z 165 29 32)) [(.loc 1 (Z 165 33 38))] (Z 165 29 39)) (Z 165 17 39)) (Z 165 15 40)) (Z 165 8 40))] [] ⟨164,4,165,40⟩),
  (.ret (.bin .FloorDiv (.call (.glob 1 (Z 166 11 14)) [(.loc 0 (Z 166 15 18))] (Z 166 11 19)) (.call (.glob 1 (Z 166 23 26)) [(.loc 1 (Z 166 27 32))] (Z 166 23 33)) (Z 166 11 33)) (Z 166 4 33))]
noncomputable def f_5:Fn:=⟨2,[27,28],[24,29],[(.cls 1071),(.prim 2)],[],false,b_5,[]⟩
noncomputable def b_6:List Sx:= [(.ifs (.or [(.cmp .Lt (.loc 2 (Z 169 7 12)) (.int 0 0 (Z 169 15 16)) (Z 169 7 16)),(.cmp .Gt (.loc 2 (Z 169 20 25)) (.glob 0 (Z 169 28 38)) (Z 169 20 38))] (Z 169 7 38)) [(.raise (.call (.glob 1 (Z 170 14 25)) [(.str 30 0 (Z 170 26 39))] (Z 170 14 40)) (Z 170 8 40))] [] ⟨169,4,170,40⟩),
  (.ifs (.cmp .Eq (.loc 0 (Z 171 7 11)) (.str 31 0 (Z 171 15 19)) (Z 171 7 19)) [(.ret (.bin .LShift (.loc 1 (Z 172 15 18)) (.loc 2 (Z 172 22 27)) (Z 172 15 27)) (Z 172 8 27))] [] ⟨171,4,172,27⟩),
  (.ret (.bin .RShift (.loc 1 (Z 173 11 14)) (.loc 2 (Z 173 18 23)) (Z 173 11 23)) (Z 173 4 23))]
noncomputable def f_6:Fn:=⟨3,[32,27,8],[33,24],[(.int 63),(.cls 1071)],[],false,b_6,[]⟩
noncomputable def b_7:List Sx:= [(.ifs (.cmp .Eq (.loc 0 (Z 176 7 11)) (.str 34 0 (Z 176 15 18)) (Z 176 7 18)) [(.ret (.bin .Mult (.loc 1 (Z 177 15 18)) (.loc 2 (Z 177 21 26)) (Z 177 15 26)) (Z 177 8 26))] [] ⟨176,4,177,26⟩),
  (.ifs (.cmp .Eq (.loc 0 (Z 178 7 11)) (.str 35 0 (Z 178 15 18)) (Z 178 7 18)) [(.ret (.call (.glob 0 (Z 179 15 35)) [(.loc 1 (Z 179 36 39)),(.loc 2 (Z 179 41 46))] (Z 179 15 47)) (Z 179 8 47))] [] ⟨178,4,179,47⟩),
  (.ifs (.cmp .Eq (.loc 0 (Z 180 7 11)) (.str 36 0 (Z 180 15 18)) (Z 180 7 18)) [(.ret (.bin .Sub (.loc 1 (Z 181 15 18)) (.bin .Mult (.loc 2 (Z 181 21 26)) (.call (.glob 0 (Z 181 29 49)) [(.loc 1 (Z 181 50 53)),(.loc 2 (Z 181 55 60))] (Z 181 29 61)) (Z 181 21 61)) (Z 181 15 61)) (Z 181 8 61))] [] ⟨180,4,181,61⟩),
  (.ifs (.cmp .Eq (.loc 0 (Z 182 7 11)) (.str 37 0 (Z 182 15 18)) (Z 182 7 18)) [(.ret (.bin .BitOr (.loc 1 (Z 183 15 18)) (.loc 2 (Z 183 21 26)) (Z 183 15 26)) (Z 183 8 26))] [] ⟨182,4,183,26⟩),
  (.ifs (.cmp .Eq (.loc 0 (Z 184 7 11)) (.str 38 0 (Z 184 15 18)) (Z 184 7 18)) [(.ret (.bin .BitAnd (.loc 1 (Z 185 15 18)) (.loc 2 (Z 185 21 26)) (Z 185 15 26)) (Z 185 8 26))] [] ⟨184,4,185,26⟩),
  (.ifs (.cmp .Eq (.loc 0 (Z 186 7 11)) (.str 39 0 (Z 186 15 18)) (Z 186 7 18)) [(.ret (.bin .BitXor (.loc 1 (Z 187 15 18)) (.loc 2 (Z 187 21 26)) (Z 187 15 26)) (Z 187 8 26))] [] ⟨186,4,187,26⟩),
  (.ret (.call (.glob 1 (Z 188 11 30)) [(.loc 0 (Z 188 31 35)),(.loc 1 (Z 188 37 40)),(.loc 2 (Z 188 42 47))] (Z 188 11 48)) (Z 188 4 48))]
noncomputable def f_7:Fn:=⟨3,[32,27,28],[40,41],[(.fn 9),(.fn 10)],[],false,b_7,[]⟩
noncomputable def b_8:List Sx:= [(.ifs (.cmp .Eq (.loc 0 (Z 190 7 11)) (.str 42 0 (Z 190 15 18)) (Z 190 7 18)) [(.ret (.meth (.loc 1 (Z 191 15 19)) 43 [(.loc 2 (Z 191 24 29))] (Z 191 15 23) (Z 191 15 30)) (Z 191 8 30))] [] ⟨190,4,191,30⟩),
  (.ifs (.cmp .Eq (.loc 0 (Z 192 7 11)) (.str 44 0 (Z 192 15 18)) (Z 192 7 18)) [(.ret (.meth (.loc 1 (Z 193 15 19)) 43 [(.meth (.loc 2 (Z 193 24 29)) 45 [] (Z 193 24 36) (Z 193 24 38))] (Z 193 15 23) (Z 193 15 39)) (Z 193 8 39))] [] ⟨192,4,193,39⟩),
  (.ifs (.or [(.not (.meth (.loc 1 (Z 194 11 15)) 46 [] (Z 194 11 25) (Z 194 11 27)) (Z 194 7 27)),(.not (.meth (.loc 2 (Z 194 35 40)) 46 [] (Z 194 35 50) (Z 194 35 52)) (Z 194 31 52))] (Z 194 7 52)) [(.raise (.call (.glob 0 (Z 195 14 25)) [(.bin .Add (.str 47 0 (Z 195 26 45)) (.loc 0 (Z 195 48 52)) (Z 195 26 52))] (Z 195 14 53)) (Z 195 8 53))] [] ⟨194,4,195,53⟩),
  (.ret (.call (.glob 1 (Z 196 11 17)) [(.call (.glob 2 (Z 196 18 26)) [(.loc 0 (Z 196 27 31)),(.attr (.loc 1 (Z 196 33 37)) 1 (Z 196 33 43)),(.attr (.loc 2 (Z 196 45 50)) 1 (Z 196 45 56))] (Z 196 18 57))] (Z 196 11 58)) (Z 196 4 58))]
noncomputable def f_8:Fn:=⟨3,[32,12,48],[24,25,49],[(.cls 1071),(.cls 4),(.fn 11)],[],false,b_8,[]⟩
noncomputable def b_9:List Sx:= [(.ifs (.cmp .Eq (.loc 0 (Z 199 7 11)) (.str 44 0 (Z 199 15 18)) (Z 199 7 18)) [(.ret (.meth (.loc 1 (Z 200 15 21)) 45 [] (Z 200 15 28) (Z 200 15 30)) (Z 200 8 30))] [] ⟨199,4,200,30⟩),
  (.ifs (.not (.meth (.loc 1 (Z 201 11 17)) 46 [] (Z 201 11 27) (Z 201 11 29)) (Z 201 7 29)) [(.raise (.call (.glob 0 (Z 202 14 25)) [(.bin .Add (.str 50 0 (Z 202 26 45)) (.loc 0 (Z 202 48 52)) (Z 202 26 52))] (Z 202 14 53)) (Z 202 8 53))] [] ⟨201,4,202,53⟩),
  (.ifs (.cmp .Eq (.loc 0 (Z 203 7 11)) (.str 51 0 (Z 203 15 18)) (Z 203 7 18)) [(.ret (.call (.glob 1 (Z 204 15 21)) [(.bin .Sub (.neg (.int 1 0 (Z 204 23 24)) (Z 204 22 24)) (.attr (.loc 1 (Z 204 27 33)) 1 (Z 204 27 39)) (Z 204 22 39))] (Z 204 15 40)) (Z 204 8 40))] [] ⟨203,4,204,40⟩),
  (.ret (.call (.glob 1 (Z 205 11 17)) [(.ite (.cmp .Eq (.attr (.loc 1 (Z 205 23 29)) 1 (Z 205 23 35)) (.int 0 0 (Z 205 39 40)) (Z 205 23 40)) (.int 1 0 (Z 205 18 19)) (.int 0 0 (Z 205 46 47)) (Z 205 18 47))] (Z 205 11 48)) (Z 205 4 48))]
noncomputable def f_9:Fn:=⟨2,[32,52],[24,25],[(.cls 1071),(.cls 4)],[],false,b_9,[]⟩
noncomputable def b_10:List Sx:= [(.asgT [(.loc 3 (Z 207 4 9)),(.loc 4 (Z 207 11 16))] 0 (Z 207 4 16) (.call (.glob 0 (Z 207 19 29)) [(.loc 0 (Z 207 30 34))] (Z 207 19 35)) (Z 207 4 35)),
  (.ifs (.cmp .Eq (.attr (.loc 3 (Z 208 7 12)) 10 (Z 208 7 17)) (.str 53 0 (Z 208 21 29)) (Z 208 7 29)) [(.asg (.loc 5 (Z 209 8 13)) (.call (.glob 1 (Z 209 16 22)) [(.attr (.loc 3 (Z 209 23 28)) 1 (Z 209 23 34))] (Z 209 16 35)) (Z 209 8 35))] [(.ifs (.cmp .Eq (.attr (.loc 3 (Z 210 9 14)) 10 (Z 210 9 19)) (.str 54 0 (Z 210 23 31)) (Z 210 9 31)) [(.asg (.loc 5 (Z 211 8 13)) (.meth (.loc 1 (Z 211 16 21)) 55 [(.attr (.loc 3 (Z 211 27 32)) 16 (Z 211 27 37))] (Z 211 16 26) (Z 211 16 38)) (Z 211 8 38))] [(.ifs (.cmp .Eq (.attr (.loc 3 (Z 212 9 14)) 10 (Z 212 9 19)) (.str 56 0 (Z 212 23 30)) (Z 212 9 30)) [(.asg (.loc 5 (Z 213 8 13)) (.call (.glob 2 (Z 213 16 22)) [(.attr (.loc 3 (Z 213 23 28)) 32 (Z 213 23 33)),(.call (.glob 3 (Z 213 35 43)) [(.attr (.loc 3 (Z 213 44 49)) 57 (Z 213 44 54)),(.loc 1 (Z 213 56 61)),(.loc 2 (Z 213 63 67))] (Z 213 35 68))] (Z 213 16 69)) (Z 213 8 69))] [(.ifs (.cmp .Eq (.loc 2 (Z 214 9 13)) (.str 17 0 (Z 214 17 19)) (Z 214 9 19)) [(.raise (.call (.glob 4 (Z 215 14 25)) [(.str 58 0 (Z 215 26 41))] (Z 215 14 42)) (Z 215 8 42))] [(.asg (.loc 5 (Z 217 8 13)) (.call (.glob 1 (Z 217 16 22)) [(.int 0 0 (Z 217 23 24)),(.loc 2 (Z 217 26 30))] (Z 217 16 31)) (Z 217 8 31))] ⟨214,4,217,31⟩)] ⟨212,4,217,31⟩)] ⟨210,4,217,31⟩)] ⟨208,4,217,31⟩),
  (.for 6 (Z 218 8 12) (.loc 4 (Z 218 16 21)) [(.asg (.loc 5 (Z 219 8 13)) (.call (.glob 5 (Z 219 16 36)) [(.attr (.loc 6 (Z 219 37 41)) 32 (Z 219 37 46)),(.loc 5 (Z 219 48 53)),(.call (.glob 3 (Z 219 55 63)) [(.attr (.loc 6 (Z 219 64 68)) 48 (Z 219 64 74)),(.loc 1 (Z 219 76 81)),(.loc 2 (Z 219 83 87))] (Z 219 55 88))] (Z 219 16 89)) (Z 219 8 89))] ⟨218,4,219,89⟩),
  (.ret (.loc 5 (Z 220 11 16)) (Z 220 4 16))]
noncomputable def f_10:Fn:=⟨3,[13,59,60,15,14,1,61],[62,25,63,64,24,65],[(.fn 7),(.cls 4),(.fn 13),(.fn 14),(.cls 1071),(.fn 12)],[(.str 17)],false,b_10,[]⟩
noncomputable def b_11:List Sx:= [(.ret (.bm .split1 (.glob 0 (Z 224 11 21)) [(.str 66 0 (Z 224 28 31))] (Z 224 11 27) (Z 224 11 32)) (Z 224 4 32))]
noncomputable def f_11:Fn:=⟨0,[],[68],[(.str 67)],[],false,b_11,[]⟩
noncomputable def b_12:List Sx:= [(.ifs (.cmp .NotIn (.loc 0 (Z 284 7 16)) (.call (.glob 0 (Z 284 24 39)) [] (Z 284 24 41)) (Z 284 7 41)) [(.raise (.call (.glob 1 (Z 285 14 26)) [(.str 69 0 (Z 285 27 38))] (Z 285 14 39)) (Z 285 8 39))] [] ⟨284,4,285,39⟩),
  (.ret (.bm .index (.call (.glob 0 (Z 286 11 26)) [] (Z 286 11 28)) [(.loc 0 (Z 286 35 44))] (Z 286 11 34) (Z 286 11 45)) (Z 286 4 45))]
noncomputable def f_12:Fn:=⟨1,[69],[70,71],[(.fn 15),(.cls 1083)],[],false,b_12,[]⟩
noncomputable def b_13:List Sx:= [(.asg (.loc 2 (Z 288 4 8)) (.bin .RShift (.loc 1 (Z 288 11 17)) (.int 1 0 (Z 288 21 22)) (Z 288 11 22)) (Z 288 4 22)),
  (.ifs (.cmp .Eq (.loc 2 (Z 289 7 11)) (.int 0 0 (Z 289 15 16)) (Z 289 7 16)) [(.asg (.loc 3 (Z 290 8 13)) (.cmp .Eq (.attr (.loc 0 (Z 290 16 21)) 72 (Z 290 16 24)) (.int 1 0 (Z 290 28 29)) (Z 290 16 29)) (Z 290 8 29))] [(.ifs (.cmp .Eq (.loc 2 (Z 291 9 13)) (.int 1 0 (Z 291 17 18)) (Z 291 9 18)) [(.asg (.loc 3 (Z 292 8 13)) (.cmp .Eq (.attr (.loc 0 (Z 292 16 21)) 73 (Z 292 16 24)) (.int 1 0 (Z 292 28 29)) (Z 292 16 29)) (Z 292 8 29))] [(.ifs (.cmp .Eq (.loc 2 (Z 293 9 13)) (.int 2 0 (Z 293 17 18)) (Z 293 9 18)) [(.asg (.loc 3 (Z 294 8 13)) (.cmp .Eq (.attr (.loc 0 (Z 294 16 21)) 74 (Z 294 16 24)) (.int 1 0 (Z 294 28 29)) (Z 294 16 29)) (Z 294 8 29))] [(.ifs (.cmp .Eq (.loc 2 (Z 295 9 13)) (.int 3 0 (Z 295 17 18)) (Z 295 9 18)) [(.asg (.loc 3 (Z 296 8 13)) (.or [(.cmp .Eq (.attr (.loc 0 (Z 296 16 21)) 73 (Z 296 16 24)) (.int 1 0 (Z 296 28 29)) (Z 296 16 29)),(.cmp .Eq (.attr (.loc 0 (Z 296 33 38)) 74 (Z 296 33 41)) (.int 1 0 (Z 296 45 46)) (Z 296 33 46))] (Z 296 16 46)) (Z 296 8 46))] [(.ifs (.cmp .Eq (.loc 2 (Z 297 9 13)) (.int 4 0 (Z 297 17 18)) (Z 297 9 18)) [(.asg (.loc 3 (Z 298 8 13)) (.cmp .Eq (.attr (.loc 0 (Z 298 16 21)) 75 (Z 298 16 24)) (.int 1 0 (Z 298 28 29)) (Z 298 16 29)) (Z 298 8 29))] [(.ifs (.cmp .Eq (.loc 2 (Z 299 9 13)) (.int 5 0 (Z 299 17 18)) (Z 299 9 18)) [(.asg (.loc 3 (Z 300 8 13)) (.cmp .Eq (.attr (.loc 0 (Z 300 16 21)) 76 (Z 300 16 24)) (.int 1 0 (Z 300 28 29)) (Z 300 16 29)) (Z 300 8 29))] [(.ifs (.cmp .Eq (.loc 2 (Z 301 9 13)) (.int 6 0 (Z 301 17 18)) (Z 301 9 18)) [(.asg (.loc 3 (Z 302 8 13)) (.cmp .NotEq (.attr (.loc 0 (Z 302 16 21)) 75 (Z 302 16 24)) (.attr (.loc 0 (Z 302 28 33)) 72 (Z 302 28 36)) (Z 302 16 36)) (Z 302 8 36))] [(.asg (.loc 3 (Z 304 8 13)) (.or [(.cmp .Eq (.attr (.loc 0 (Z 304 16 21)) 74 (Z 304 16 24)) (.int 1 0 (Z 304 28 29)) (Z 304 16 29)),(.cmp .NotEq (.attr (.loc 0 (Z 304 33 38)) 75 (Z 304 33 41)) (.attr (.loc 0 (Z 304 45 50)) 72 (Z 304 45 53)) (Z 304 33 53))] (Z 304 16 53)) (Z 304 8 53))] ⟨301,4,304,53⟩)] ⟨299,4,304,53⟩)] ⟨297,4,304,53⟩)] ⟨295,4,304,53⟩)] ⟨293,4,304,53⟩)] ⟨291,4,304,53⟩)] ⟨289,4,304,53⟩),
  (.ret (.ite (.cmp .Eq (.bin .BitAnd (.loc 1 (Z 305 20 26)) (.int 1 0 (Z 305 29 30)) (Z 305 20 30)) (.int 0 0 (Z 305 34 35)) (Z 305 20 35)) (.loc 3 (Z 305 11 16)) (.not (.loc 3 (Z 305 45 50)) (Z 305 41 50)) (Z 305 11 50)) (Z 305 4 50))]
noncomputable def f_13:Fn:=⟨2,[77,53,78,79],[],[],[],false,b_13,[]⟩
noncomputable def b_14:List Sx:= [(.ret (.call (.glob 0 (Z 307 11 23)) [(.loc 0 (Z 307 24 29)),(.call (.glob 1 (Z 307 31 47)) [(.loc 1 (Z 307 48 57))] (Z 307 31 58))] (Z 307 11 59)) (Z 307 4 59))]
noncomputable def f_14:Fn:=⟨2,[77,69],[80,81],[(.fn 17),(.fn 16)],[],false,b_14,[]⟩
noncomputable def b_szp:List Sx:= [(.asg (.loc 3 (Z 309 4 8)) (.call (.glob 0 (Z 309 11 15)) [(.loc 1 (Z 309 16 22)),(.loc 2 (Z 309 24 28))] (Z 309 11 29)) (Z 309 4 29)),
  (.asg (.attr (.loc 0 (Z 310 4 9)) 75 (Z 310 4 12)) (.call (.glob 1 (Z 310 15 18)) [(.loc 3 (Z 310 19 23)),(.bin .Sub (.loc 2 (Z 310 25 29)) (.int 1 0 (Z 310 32 33)) (Z 310 25 33))] (Z 310 15 34)) (Z 310 4 34)),
  (.asg (.attr (.loc 0 (Z 311 4 9)) 74 (Z 311 4 12)) (.ite (.cmp .Eq (.loc 3 (Z 311 20 24)) (.int 0 0 (Z 311 28 29)) (Z 311 20 29)) (.int 1 0 (Z 311 15 16)) (.int 0 0 (Z 311 35 36)) (Z 311 15 36)) (Z 311 4 36)),
  (.asg (.attr (.loc 0 (Z 312 4 9)) 76 (Z 312 4 12)) (.call (.glob 2 (Z 312 15 21)) [(.loc 3 (Z 312 22 26))] (Z 312 15 27)) (Z 312 4 27)),
  (.ret (.loc 3 (Z 313 11 15)) (Z 313 4 15))]
noncomputable def f_szp:Fn:=⟨3,[77,82,0,83],[4,84,85],[(.fn 1),(.fn 4),(.fn 6)],[],false,b_szp,[]⟩
noncomputable def b_15:List Sx:= [(.asgW 5 6 (Z 315 4 7) (Z 315 9 12) 0 (Z 315 4 12) (.call (.glob 0 (Z 315 16 20)) [(.loc 1 (Z 315 21 22)),(.loc 4 (Z 315 24 28))] (Z 315 16 29)) (.call (.glob 0 (Z 315 31 35)) [(.loc 2 (Z 315 36 37)),(.loc 4 (Z 315 39 43))] (Z 315 31 44)) 0 (Z 315 15 45) (Z 315 4 45)),
  (.asg (.loc 7 (Z 316 4 9)) (.bin .Add (.bin .Add (.loc 5 (Z 316 12 15)) (.loc 6 (Z 316 18 21)) (Z 316 12 21)) (.loc 3 (Z 316 24 29)) (Z 316 12 29)) (Z 316 4 29)),
  (.asg (.loc 8 (Z 317 4 10)) (.call (.glob 1 (Z 317 13 16)) [(.loc 0 (Z 317 17 22)),(.loc 7 (Z 317 24 29)),(.loc 4 (Z 317 31 35))] (Z 317 13 36)) (Z 317 4 36)),
  (.asg (.attr (.loc 0 (Z 318 4 9)) 73 (Z 318 4 12)) (.bin .RShift (.loc 7 (Z 318 15 20)) (.loc 4 (Z 318 24 28)) (Z 318 15 28)) (Z 318 4 28)),
  (.asg (.attr (.loc 0 (Z 319 4 9)) 86 (Z 319 4 12)) (.bin .RShift (.bin .Add (.bin .Add (.bin .BitAnd (.loc 5 (Z 319 16 19)) (.int 15 0 (Z 319 22 24)) (Z 319 16 24)) (.bin .BitAnd (.loc 6 (Z 319 29 32)) (.int 15 0 (Z 319 35 37)) (Z 319 29 37)) (Z 319 15 38)) (.loc 3 (Z 319 41 46)) (Z 319 15 46)) (.int 4 0 (Z 319 50 51)) (Z 319 15 51)) (Z 319 4 51)),
  (.asg (.attr (.loc 0 (Z 320 4 9)) 72 (Z 320 4 12)) (.call (.glob 2 (Z 320 15 18)) [(.bin .BitAnd (.bin .BitXor (.loc 5 (Z 320 20 23)) (.loc 8 (Z 320 26 32)) (Z 320 20 32)) (.bin .BitXor (.loc 6 (Z 320 37 40)) (.loc 8 (Z 320 43 49)) (Z 320 37 49)) (Z 320 19 50)),(.bin .Sub (.loc 4 (Z 320 52 56)) (.int 1 0 (Z 320 59 60)) (Z 320 52 60))] (Z 320 15 61)) (Z 320 4 61)),
  (.ret (.loc 8 (Z 321 11 17)) (Z 321 4 17))]
noncomputable def f_15:Fn:=⟨5,[77,87,88,89,0,27,90,91,82],[4,92,84],[(.fn 1),(.fn 19),(.fn 4)],[],false,b_15,[]⟩
noncomputable def b_16:List Sx:= [(.asgW 5 6 (Z 323 4 7) (Z 323 9 12) 0 (Z 323 4 12) (.call (.glob 0 (Z 323 16 20)) [(.loc 1 (Z 323 21 22)),(.loc 4 (Z 323 24 28))] (Z 323 16 29)) (.call (.glob 0 (Z 323 31 35)) [(.loc 2 (Z 323 36 37)),(.loc 4 (Z 323 39 43))] (Z 323 31 44)) 0 (Z 323 15 45) (Z 323 4 45)),
  (.asg (.loc 7 (Z 324 4 8)) (.bin .Sub (.bin .Sub (.loc 5 (Z 324 11 14)) (.loc 6 (Z 324 17 20)) (Z 324 11 20)) (.loc 3 (Z 324 23 29)) (Z 324 11 29)) (Z 324 4 29)),
  (.asg (.loc 8 (Z 325 4 10)) (.call (.glob 1 (Z 325 13 16)) [(.loc 0 (Z 325 17 22)),(.loc 7 (Z 325 24 28)),(.loc 4 (Z 325 30 34))] (Z 325 13 35)) (Z 325 4 35)),
  (.asg (.attr (.loc 0 (Z 326 4 9)) 73 (Z 326 4 12)) (.ite (.cmp .Lt (.loc 7 (Z 326 20 24)) (.int 0 0 (Z 326 27 28)) (Z 326 20 28)) (.int 1 0 (Z 326 15 16)) (.int 0 0 (Z 326 34 35)) (Z 326 15 35)) (Z 326 4 35)),
  (.asg (.attr (.loc 0 (Z 327 4 9)) 86 (Z 327 4 12)) (.ite (.cmp .Lt (.bin .Sub (.bin .Sub (.bin .BitAnd (.loc 5 (Z 327 21 24)) (.int 15 0 (Z 327 27 29)) (Z 327 21 29)) (.bin .BitAnd (.loc 6 (Z 327 34 37)) (.int 15 0 (Z 327 40 42)) (Z 327 34 42)) (Z 327 20 43)) (.loc 3 (Z 327 46 52)) (Z 327 20 52)) (.int 0 0 (Z 327 55 56)) (Z 327 20 56)) (.int 1 0 (Z 327 15 16)) (.int 0 0 (Z 327 62 63)) (Z 327 15 63)) (Z 327 4 63)),
  (.asg (.attr (.loc 0 (Z 328 4 9)) 72 (Z 328 4 12)) (.call (.glob 2 (Z 328 15 18)) [(.bin .BitAnd (.bin .BitXor (.loc 5 (Z 328 20 23)) (.loc 6 (Z 328 26 29)) (Z 328 20 29)) (.bin .BitXor (.loc 5 (Z 328 34 37)) (.loc 8 (Z 328 40 46)) (Z 328 34 46)) (Z 328 19 47)),(.bin .Sub (.loc 4 (Z 328 49 53)) (.int 1 0 (Z 328 56 57)) (Z 328 49 57))] (Z 328 15 58)) (Z 328 4 58)),
  (.ret (.loc 8 (Z 329 11 17)) (Z 329 4 17))]
noncomputable def f_16:Fn:=⟨5,[77,87,88,93,0,27,90,7,82],[4,92,84],[(.fn 1),(.fn 19),(.fn 4)],[],false,b_16,[]⟩
noncomputable def b_17:List Sx:= [(.asg (.attr (.loc 0 (Z 331 4 9)) 73 (Z 331 4 12)) (.int 0 0 (Z 331 15 16)) (Z 331 4 16)),
  (.asg (.attr (.loc 0 (Z 332 4 9)) 72 (Z 332 4 12)) (.int 0 0 (Z 332 15 16)) (Z 332 4 16)),
  (.asg (.attr (.loc 0 (Z 333 4 9)) 86 (Z 333 4 12)) (.int 0 0 (Z 333 15 16)) (Z 333 4 16)),
  (.ret (.call (.glob 0 (Z 334 11 14)) [(.loc 0 (Z 334 15 20)),(.loc 1 (Z 334 22 28)),(.loc 2 (Z 334 30 34))] (Z 334 11 35)) (Z 334 4 35))]
noncomputable def f_17:Fn:=⟨3,[77,82,0],[92],[(.fn 19)],[],false,b_17,[]⟩
noncomputable def b_18:List Sx:= [(.ret (.call (.glob 0 (Z 346 11 20)) [(.loc 0 (Z 346 21 26)),(.int 0 0 (Z 346 28 29)),(.loc 1 (Z 346 31 32)),(.int 0 0 (Z 346 34 35)),(.loc 2 (Z 346 37 41))] (Z 346 11 42)) (Z 346 4 42))]
noncomputable def f_18:Fn:=⟨3,[77,87,0],[94],[(.fn 21)],[],false,b_18,[]⟩
noncomputable def b_19:List Sx:= [(.for 1 (Z 349 8 12) (.tup [(.str 95 0 (Z 349 17 20)),(.str 96 0 (Z 349 22 27)),(.str 97 0 (Z 349 29 35))] 0 (Z 349 16 36)) [(.ifs (.and [(.bm .starts (.loc 0 (Z 350 11 15)) [(.loc 1 (Z 350 27 31))] (Z 350 11 26) (Z 350 11 32)),(.cmp .In (.slcOn (.loc 0 (Z 350 37 41)) (.call (.glob 0 (Z 350 42 45)) [(.loc 1 (Z 350 46 50))] (Z 350 42 51)) (Z 350 42 52) (Z 350 37 53)) (.call (.glob 1 (Z 350 57 72)) [] (Z 350 57 74)) (Z 350 37 74))] (Z 350 11 74)) [(.ret (.slcOn (.loc 0 (Z 351 19 23)) (.call (.glob 0 (Z 351 24 27)) [(.loc 1 (Z 351 28 32))] (Z 351 24 33)) (Z 351 24 34) (Z 351 19 35)) (Z 351 12 35))] [] ⟨350,8,351,35⟩)] ⟨349,4,351,35⟩),
  (.ret (.str 17 0 (Z 352 11 13)) (Z 352 4 13))]
noncomputable def f_19:Fn:=⟨1,[16,98],[23,70],[(.prim 0),(.fn 15)],[],false,b_19,[]⟩
noncomputable def b_20:List Sx:= [(.ifs (.cmp .Eq (.loc 1 (Z 355 7 11)) (.str 43 0 (Z 355 15 20)) (Z 355 7 20)) [(.ret (.call (.glob 0 (Z 356 15 24)) [(.loc 0 (Z 356 25 30)),(.loc 2 (Z 356 32 33)),(.loc 3 (Z 356 35 36)),(.int 0 0 (Z 356 38 39)),(.loc 4 (Z 356 41 45))] (Z 356 15 46)) (Z 356 8 46))] [] ⟨355,4,356,46⟩),
  (.ifs (.cmp .Eq (.loc 1 (Z 357 7 11)) (.str 99 0 (Z 357 15 20)) (Z 357 7 20)) [(.ret (.call (.glob 0 (Z 358 15 24)) [(.loc 0 (Z 358 25 30)),(.loc 2 (Z 358 32 33)),(.loc 3 (Z 358 35 36)),(.attr (.loc 0 (Z 358 38 43)) 73 (Z 358 38 46)),(.loc 4 (Z 358 48 52))] (Z 358 15 53)) (Z 358 8 53))] [] ⟨357,4,358,53⟩),
  (.ifs (.cmp .Eq (.loc 1 (Z 359 7 11)) (.str 100 0 (Z 359 15 20)) (Z 359 7 20)) [(.ret (.call (.glob 1 (Z 360 15 24)) [(.loc 0 (Z 360 25 30)),(.loc 2 (Z 360 32 33)),(.loc 3 (Z 360 35 36)),(.attr (.loc 0 (Z 360 38 43)) 73 (Z 360 38 46)),(.loc 4 (Z 360 48 52))] (Z 360 15 53)) (Z 360 8 53))] [] ⟨359,4,360,53⟩),
  (.ifs (.cmp .In (.loc 1 (Z 361 7 11)) (.tup [(.str 101 0 (Z 361 16 21)),(.str 102 0 (Z 361 23 28))] 0 (Z 361 15 29)) (Z 361 7 29)) [(.ret (.call (.glob 1 (Z 362 15 24)) [(.loc 0 (Z 362 25 30)),(.loc 2 (Z 362 32 33)),(.loc 3 (Z 362 35 36)),(.int 0 0 (Z 362 38 39)),(.loc 4 (Z 362 41 45))] (Z 362 15 46)) (Z 362 8 46))] [] ⟨361,4,362,46⟩),
  (.ifs (.cmp .In (.loc 1 (Z 363 7 11)) (.tup [(.str 103 0 (Z 363 16 21)),(.str 104 0 (Z 363 23 29))] 0 (Z 363 15 30)) (Z 363 7 30)) [(.ret (.call (.glob 2 (Z 364 15 26)) [(.loc 0 (Z 364 27 32)),(.bin .BitAnd (.loc 2 (Z 364 34 35)) (.loc 3 (Z 364 38 39)) (Z 364 34 39)),(.loc 4 (Z 364 41 45))] (Z 364 15 46)) (Z 364 8 46))] [] ⟨363,4,364,46⟩),
  (.ifs (.cmp .Eq (.loc 1 (Z 365 7 11)) (.str 105 0 (Z 365 15 19)) (Z 365 7 19)) [(.ret (.call (.glob 2 (Z 366 15 26)) [(.loc 0 (Z 366 27 32)),(.bin .BitOr (.loc 2 (Z 366 34 35)) (.loc 3 (Z 366 38 39)) (Z 366 34 39)),(.loc 4 (Z 366 41 45))] (Z 366 15 46)) (Z 366 8 46))] [] ⟨365,4,366,46⟩),
  (.ret (.call (.glob 2 (Z 367 11 22)) [(.loc 0 (Z 367 23 28)),(.bin .BitXor (.loc 2 (Z 367 30 31)) (.loc 3 (Z 367 34 35)) (Z 367 30 35)),(.loc 4 (Z 367 37 41))] (Z 367 11 42)) (Z 367 4 42))]
noncomputable def f_20:Fn:=⟨5,[77,16,87,88,0],[106,94,107],[(.fn 20),(.fn 21),(.fn 22)],[],false,b_20,[]⟩
noncomputable def b_21:List Sx:= [(.asgW 2 3 (Z 370 4 10) (Z 370 12 18) 0 (Z 370 4 18) (.sub (.attr (.loc 1 (Z 370 22 33)) 108 (Z 370 22 42)) (.int 0 0 (Z 370 43 44)) (Z 370 22 45)) (.sub (.attr (.loc 1 (Z 370 47 58)) 108 (Z 370 47 67)) (.int 1 0 (Z 370 68 69)) (Z 370 47 70)) 0 (Z 370 21 71) (Z 370 4 71)),
  (.asg (.loc 4 (Z 371 4 8)) (.meth (.loc 0 (Z 371 11 16)) 109 [(.loc 2 (Z 371 25 31)),(.loc 1 (Z 371 33 44))] (Z 371 11 24) (Z 371 11 45)) (Z 371 4 45)),
  (.asgW 5 6 (Z 372 4 5) (Z 372 7 8) 0 (Z 372 4 8) (.meth (.loc 0 (Z 372 12 17)) 110 [(.loc 2 (Z 372 23 29)),(.loc 4 (Z 372 31 35))] (Z 372 12 22) (Z 372 12 36)) (.meth (.loc 0 (Z 372 38 43)) 110 [(.loc 3 (Z 372 49 55)),(.loc 4 (Z 372 57 61))] (Z 372 38 48) (Z 372 38 62)) 0 (Z 372 11 63) (Z 372 4 63)),
  (.asg (.loc 7 (Z 373 4 10)) (.call (.glob 0 (Z 373 13 27)) [(.attr (.loc 0 (Z 373 28 33)) 77 (Z 373 28 39)),(.attr (.loc 1 (Z 373 41 52)) 16 (Z 373 41 57)),(.loc 5 (Z 373 59 60)),(.loc 6 (Z 373 62 63)),(.loc 4 (Z 373 65 69))] (Z 373 13 70)) (Z 373 4 70)),
  (.ifs (.cmp .NotIn (.attr (.loc 1 (Z 374 7 18)) 16 (Z 374 7 23)) (.tup [(.str 102 0 (Z 374 32 37)),(.str 104 0 (Z 374 39 45))] 0 (Z 374 31 46)) (Z 374 7 46)) [(.ex (.meth (.loc 0 (Z 375 8 13)) 111 [(.loc 2 (Z 375 20 26)),(.loc 4 (Z 375 28 32)),(.loc 7 (Z 375 34 40))] (Z 375 8 19) (Z 375 8 41)) (Z 375 8 41))] [] ⟨374,4,375,41⟩)]
noncomputable def f_21:Fn:=⟨2,[112,113,114,115,0,87,88,82],[116],[(.fn 25)],[],false,b_21,[]⟩
noncomputable def b_22:List Sx:= [(.asg (.loc 2 (Z 377 4 10)) (.sub (.attr (.loc 1 (Z 377 13 24)) 108 (Z 377 13 33)) (.int 0 0 (Z 377 34 35)) (Z 377 13 36)) (Z 377 4 36)),
  (.asg (.loc 3 (Z 378 4 8)) (.meth (.loc 0 (Z 378 11 16)) 109 [(.loc 2 (Z 378 25 31)),(.loc 1 (Z 378 33 44))] (Z 378 11 24) (Z 378 11 45)) (Z 378 4 45)),
  (.asg (.loc 4 (Z 379 4 5)) (.meth (.loc 0 (Z 379 8 13)) 110 [(.loc 2 (Z 379 19 25)),(.loc 3 (Z 379 27 31))] (Z 379 8 18) (Z 379 8 32)) (Z 379 4 32)),
  (.ifs (.cmp .Eq (.attr (.loc 1 (Z 380 7 18)) 16 (Z 380 7 23)) (.str 117 0 (Z 380 27 32)) (Z 380 7 32)) [(.asg (.loc 5 (Z 381 8 14)) (.call (.glob 0 (Z 381 17 26)) [(.attr (.loc 0 (Z 381 27 32)) 77 (Z 381 27 38)),(.loc 4 (Z 381 40 41)),(.loc 3 (Z 381 43 47))] (Z 381 17 48)) (Z 381 8 48))] [(.ifs (.cmp .Eq (.attr (.loc 1 (Z 382 9 20)) 16 (Z 382 9 25)) (.str 118 0 (Z 382 29 34)) (Z 382 9 34)) [(.asg (.loc 5 (Z 383 8 14)) (.call (.glob 1 (Z 383 17 26)) [(.attr (.loc 0 (Z 383 27 32)) 77 (Z 383 27 38)),(.loc 4 (Z 383 40 41)),(.loc 3 (Z 383 43 47))] (Z 383 17 48)) (Z 383 8 48))] [(.ifs (.cmp .Eq (.attr (.loc 1 (Z 384 9 20)) 16 (Z 384 9 25)) (.str 119 0 (Z 384 29 34)) (Z 384 9 34)) [(.asg (.loc 5 (Z 385 8 14)) (.call (.glob 2 (Z 385 17 26)) [(.attr (.loc 0 (Z 385 27 32)) 77 (Z 385 27 38)),(.loc 4 (Z 385 40 41)),(.loc 3 (Z 385 43 47))] (Z 385 17 48)) (Z 385 8 48))] [(.asg (.loc 5 (Z 387 8 14)) (.bin .BitXor (.loc 4 (Z 387 17 18)) (.bin .Sub (.bin .LShift (.int 1 0 (Z 387 22 23)) (.loc 3 (Z 387 27 31)) (Z 387 22 31)) (.int 1 0 (Z 387 35 36)) (Z 387 21 36)) (Z 387 17 36)) (Z 387 8 36))] ⟨384,4,387,36⟩)] ⟨382,4,387,36⟩)] ⟨380,4,387,36⟩),
  (.ex (.meth (.loc 0 (Z 388 4 9)) 111 [(.loc 2 (Z 388 16 22)),(.loc 3 (Z 388 24 28)),(.loc 5 (Z 388 30 36))] (Z 388 4 15) (Z 388 4 37)) (Z 388 4 37))]
noncomputable def f_22:Fn:=⟨2,[112,113,114,0,87,82],[120,121,122],[(.fn 1575),(.fn 1582),(.fn 23)],[],false,b_22,[]⟩
noncomputable def b_23:List Sx:= [(.asg (.loc 2 (Z 390 4 9)) (.call (.glob 0 (Z 390 12 17)) [(.attr (.loc 0 (Z 390 18 23)) 77 (Z 390 18 29)),(.call (.glob 1 (Z 390 31 43)) [(.attr (.loc 1 (Z 390 44 55)) 16 (Z 390 44 60))] (Z 390 31 61))] (Z 390 12 62)) (Z 390 4 62)),
  (.ex (.meth (.loc 0 (Z 391 4 9)) 111 [(.sub (.attr (.loc 1 (Z 391 16 27)) 108 (Z 391 16 36)) (.int 0 0 (Z 391 37 38)) (Z 391 16 39)),(.int 8 0 (Z 391 41 42)),(.ite (.loc 2 (Z 391 49 54)) (.int 1 0 (Z 391 44 45)) (.int 0 0 (Z 391 60 61)) (Z 391 44 61))] (Z 391 4 15) (Z 391 4 62)) (Z 391 4 62))]
noncomputable def f_23:Fn:=⟨2,[112,113,79],[123,124],[(.fn 18),(.fn 24)],[],false,b_23,[]⟩
noncomputable def b_24:List Sx:= [(.ifs (.cmp .Eq (.loc 0 (Z 420 7 11)) (.int 64 0 (Z 420 15 17)) (Z 420 7 17)) [(.ret (.bm .split0 (.glob 0 (Z 421 15 23)) [] (Z 421 15 29) (Z 421 15 31)) (Z 421 8 31))] [] ⟨420,4,421,31⟩),
  (.ifs (.cmp .Eq (.loc 0 (Z 422 7 11)) (.int 32 0 (Z 422 15 17)) (Z 422 7 17)) [(.ret (.bm .split0 (.glob 1 (Z 423 15 23)) [] (Z 423 15 29) (Z 423 15 31)) (Z 423 8 31))] [] ⟨422,4,423,31⟩),
  (.ifs (.cmp .Eq (.loc 0 (Z 424 7 11)) (.int 16 0 (Z 424 15 17)) (Z 424 7 17)) [(.ret (.bm .split0 (.glob 2 (Z 425 15 23)) [] (Z 425 15 29) (Z 425 15 31)) (Z 425 8 31))] [] ⟨424,4,425,31⟩),
  (.ifs (.cmp .Eq (.loc 0 (Z 426 7 11)) (.int 8 0 (Z 426 15 16)) (Z 426 7 16)) [(.ret (.bm .split0 (.glob 3 (Z 427 15 22)) [] (Z 427 15 28) (Z 427 15 30)) (Z 427 8 30))] [] ⟨426,4,427,30⟩),
  (.ret (.lst [] (Z 428 11 13)) (Z 428 4 13))]
noncomputable def f_24:Fn:=⟨1,[0],[129,130,131,132],[(.str 125),(.str 126),(.str 127),(.str 128)],[],false,b_24,[]⟩
noncomputable def b_gpr:List Sx:= [(.asg (.loc 2 (Z 438 4 9)) (.call (.glob 0 (Z 438 12 23)) [(.loc 1 (Z 438 24 28))] (Z 438 12 29)) (Z 438 4 29)),
  (.ifs (.or [(.cmp .Eq (.loc 2 (Z 439 7 12)) (.lst [] (Z 439 16 18)) (Z 439 7 18)),(.not (.cmp2 .LtE .LtE (.int 0 0 (Z 439 26 27)) (.loc 0 (Z 439 31 37)) (.int 15 0 (Z 439 41 43)) (Z 439 26 43)) (Z 439 22 43))] (Z 439 7 43)) [(.raise (.call (.glob 1 (Z 440 14 26)) [(.str 133 0 (Z 440 27 45))] (Z 440 14 46)) (Z 440 8 46))] [] ⟨439,4,440,46⟩),
  (.ifs (.cmp .Lt (.loc 0 (Z 441 7 13)) (.int 8 0 (Z 441 16 17)) (Z 441 7 17)) [(.ret (.call (.glob 2 (Z 442 15 23)) [(.sub (.loc 2 (Z 442 24 29)) (.loc 0 (Z 442 30 36)) (Z 442 24 37)),(.str 134 0 (Z 442 39 44)),(.loc 0 (Z 442 46 52)),(.loc 1 (Z 442 54 58))] (Z 442 15 59)) (Z 442 8 59))] [] ⟨441,4,442,59⟩),
  (.ret (.call (.glob 2 (Z 443 11 19)) [(.bin .Add (.bin .Add (.str 135 0 (Z 443 20 23)) (.call (.glob 3 (Z 443 26 29)) [(.loc 0 (Z 443 30 36))] (Z 443 26 37)) (Z 443 20 37)) (.call (.glob 4 (Z 443 40 51)) [(.loc 1 (Z 443 52 56))] (Z 443 40 57)) (Z 443 20 57)),(.str 134 0 (Z 443 59 64)),(.loc 0 (Z 443 66 72)),(.loc 1 (Z 443 74 78))] (Z 443 11 79)) (Z 443 4 79))]
noncomputable def f_gpr:Fn:=⟨2,[53,0,136],[137,138,139,140,141],[(.fn 29),(.cls 1059),(.cls 7),(.prim 7),(.fn 1694)],[],false,b_gpr,[]⟩
noncomputable def b_25:List Sx:= [(.ifs (.cmp .GtE (.loc 2 (Z 492 7 11)) (.int 32 0 (Z 492 15 17)) (Z 492 7 17)) [(.ret (.loc 1 (Z 493 15 20)) (Z 493 8 20))] [] ⟨492,4,493,20⟩),
  (.ret (.bin .Add (.bin .Sub (.loc 0 (Z 494 11 14)) (.call (.glob 0 (Z 494 17 21)) [(.loc 0 (Z 494 22 25)),(.loc 2 (Z 494 27 31))] (Z 494 17 32)) (Z 494 11 32)) (.loc 1 (Z 494 35 40)) (Z 494 11 40)) (Z 494 4 40))]
noncomputable def f_25:Fn:=⟨3,[142,1,0],[4],[(.fn 1)],[],false,b_25,[]⟩
noncomputable def b_done:List Sx:= [(.ifs (.cmp .Eq (.attr (.loc 1 (Z 592 7 18)) 16 (Z 592 7 23)) (.str 143 0 (Z 592 27 32)) (Z 592 7 32)) [(.asg (.attr (.loc 0 (Z 593 8 13)) 144 (Z 593 8 23)) (.bool true 0 (Z 593 26 30)) (Z 593 8 30)),
  (.ret0 (Z 594 8 14))] [] ⟨592,4,594,14⟩),
  (.ifs (.cmp .In (.attr (.loc 1 (Z 595 7 18)) 16 (Z 595 7 23)) (.bm .split0 (.glob 0 (Z 595 27 32)) [] (Z 595 27 38) (Z 595 27 40)) (Z 595 7 40)) [(.raise (.call (.glob 1 (Z 596 14 26)) [(.attr (.loc 1 (Z 596 27 38)) 16 (Z 596 27 43))] (Z 596 14 44)) (Z 596 8 44))] [] ⟨595,4,596,44⟩),
  (.for 3 (Z 597 8 12) (.loc 2 (Z 597 16 21)) [(.ifs (.call (.loc 3 (Z 598 11 15)) [(.loc 0 (Z 598 16 21)),(.loc 1 (Z 598 23 34))] (Z 598 11 35)) [(.ret0 (Z 599 12 18))] [] ⟨598,8,599,18⟩)] ⟨597,4,599,18⟩),
  (.raise (.call (.glob 1 (Z 600 10 22)) [(.str 145 0 (Z 600 23 32))] (Z 600 10 33)) (Z 600 4 33))]
noncomputable def f_done:Fn:=⟨3,[112,113,147,148],[149,71],[(.str 146),(.cls 1083)],[],false,b_done,[]⟩
noncomputable def b_26:List Sx:= [(.for 3 (Z 602 8 19) (.loc 1 (Z 602 23 27)) [(.ex (.call (.glob 0 (Z 603 8 12)) [(.loc 0 (Z 603 13 18)),(.loc 3 (Z 603 20 31)),(.loc 2 (Z 603 33 38))] (Z 603 8 39)) (Z 603 8 39))] ⟨602,4,603,39⟩)]
noncomputable def f_26:Fn:=⟨3,[112,150,147,113],[151],[(.fn 32)],[],false,b_26,[]⟩
noncomputable def b_27:List Sx:= [(.ret (.call (.glob 0 (Z 700 11 15)) [(.loc 0 (Z 700 16 21)),(.ite (.cmp .Eq (.loc 1 (Z 700 28 32)) (.int 64 0 (Z 700 36 38)) (Z 700 28 38)) (.int 6 0 (Z 700 23 24)) (.int 5 0 (Z 700 44 45)) (Z 700 23 45))] (Z 700 11 46)) (Z 700 4 46))]
noncomputable def f_27:Fn:=⟨2,[8,0],[4],[(.fn 1)],[],false,b_27,[]⟩
noncomputable def b_28:List Sx:= [(.ifs (.cmp .Eq (.loc 0 (Z 702 7 11)) (.str 152 0 (Z 702 15 20)) (Z 702 7 20)) [(.asg (.loc 4 (Z 703 8 14)) (.call (.glob 0 (Z 703 17 21)) [(.bin .LShift (.loc 1 (Z 703 22 27)) (.loc 2 (Z 703 31 36)) (Z 703 22 36)),(.loc 3 (Z 703 38 42))] (Z 703 17 43)) (Z 703 8 43)),
  (.asg (.loc 5 (Z 704 8 13)) (.ite (.cmp .Lt (.loc 2 (Z 704 44 49)) (.loc 3 (Z 704 52 56)) (Z 704 44 56)) (.call (.glob 1 (Z 704 16 19)) [(.loc 1 (Z 704 20 25)),(.bin .Sub (.loc 3 (Z 704 27 31)) (.loc 2 (Z 704 34 39)) (Z 704 27 39))] (Z 704 16 40)) (.int 0 0 (Z 704 62 63)) (Z 704 16 63)) (Z 704 8 63)),
  (.ret (.tup [(.loc 4 (Z 705 16 22)),(.loc 5 (Z 705 24 29)),(.bin .BitXor (.call (.glob 1 (Z 705 31 34)) [(.loc 4 (Z 705 35 41)),(.bin .Sub (.loc 3 (Z 705 43 47)) (.int 1 0 (Z 705 50 51)) (Z 705 43 51))] (Z 705 31 52)) (.loc 5 (Z 705 55 60)) (Z 705 31 60))] 0 (Z 705 15 61)) (Z 705 8 61))] [] ⟨702,4,705,61⟩),
  (.ifs (.cmp .Eq (.loc 0 (Z 706 7 11)) (.str 153 0 (Z 706 15 20)) (Z 706 7 20)) [(.asg (.loc 5 (Z 707 8 13)) (.ite (.cmp .Lt (.loc 2 (Z 707 41 46)) (.loc 3 (Z 707 49 53)) (Z 707 41 53)) (.call (.glob 1 (Z 707 16 19)) [(.loc 1 (Z 707 20 25)),(.bin .Sub (.loc 2 (Z 707 27 32)) (.int 1 0 (Z 707 35 36)) (Z 707 27 36))] (Z 707 16 37)) (.int 0 0 (Z 707 59 60)) (Z 707 16 60)) (Z 707 8 60)),
  (.ret (.tup [(.bin .RShift (.loc 1 (Z 708 16 21)) (.loc 2 (Z 708 25 30)) (Z 708 16 30)),(.loc 5 (Z 708 32 37)),(.call (.glob 1 (Z 708 39 42)) [(.loc 1 (Z 708 43 48)),(.bin .Sub (.loc 3 (Z 708 50 54)) (.int 1 0 (Z 708 57 58)) (Z 708 50 58))] (Z 708 39 59))] 0 (Z 708 15 60)) (Z 708 8 60))] [] ⟨706,4,708,60⟩),
  (.asg (.loc 6 (Z 709 4 9)) (.call (.glob 2 (Z 709 12 18)) [(.loc 1 (Z 709 19 24)),(.loc 3 (Z 709 26 30))] (Z 709 12 31)) (Z 709 4 31)),
  (.ret (.tup [(.call (.glob 0 (Z 710 12 16)) [(.bin .RShift (.loc 6 (Z 710 17 22)) (.loc 2 (Z 710 26 31)) (Z 710 17 31)),(.loc 3 (Z 710 33 37))] (Z 710 12 38)),(.call (.glob 0 (Z 710 40 44)) [(.bin .RShift (.loc 6 (Z 710 45 50)) (.bin .Sub (.loc 2 (Z 710 54 59)) (.int 1 0 (Z 710 62 63)) (Z 710 54 63)) (Z 710 45 63)),(.int 1 0 (Z 710 65 66))] (Z 710 40 67)),(.int 0 0 (Z 710 69 70))] 0 (Z 710 11 71)) (Z 710 4 71))]
noncomputable def f_28:Fn:=⟨4,[16,1,8,0,82,89,154],[4,84,155],[(.fn 1),(.fn 4),(.fn 2)],[],false,b_28,[]⟩
noncomputable def b_29:List Sx:= [(.ifs (.loc 3 (Z 734 7 16)) [(.asg (.loc 4 (Z 735 8 13)) (.bin .Mult (.call (.glob 0 (Z 735 16 22)) [(.loc 0 (Z 735 23 26)),(.loc 2 (Z 735 28 32))] (Z 735 16 33)) (.call (.glob 0 (Z 735 36 42)) [(.loc 1 (Z 735 43 48)),(.loc 2 (Z 735 50 54))] (Z 735 36 55)) (Z 735 16 55)) (Z 735 8 55)),
  (.asg (.loc 5 (Z 736 8 15)) (.ite (.call (.glob 1 (Z 736 23 34)) [(.loc 4 (Z 736 35 40)),(.loc 2 (Z 736 42 46))] (Z 736 23 47)) (.int 0 0 (Z 736 18 19)) (.int 1 0 (Z 736 53 54)) (Z 736 18 54)) (Z 736 8 54))] [(.asg (.loc 4 (Z 738 8 13)) (.bin .Mult (.loc 0 (Z 738 16 19)) (.loc 1 (Z 738 22 27)) (Z 738 16 27)) (Z 738 8 27)),
  (.asg (.loc 5 (Z 739 8 15)) (.ite (.cmp .Eq (.bin .RShift (.loc 4 (Z 739 23 28)) (.loc 2 (Z 739 32 36)) (Z 739 23 36)) (.int 0 0 (Z 739 40 41)) (Z 739 23 41)) (.int 0 0 (Z 739 18 19)) (.int 1 0 (Z 739 47 48)) (Z 739 18 48)) (Z 739 8 48))] ⟨734,4,739,48⟩),
  (.ret (.tup [(.call (.glob 2 (Z 740 12 16)) [(.loc 4 (Z 740 17 22)),(.loc 2 (Z 740 24 28))] (Z 740 12 29)),(.call (.glob 2 (Z 740 31 35)) [(.bin .RShift (.loc 4 (Z 740 36 41)) (.loc 2 (Z 740 45 49)) (Z 740 36 49)),(.loc 2 (Z 740 51 55))] (Z 740 31 56)),(.loc 5 (Z 740 58 65))] 0 (Z 740 11 66)) (Z 740 4 66))]
noncomputable def f_29:Fn:=⟨4,[27,28,0,156,154,157],[155,158,4],[(.fn 2),(.fn 3),(.fn 1)],[],false,b_29,[]⟩
noncomputable def b_30:List Sx:= [(.ifs (.cmp .Eq (.loc 1 (Z 742 7 14)) (.int 0 0 (Z 742 18 19)) (Z 742 7 19)) [(.raise (.call (.glob 0 (Z 743 14 26)) [(.str 159 0 (Z 743 27 35))] (Z 743 14 36)) (Z 743 8 36))] [] ⟨742,4,743,36⟩),
  (.ifs (.not (.loc 3 (Z 744 11 20)) (Z 744 7 20)) [(.ifs (.cmp .NotEq (.bin .RShift (.bin .FloorDiv (.loc 0 (Z 745 11 17)) (.loc 1 (Z 745 21 28)) (Z 745 11 28)) (.loc 2 (Z 745 32 36)) (Z 745 11 36)) (.int 0 0 (Z 745 40 41)) (Z 745 11 41)) [(.raise (.call (.glob 0 (Z 746 18 30)) [(.str 159 0 (Z 746 31 39))] (Z 746 18 40)) (Z 746 12 40))] [] ⟨745,8,746,40⟩),
  (.ret (.tup [(.bin .FloorDiv (.loc 0 (Z 747 16 22)) (.loc 1 (Z 747 26 33)) (Z 747 16 33)),(.bin .Mod (.loc 0 (Z 747 35 41)) (.loc 1 (Z 747 44 51)) (Z 747 35 51))] 0 (Z 747 15 52)) (Z 747 8 52))] [] ⟨744,4,747,52⟩),
  (.asgW 4 5 (Z 748 4 9) (Z 748 11 15) 0 (Z 748 4 15) (.call (.glob 1 (Z 748 19 25)) [(.loc 0 (Z 748 26 32)),(.bin .Mult (.int 2 0 (Z 748 34 35)) (.loc 2 (Z 748 38 42)) (Z 748 34 42))] (Z 748 19 43)) (.call (.glob 1 (Z 748 45 51)) [(.loc 1 (Z 748 52 59)),(.loc 2 (Z 748 61 65))] (Z 748 45 66)) 0 (Z 748 18 67) (Z 748 4 67)),
  (.asg (.loc 6 (Z 749 4 9)) (.bin .FloorDiv (.call (.glob 2 (Z 749 12 15)) [(.loc 4 (Z 749 16 21))] (Z 749 12 22)) (.call (.glob 2 (Z 749 26 29)) [(.loc 5 (Z 749 30 34))] (Z 749 26 35)) (Z 749 12 35)) (Z 749 4 35)),
  (.ifs (.cmp .NotEq (.cmp .Lt (.loc 4 (Z 750 8 13)) (.int 0 0 (Z 750 16 17)) (Z 750 8 17)) (.cmp .Lt (.loc 5 (Z 750 23 27)) (.int 0 0 (Z 750 30 31)) (Z 750 23 31)) (Z 750 7 32)) [(.asg (.loc 6 (Z 751 8 13)) (.neg (.loc 6 (Z 751 17 22)) (Z 751 16 22)) (Z 751 8 22))] [] ⟨750,4,751,22⟩),
  (.ifs (.not (.call (.glob 3 (Z 752 11 22)) [(.loc 6 (Z 752 23 28)),(.loc 2 (Z 752 30 34))] (Z 752 11 35)) (Z 752 7 35)) [(.raise (.call (.glob 0 (Z 753 14 26)) [(.str 159 0 (Z 753 27 35))] (Z 753 14 36)) (Z 753 8 36))] [] ⟨752,4,753,36⟩),
  (.ret (.tup [(.call (.glob 4 (Z 754 12 16)) [(.loc 6 (Z 754 17 22)),(.loc 2 (Z 754 24 28))] (Z 754 12 29)),(.call (.glob 4 (Z 754 31 35)) [(.bin .Sub (.loc 4 (Z 754 36 41)) (.bin .Mult (.loc 6 (Z 754 44 49)) (.loc 5 (Z 754 52 56)) (Z 754 44 56)) (Z 754 36 56)),(.loc 2 (Z 754 58 62))] (Z 754 31 63))] 0 (Z 754 11 64)) (Z 754 4 64))]
noncomputable def f_30:Fn:=⟨4,[53,160,0,156,154,61,161],[71,155,29,158,4],[(.cls 1083),(.fn 2),(.prim 2),(.fn 3),(.fn 1)],[],false,b_30,[]⟩
noncomputable def b_31:List Sx:= [(.asgT [(.attr (.loc 0 (Z 757 4 9)) 73 (Z 757 4 12)),(.attr (.loc 0 (Z 757 14 19)) 76 (Z 757 14 22)),(.attr (.loc 0 (Z 757 24 29)) 86 (Z 757 24 32))] 0 (Z 757 4 32) (.tup [(.int 0 0 (Z 757 36 37)),(.int 0 0 (Z 757 39 40)),(.int 0 0 (Z 757 42 43))] 0 (Z 757 35 44)) (Z 757 4 44)),
  (.asgT [(.attr (.loc 0 (Z 758 4 9)) 74 (Z 758 4 12)),(.attr (.loc 0 (Z 758 14 19)) 75 (Z 758 14 22)),(.attr (.loc 0 (Z 758 24 29)) 72 (Z 758 24 32))] 0 (Z 758 4 32) (.tup [(.int 0 0 (Z 758 36 37)),(.int 0 0 (Z 758 39 40)),(.int 0 0 (Z 758 42 43))] 0 (Z 758 35 44)) (Z 758 4 44))]
noncomputable def f_31:Fn:=⟨1,[77],[],[],[],false,b_31,[]⟩
noncomputable def b_32:List Sx:= [(.asg (.loc 3 (Z 760 4 9)) (.ite (.cmp .Eq (.attr (.loc 1 (Z 760 29 36)) 10 (Z 760 29 41)) (.str 162 0 (Z 760 45 50)) (Z 760 29 50)) (.attr (.loc 1 (Z 760 12 19)) 1 (Z 760 12 25)) (.meth (.loc 0 (Z 760 56 61)) 163 [(.attr (.loc 1 (Z 760 66 73)) 164 (Z 760 66 82))] (Z 760 56 65) (Z 760 56 83)) (Z 760 12 83)) (Z 760 4 83)),
  (.ret (.call (.glob 0 (Z 761 11 23)) [(.loc 3 (Z 761 24 29)),(.loc 2 (Z 761 31 35))] (Z 761 11 36)) (Z 761 4 36))]
noncomputable def f_32:Fn:=⟨3,[112,165,0,1],[166],[(.fn 34)],[],false,b_32,[]⟩
noncomputable def b_33:List Sx:= [(.asg (.loc 2 (Z 763 4 8)) (.attr (.loc 1 (Z 763 11 22)) 16 (Z 763 11 27)) (Z 763 4 27)),
  (.asg (.loc 3 (Z 764 4 10)) (.sub (.attr (.loc 1 (Z 764 13 24)) 108 (Z 764 13 33)) (.int 0 0 (Z 764 34 35)) (Z 764 13 36)) (Z 764 4 36)),
  (.asg (.loc 4 (Z 765 4 8)) (.meth (.loc 0 (Z 765 11 16)) 109 [(.loc 3 (Z 765 25 31)),(.loc 1 (Z 765 33 44))] (Z 765 11 24) (Z 765 11 45)) (Z 765 4 45)),
  (.asg (.loc 5 (Z 766 4 9)) (.call (.glob 0 (Z 766 12 22)) [(.loc 0 (Z 766 23 28)),(.sub (.attr (.loc 1 (Z 766 30 41)) 108 (Z 766 30 50)) (.int 1 0 (Z 766 51 52)) (Z 766 30 53)),(.loc 4 (Z 766 55 59))] (Z 766 12 60)) (Z 766 4 60)),
  (.asg (.loc 6 (Z 767 4 9)) (.meth (.loc 0 (Z 767 12 17)) 110 [(.loc 3 (Z 767 23 29)),(.loc 4 (Z 767 31 35))] (Z 767 12 22) (Z 767 12 36)) (Z 767 4 36)),
  (.ifs (.cmp .Eq (.loc 5 (Z 768 7 12)) (.int 0 0 (Z 768 16 17)) (Z 768 7 17)) [(.ex (.meth (.loc 0 (Z 769 8 13)) 111 [(.loc 3 (Z 769 20 26)),(.loc 4 (Z 769 28 32)),(.loc 6 (Z 769 34 39))] (Z 769 8 19) (Z 769 8 40)) (Z 769 8 40)),
  (.ret0 (Z 770 8 14))] [] ⟨768,4,770,14⟩),
  (.ifs (.cmp .In (.loc 2 (Z 771 7 11)) (.bm .split0 (.glob 1 (Z 771 15 21)) [] (Z 771 15 27) (Z 771 15 29)) (Z 771 7 29)) [(.asgT [(.loc 7 (Z 772 8 14)),(.loc 8 (Z 772 16 21)),(.loc 9 (Z 772 23 27))] 0 (Z 772 8 27) (.call (.glob 2 (Z 772 30 45)) [(.loc 2 (Z 772 46 50)),(.loc 6 (Z 772 52 57)),(.loc 5 (Z 772 59 64)),(.loc 4 (Z 772 66 70))] (Z 772 30 71)) (Z 772 8 71)),
  (.ex (.call (.glob 3 (Z 773 8 11)) [(.attr (.loc 0 (Z 773 12 17)) 77 (Z 773 12 23)),(.loc 7 (Z 773 25 31)),(.loc 4 (Z 773 33 37))] (Z 773 8 38)) (Z 773 8 38)),
  (.asg (.attr (.attr (.loc 0 (Z 774 8 13)) 77 (Z 774 8 19)) 86 (Z 774 8 22)) (.int 0 0 (Z 774 25 26)) (Z 774 8 26))] [(.ifs (.cmp .In (.loc 2 (Z 775 9 13)) (.bm .split0 (.glob 4 (Z 775 17 24)) [] (Z 775 17 30) (Z 775 17 32)) (Z 775 9 32)) [(.asgT [(.loc 7 (Z 776 8 14)),(.loc 8 (Z 776 16 21)),(.loc 9 (Z 776 23 27))] 0 (Z 776 8 27) (.call (.glob 5 (Z 776 30 37)) [(.loc 2 (Z 776 38 42)),(.loc 6 (Z 776 44 49)),(.loc 5 (Z 776 51 56)),(.loc 4 (Z 776 58 62))] (Z 776 30 63)) (Z 776 8 63))] [(.asgT [(.loc 7 (Z 778 8 14)),(.loc 8 (Z 778 16 21)),(.loc 9 (Z 778 23 27))] 0 (Z 778 8 27) (.call (.glob 6 (Z 778 30 45)) [(.loc 2 (Z 778 46 50)),(.loc 6 (Z 778 52 57)),(.attr (.attr (.loc 0 (Z 778 59 64)) 77 (Z 778 59 70)) 73 (Z 778 59 73)),(.loc 5 (Z 778 75 80)),(.loc 4 (Z 778 82 86))] (Z 778 30 87)) (Z 778 8 87))] ⟨775,4,778,87⟩)] ⟨771,4,778,87⟩),
  (.asg (.attr (.attr (.loc 0 (Z 779 4 9)) 77 (Z 779 4 15)) 73 (Z 779 4 18)) (.loc 8 (Z 779 21 26)) (Z 779 4 26)),
  (.asg (.attr (.attr (.loc 0 (Z 780 4 9)) 77 (Z 780 4 15)) 72 (Z 780 4 18)) (.ite (.cmp .Eq (.loc 5 (Z 780 29 34)) (.int 1 0 (Z 780 38 39)) (Z 780 29 39)) (.loc 9 (Z 780 21 25)) (.int 0 0 (Z 780 45 46)) (Z 780 21 46)) (Z 780 4 46)),
  (.ex (.meth (.loc 0 (Z 781 4 9)) 111 [(.loc 3 (Z 781 16 22)),(.loc 4 (Z 781 24 28)),(.loc 7 (Z 781 30 36))] (Z 781 4 15) (Z 781 4 37)) (Z 781 4 37))]
noncomputable def f_33:Fn:=⟨2,[112,113,16,114,0,8,1,82,89,169],[170,171,172,92,173,174,175],[(.fn 39),(.str 167),(.fn 35),(.fn 19),(.str 168),(.fn 2169),(.fn 2176)],[],false,b_33,[]⟩
noncomputable def b_34:List Sx:= [(.ex (.call (.glob 0 (Z 783 4 15)) [(.loc 0 (Z 783 16 21))] (Z 783 4 22)) (Z 783 4 22)),
  (.asg (.attr (.loc 0 (Z 784 4 9)) 73 (Z 784 4 12)) (.loc 1 (Z 784 15 22)) (Z 784 4 22)),
  (.asg (.attr (.loc 0 (Z 785 4 9)) 72 (Z 785 4 12)) (.loc 1 (Z 785 15 22)) (Z 785 4 22))]
noncomputable def f_34:Fn:=⟨2,[77,157],[176],[(.fn 38)],[],false,b_34,[]⟩
noncomputable def b_35:List Sx:= [(.ifs (.cmp .Eq (.loc 3 (Z 787 7 11)) (.int 8 0 (Z 787 15 16)) (Z 787 7 16)) [(.ex (.meth (.loc 0 (Z 788 8 13)) 177 [(.call (.glob 0 (Z 788 18 21)) [(.int 0 0 (Z 788 22 23)),(.int 16 0 (Z 788 25 27))] (Z 788 18 28)),(.bin .BitOr (.bin .LShift (.loc 2 (Z 788 30 34)) (.int 8 0 (Z 788 38 39)) (Z 788 30 39)) (.loc 1 (Z 788 42 45)) (Z 788 30 45))] (Z 788 8 17) (Z 788 8 46)) (Z 788 8 46))] [(.ex (.meth (.loc 0 (Z 790 8 13)) 177 [(.call (.glob 0 (Z 790 18 21)) [(.int 2 0 (Z 790 22 23)),(.loc 3 (Z 790 25 29))] (Z 790 18 30)),(.loc 2 (Z 790 32 36))] (Z 790 8 17) (Z 790 8 37)) (Z 790 8 37)),
  (.ex (.meth (.loc 0 (Z 791 8 13)) 177 [(.call (.glob 0 (Z 791 18 21)) [(.int 0 0 (Z 791 22 23)),(.loc 3 (Z 791 25 29))] (Z 791 18 30)),(.loc 1 (Z 791 32 35))] (Z 791 8 17) (Z 791 8 36)) (Z 791 8 36))] ⟨787,4,791,36⟩)]
noncomputable def f_35:Fn:=⟨4,[112,3,178,0],[134],[(.fn 30)],[],false,b_35,[]⟩
noncomputable def b_36:List Sx:= [(.ifs (.cmp .Eq (.loc 1 (Z 793 7 11)) (.int 8 0 (Z 793 15 16)) (Z 793 7 16)) [(.ret (.meth (.loc 0 (Z 794 15 20)) 163 [(.call (.glob 0 (Z 794 25 28)) [(.int 0 0 (Z 794 29 30)),(.int 16 0 (Z 794 32 34))] (Z 794 25 35))] (Z 794 15 24) (Z 794 15 36)) (Z 794 8 36))] [] ⟨793,4,794,36⟩),
  (.ret (.bin .BitOr (.bin .LShift (.meth (.loc 0 (Z 795 11 16)) 163 [(.call (.glob 0 (Z 795 21 24)) [(.int 2 0 (Z 795 25 26)),(.loc 1 (Z 795 28 32))] (Z 795 21 33))] (Z 795 11 20) (Z 795 11 34)) (.loc 1 (Z 795 38 42)) (Z 795 11 42)) (.meth (.loc 0 (Z 795 45 50)) 163 [(.call (.glob 0 (Z 795 55 58)) [(.int 0 0 (Z 795 59 60)),(.loc 1 (Z 795 62 66))] (Z 795 55 67))] (Z 795 45 54) (Z 795 45 68)) (Z 795 11 68)) (Z 795 4 68))]
noncomputable def f_36:Fn:=⟨2,[112,0],[134],[(.fn 30)],[],false,b_36,[]⟩
noncomputable def b_37:List Sx:= [(.asg (.loc 2 (Z 797 4 12)) (.attr (.loc 1 (Z 797 15 26)) 108 (Z 797 15 35)) (Z 797 4 35)),
  (.asg (.loc 3 (Z 798 4 8)) (.meth (.loc 0 (Z 798 11 16)) 109 [(.sub (.loc 2 (Z 798 25 33)) (.int 0 0 (Z 798 34 35)) (Z 798 25 36)),(.loc 1 (Z 798 38 49))] (Z 798 11 24) (Z 798 11 50)) (Z 798 4 50)),
  (.asg (.loc 4 (Z 799 4 7)) (.meth (.loc 0 (Z 799 10 15)) 110 [(.sub (.loc 2 (Z 799 21 29)) (.int 0 0 (Z 799 30 31)) (Z 799 21 32)),(.loc 3 (Z 799 34 38))] (Z 799 10 20) (Z 799 10 39)) (Z 799 4 39)),
  (.ifs (.cmp .Eq (.call (.glob 0 (Z 800 7 10)) [(.loc 2 (Z 800 11 19))] (Z 800 7 20)) (.int 1 0 (Z 800 24 25)) (Z 800 7 25)) [(.asgT [(.loc 5 (Z 801 8 11)),(.loc 6 (Z 801 13 17)),(.loc 7 (Z 801 19 26))] 0 (Z 801 8 26) (.call (.glob 1 (Z 801 29 36)) [(.meth (.loc 0 (Z 801 37 42)) 163 [(.call (.glob 2 (Z 801 47 50)) [(.int 0 0 (Z 801 51 52)),(.loc 3 (Z 801 54 58))] (Z 801 47 59))] (Z 801 37 46) (Z 801 37 60)),(.loc 4 (Z 801 62 65)),(.loc 3 (Z 801 67 71)),(.cmp .Eq (.attr (.loc 1 (Z 801 73 84)) 16 (Z 801 73 89)) (.str 179 0 (Z 801 93 99)) (Z 801 73 99))] (Z 801 29 100)) (Z 801 8 100)),
  (.ex (.call (.glob 3 (Z 802 8 18)) [(.loc 0 (Z 802 19 24)),(.loc 5 (Z 802 26 29)),(.loc 6 (Z 802 31 35)),(.loc 3 (Z 802 37 41))] (Z 802 8 42)) (Z 802 8 42))] [(.asg (.loc 8 (Z 804 8 13)) (.meth (.loc 0 (Z 804 16 21)) 110 [(.sub (.loc 2 (Z 804 27 35)) (.int 1 0 (Z 804 36 37)) (Z 804 27 38)),(.loc 3 (Z 804 40 44))] (Z 804 16 26) (Z 804 16 45)) (Z 804 8 45)),
  (.ifs (.cmp .Eq (.call (.glob 0 (Z 805 11 14)) [(.loc 2 (Z 805 15 23))] (Z 805 11 24)) (.int 3 0 (Z 805 28 29)) (Z 805 11 29)) [(.asg (.loc 4 (Z 806 12 15)) (.meth (.loc 0 (Z 806 18 23)) 110 [(.sub (.loc 2 (Z 806 29 37)) (.int 2 0 (Z 806 38 39)) (Z 806 29 40)),(.loc 3 (Z 806 42 46))] (Z 806 18 28) (Z 806 18 47)) (Z 806 12 47))] [] ⟨805,8,806,47⟩),
  (.asgT [(.loc 5 (Z 807 8 11)),(.loc 6 (Z 807 13 17)),(.loc 7 (Z 807 19 26))] 0 (Z 807 8 26) (.call (.glob 1 (Z 807 29 36)) [(.loc 4 (Z 807 37 40)),(.loc 8 (Z 807 42 47)),(.loc 3 (Z 807 49 53)),(.bool true 0 (Z 807 55 59))] (Z 807 29 60)) (Z 807 8 60)),
  (.ex (.meth (.loc 0 (Z 808 8 13)) 111 [(.sub (.loc 2 (Z 808 20 28)) (.int 0 0 (Z 808 29 30)) (Z 808 20 31)),(.loc 3 (Z 808 33 37)),(.loc 5 (Z 808 39 42))] (Z 808 8 19) (Z 808 8 43)) (Z 808 8 43))] ⟨800,4,808,43⟩),
  (.ex (.call (.glob 4 (Z 809 4 12)) [(.attr (.loc 0 (Z 809 13 18)) 77 (Z 809 13 24)),(.loc 7 (Z 809 26 33))] (Z 809 4 34)) (Z 809 4 34))]
noncomputable def f_37:Fn:=⟨2,[112,113,108,0,27,3,178,157,28],[23,180,134,181,182],[(.prim 0),(.fn 36),(.fn 30),(.fn 42),(.fn 41)],[],false,b_37,[]⟩
noncomputable def b_38:List Sx:= [(.asg (.loc 2 (Z 811 4 11)) (.sub (.attr (.loc 1 (Z 811 14 25)) 108 (Z 811 14 34)) (.int 0 0 (Z 811 35 36)) (Z 811 14 37)) (Z 811 4 37)),
  (.asg (.loc 3 (Z 812 4 8)) (.meth (.loc 0 (Z 812 11 16)) 109 [(.loc 2 (Z 812 25 32)),(.loc 1 (Z 812 34 45))] (Z 812 11 24) (Z 812 11 46)) (Z 812 4 46)),
  (.asgT [(.loc 4 (Z 813 4 7)),(.loc 5 (Z 813 9 13))] 0 (Z 813 4 13) (.call (.glob 0 (Z 813 16 32)) [(.call (.glob 1 (Z 813 33 39)) [(.loc 0 (Z 813 40 45)),(.loc 3 (Z 813 47 51))] (Z 813 33 52)),(.meth (.loc 0 (Z 813 54 59)) 110 [(.loc 2 (Z 813 65 72)),(.loc 3 (Z 813 74 78))] (Z 813 54 64) (Z 813 54 79)),(.loc 3 (Z 813 81 85)),(.cmp .Eq (.attr (.loc 1 (Z 813 87 98)) 16 (Z 813 87 103)) (.str 183 0 (Z 813 107 113)) (Z 813 87 113))] (Z 813 16 114)) (Z 813 4 114)),
  (.ex (.call (.glob 2 (Z 814 4 14)) [(.loc 0 (Z 814 15 20)),(.loc 4 (Z 814 22 25)),(.loc 5 (Z 814 27 31)),(.loc 3 (Z 814 33 37))] (Z 814 4 38)) (Z 814 4 38)),
  (.ex (.call (.glob 3 (Z 815 4 15)) [(.attr (.loc 0 (Z 815 16 21)) 77 (Z 815 16 27))] (Z 815 4 28)) (Z 815 4 28))]
noncomputable def f_38:Fn:=⟨2,[112,113,165,0,3,178],[184,185,181,176],[(.fn 37),(.fn 43),(.fn 42),(.fn 38)],[],false,b_38,[]⟩
noncomputable def b_39:List Sx:= [(.ifs (.cmp .In (.loc 1 (Z 817 7 11)) (.bm .split0 (.glob 0 (Z 817 15 26)) [] (Z 817 15 32) (Z 817 15 34)) (Z 817 7 34)) [(.asg (.loc 2 (Z 818 8 12)) (.bin .LShift (.int 16 0 (Z 818 15 17)) (.bm .index (.bm .split0 (.glob 0 (Z 818 21 32)) [] (Z 818 21 38) (Z 818 21 40)) [(.loc 1 (Z 818 47 51))] (Z 818 21 46) (Z 818 21 52)) (Z 818 15 52)) (Z 818 8 52)),
  (.asg (.loc 3 (Z 819 8 13)) (.meth (.loc 0 (Z 819 16 21)) 163 [(.call (.glob 1 (Z 819 26 29)) [(.int 0 0 (Z 819 30 31)),(.bin .FloorDiv (.loc 2 (Z 819 33 37)) (.int 2 0 (Z 819 41 42)) (Z 819 33 42))] (Z 819 26 43))] (Z 819 16 25) (Z 819 16 44)) (Z 819 8 44)),
  (.ex (.meth (.loc 0 (Z 820 8 13)) 177 [(.call (.glob 1 (Z 820 18 21)) [(.int 0 0 (Z 820 22 23)),(.loc 2 (Z 820 25 29))] (Z 820 18 30)),(.call (.glob 2 (Z 820 32 40)) [(.loc 3 (Z 820 41 46)),(.bin .FloorDiv (.loc 2 (Z 820 48 52)) (.int 2 0 (Z 820 56 57)) (Z 820 48 57)),(.loc 2 (Z 820 59 63))] (Z 820 32 64))] (Z 820 8 17) (Z 820 8 65)) (Z 820 8 65))] [(.asg (.loc 2 (Z 822 8 12)) (.bin .LShift (.int 16 0 (Z 822 15 17)) (.bm .index (.bm .split0 (.glob 3 (Z 822 21 28)) [] (Z 822 21 34) (Z 822 21 36)) [(.loc 1 (Z 822 43 47))] (Z 822 21 42) (Z 822 21 48)) (Z 822 15 48)) (Z 822 8 48)),
  (.asg (.loc 4 (Z 823 8 13)) (.meth (.loc 0 (Z 823 16 21)) 163 [(.call (.glob 1 (Z 823 26 29)) [(.int 0 0 (Z 823 30 31)),(.loc 2 (Z 823 33 37))] (Z 823 26 38))] (Z 823 16 25) (Z 823 16 39)) (Z 823 8 39)),
  (.ex (.meth (.loc 0 (Z 824 8 13)) 177 [(.call (.glob 1 (Z 824 18 21)) [(.int 2 0 (Z 824 22 23)),(.loc 2 (Z 824 25 29))] (Z 824 18 30)),(.call (.glob 4 (Z 824 32 36)) [(.neg (.call (.glob 5 (Z 824 38 41)) [(.loc 4 (Z 824 42 47)),(.bin .Sub (.loc 2 (Z 824 49 53)) (.int 1 0 (Z 824 56 57)) (Z 824 49 57))] (Z 824 38 58)) (Z 824 37 58)),(.loc 2 (Z 824 60 64))] (Z 824 32 65))] (Z 824 8 17) (Z 824 8 66)) (Z 824 8 66))] ⟨817,4,824,66⟩)]
noncomputable def f_39:Fn:=⟨2,[112,16,0,188,1],[189,134,190,191,4,84],[(.str 186),(.fn 30),(.fn 1120),(.str 187),(.fn 1),(.fn 4)],[],false,b_39,[]⟩
noncomputable def b_40:List Sx:= [(.asg (.loc 2 (Z 836 4 8)) (.attr (.loc 1 (Z 836 11 22)) 16 (Z 836 11 27)) (Z 836 4 27)),
  (.ifs (.cmp .Eq (.loc 2 (Z 837 7 11)) (.str 192 0 (Z 837 15 20)) (Z 837 7 20)) [(.ret (.bool true 0 (Z 838 15 19)) (Z 838 8 19))] [] ⟨837,4,838,19⟩),
  (.ifs (.and [(.cmp .NotEq (.loc 2 (Z 839 7 11)) (.str 193 0 (Z 839 15 20)) (Z 839 7 20)),(.cmp .NotEq (.loc 2 (Z 839 25 29)) (.str 194 0 (Z 839 33 38)) (Z 839 25 38)),(.cmp .NotEq (.loc 2 (Z 839 44 48)) (.str 195 0 (Z 839 52 58)) (Z 839 44 58))] (Z 839 7 59)) [(.ret (.bool false 0 (Z 840 15 20)) (Z 840 8 20))] [] ⟨839,4,840,20⟩),
  (.asg (.loc 3 (Z 841 4 7)) (.sub (.attr (.loc 1 (Z 841 10 21)) 108 (Z 841 10 30)) (.int 0 0 (Z 841 31 32)) (Z 841 10 33)) (Z 841 4 33)),
  (.asg (.loc 4 (Z 842 4 9)) (.sub (.attr (.loc 1 (Z 842 12 23)) 108 (Z 842 12 32)) (.int 1 0 (Z 842 33 34)) (Z 842 12 35)) (Z 842 4 35)),
  (.asg (.loc 5 (Z 843 4 8)) (.meth (.loc 0 (Z 843 11 16)) 109 [(.loc 3 (Z 843 25 28)),(.loc 1 (Z 843 30 41))] (Z 843 11 24) (Z 843 11 42)) (Z 843 4 42)),
  (.ifs (.cmp .Eq (.loc 2 (Z 844 7 11)) (.str 194 0 (Z 844 15 20)) (Z 844 7 20)) [(.ex (.meth (.loc 0 (Z 845 8 13)) 177 [(.attr (.loc 3 (Z 845 18 21)) 164 (Z 845 18 30)),(.meth (.loc 0 (Z 845 32 37)) 196 [(.loc 4 (Z 845 45 50))] (Z 845 32 44) (Z 845 32 51))] (Z 845 8 17) (Z 845 8 52)) (Z 845 8 52))] [(.ifs (.cmp .Eq (.loc 2 (Z 846 9 13)) (.str 193 0 (Z 846 17 22)) (Z 846 9 22)) [(.ex (.meth (.loc 0 (Z 847 8 13)) 111 [(.loc 3 (Z 847 20 23)),(.loc 5 (Z 847 25 29)),(.meth (.loc 0 (Z 847 31 36)) 110 [(.loc 4 (Z 847 42 47)),(.loc 5 (Z 847 49 53))] (Z 847 31 41) (Z 847 31 54))] (Z 847 8 19) (Z 847 8 55)) (Z 847 8 55))] [(.ex (.call (.glob 0 (Z 849 8 16)) [(.loc 0 (Z 849 17 22)),(.loc 3 (Z 849 24 27)),(.loc 4 (Z 849 29 34)),(.loc 5 (Z 849 36 40))] (Z 849 8 41)) (Z 849 8 41))] ⟨846,4,849,41⟩)] ⟨844,4,849,41⟩),
  (.ret (.bool true 0 (Z 850 11 15)) (Z 850 4 15))]
noncomputable def f_40:Fn:=⟨2,[112,113,16,27,28,0],[197],[(.fn 2260)],[],false,b_40,[]⟩
noncomputable def b_41:List Sx:= [(.asg (.loc 2 (Z 852 4 7)) (.sub (.attr (.loc 1 (Z 852 10 21)) 108 (Z 852 10 30)) (.int 0 0 (Z 852 31 32)) (Z 852 10 33)) (Z 852 4 33)),
  (.asg (.loc 3 (Z 853 4 8)) (.meth (.loc 0 (Z 853 11 16)) 109 [(.loc 2 (Z 853 25 28)),(.loc 1 (Z 853 30 41))] (Z 853 11 24) (Z 853 11 42)) (Z 853 4 42)),
  (.ex (.meth (.loc 0 (Z 854 4 9)) 198 [(.meth (.loc 0 (Z 854 15 20)) 110 [(.loc 2 (Z 854 26 29)),(.loc 3 (Z 854 31 35))] (Z 854 15 25) (Z 854 15 36)),(.bin .FloorDiv (.loc 3 (Z 854 38 42)) (.int 8 0 (Z 854 46 47)) (Z 854 38 47))] (Z 854 4 14) (Z 854 4 48)) (Z 854 4 48))]
noncomputable def f_41:Fn:=⟨2,[112,113,27,0],[],[],[],false,b_41,[]⟩
noncomputable def b_42:List Sx:= [(.asg (.loc 2 (Z 856 4 7)) (.sub (.attr (.loc 1 (Z 856 10 21)) 108 (Z 856 10 30)) (.int 0 0 (Z 856 31 32)) (Z 856 10 33)) (Z 856 4 33)),
  (.asg (.loc 3 (Z 857 4 8)) (.meth (.loc 0 (Z 857 11 16)) 109 [(.loc 2 (Z 857 25 28)),(.loc 1 (Z 857 30 41))] (Z 857 11 24) (Z 857 11 42)) (Z 857 4 42)),
  (.asg (.loc 4 (Z 858 4 9)) (.meth (.loc 0 (Z 858 12 17)) 199 [(.bin .FloorDiv (.loc 3 (Z 858 22 26)) (.int 8 0 (Z 858 30 31)) (Z 858 22 31))] (Z 858 12 21) (Z 858 12 32)) (Z 858 4 32)),
  (.ex (.meth (.loc 0 (Z 859 4 9)) 111 [(.loc 2 (Z 859 16 19)),(.loc 3 (Z 859 21 25)),(.loc 4 (Z 859 27 32))] (Z 859 4 15) (Z 859 4 33)) (Z 859 4 33))]
noncomputable def f_42:Fn:=⟨2,[112,113,27,0,1],[],[],[],false,b_42,[]⟩
noncomputable def b_43:List Sx:= [(.asg (.loc 2 (Z 861 4 8)) (.attr (.loc 1 (Z 861 11 22)) 16 (Z 861 11 27)) (Z 861 4 27)),
  (.ifs (.cmp .Eq (.loc 2 (Z 862 7 11)) (.str 198 0 (Z 862 15 21)) (Z 862 7 21)) [(.ex (.call (.glob 0 (Z 863 8 20)) [(.loc 0 (Z 863 21 26)),(.loc 1 (Z 863 28 39))] (Z 863 8 40)) (Z 863 8 40))] [(.ifs (.cmp .Eq (.loc 2 (Z 864 9 13)) (.str 199 0 (Z 864 17 22)) (Z 864 9 22)) [(.ex (.call (.glob 1 (Z 865 8 19)) [(.loc 0 (Z 865 20 25)),(.loc 1 (Z 865 27 38))] (Z 865 8 39)) (Z 865 8 39))] [(.ifs (.cmp .Eq (.loc 2 (Z 866 9 13)) (.str 200 0 (Z 866 17 25)) (Z 866 9 25)) [(.ex (.meth (.loc 0 (Z 867 8 13)) 198 [(.meth (.attr (.loc 0 (Z 867 19 24)) 77 (Z 867 19 30)) 201 [] (Z 867 19 35) (Z 867 19 37)),(.int 8 0 (Z 867 39 40))] (Z 867 8 18) (Z 867 8 41)) (Z 867 8 41))] [(.ifs (.cmp .Eq (.loc 2 (Z 868 9 13)) (.str 202 0 (Z 868 17 24)) (Z 868 9 24)) [(.ex (.meth (.attr (.loc 0 (Z 869 8 13)) 77 (Z 869 8 19)) 203 [(.meth (.loc 0 (Z 869 27 32)) 199 [(.int 8 0 (Z 869 37 38))] (Z 869 27 36) (Z 869 27 39))] (Z 869 8 26) (Z 869 8 40)) (Z 869 8 40))] [(.ifs (.cmp .Eq (.loc 2 (Z 870 9 13)) (.str 204 0 (Z 870 17 24)) (Z 870 9 24)) [(.asg (.sub (.attr (.loc 0 (Z 871 8 13)) 205 (Z 871 8 18)) (.glob 2 (Z 871 19 22)) (Z 871 8 23)) (.sub (.attr (.loc 0 (Z 871 26 31)) 205 (Z 871 26 36)) (.glob 3 (Z 871 37 40)) (Z 871 26 41)) (Z 871 8 41)),
  (.asg (.sub (.attr (.loc 0 (Z 872 8 13)) 205 (Z 872 8 18)) (.glob 3 (Z 872 19 22)) (Z 872 8 23)) (.meth (.loc 0 (Z 872 26 31)) 199 [(.int 8 0 (Z 872 36 37))] (Z 872 26 35) (Z 872 26 38)) (Z 872 8 38))] [(.ret (.bool false 0 (Z 874 15 20)) (Z 874 8 20))] ⟨870,4,874,20⟩)] ⟨868,4,874,20⟩)] ⟨866,4,874,20⟩)] ⟨864,4,874,20⟩)] ⟨862,4,874,20⟩),
  (.ret (.bool true 0 (Z 875 11 15)) (Z 875 4 15))]
noncomputable def f_43:Fn:=⟨2,[112,113,16],[206,207,208,209],[(.fn 48),(.fn 49),(.int 4),(.int 5)],[],false,b_43,[]⟩
noncomputable def b_44:List Sx:= [(.ret (.lstM false [(.comp1 (.slcTo (.loc 0 (Z 878 35 41)) (.int 40 0 (Z 878 43 45)) (Z 878 42 45) (Z 878 35 46)) 210 211 (Z 878 13 16) (Z 878 17 21) (Z 878 13 22) (Z 878 27 31) (Z 878 12 47)),(.int 0 0 (Z 878 49 50)),(.int 0 0 (Z 878 52 53))] (Z 878 11 54)) (Z 878 4 54))]
noncomputable def f_44:Fn:=⟨1,[212],[],[],[],false,b_44,[]⟩
noncomputable def b_45:List Sx:= [(.ifs (.cmp .Gt (.sub (.loc 0 (Z 880 7 10)) (.int 2 0 (Z 880 11 12)) (Z 880 7 13)) (.int 0 0 (Z 880 16 17)) (Z 880 7 17)) [(.asg (.loc 2 (Z 881 8 13)) (.bin .Mod (.call (.glob 0 (Z 881 16 19)) [(.sub (.loc 0 (Z 881 20 23)) (.int 2 0 (Z 881 24 25)) (Z 881 20 26))] (Z 881 16 27)) (.loc 1 (Z 881 30 34)) (Z 881 16 34)) (Z 881 8 34)),
  (.asg (.sub (.loc 0 (Z 882 8 11)) (.int 2 0 (Z 882 12 13)) (Z 882 8 14)) (.bin .FloorDiv (.call (.glob 0 (Z 882 17 20)) [(.sub (.loc 0 (Z 882 21 24)) (.int 2 0 (Z 882 25 26)) (Z 882 21 27))] (Z 882 17 28)) (.loc 1 (Z 882 32 36)) (Z 882 17 36)) (Z 882 8 36)),
  (.ret (.loc 2 (Z 883 15 20)) (Z 883 8 20))] [] ⟨880,4,883,20⟩),
  (.asg (.loc 3 (Z 884 4 8)) (.sub (.loc 0 (Z 884 11 14)) (.int 1 0 (Z 884 15 16)) (Z 884 11 17)) (Z 884 4 17)),
  (.asg (.sub (.loc 0 (Z 885 4 7)) (.int 1 0 (Z 885 8 9)) (Z 885 4 10)) (.bin .Add (.loc 3 (Z 885 13 17)) (.int 1 0 (Z 885 20 21)) (Z 885 13 21)) (Z 885 4 21)),
  (.asg (.loc 4 (Z 886 4 8)) (.bin .Add (.bin .Add (.bin .Mult (.int 22111 0 (Z 886 11 16)) (.loc 3 (Z 886 19 23)) (Z 886 11 23)) (.int 3391 0 (Z 886 26 30)) (Z 886 11 30)) (.bin .Mod (.call (.glob 0 (Z 886 33 36)) [(.call (.glob 1 (Z 886 37 40)) [(.slcTo (.sub (.loc 0 (Z 886 41 44)) (.int 0 0 (Z 886 45 46)) (Z 886 41 47)) (.int 1 0 (Z 886 49 50)) (Z 886 48 50) (Z 886 41 51))] (Z 886 37 52))] (Z 886 33 53)) (.int 1000003 0 (Z 886 56 63)) (Z 886 33 63)) (Z 886 11 63)) (Z 886 4 63)),
  (.ifs (.cmp .NotEq (.sub (.loc 0 (Z 887 7 10)) (.int 0 0 (Z 887 11 12)) (Z 887 7 13)) (.lst [] (Z 887 17 19)) (Z 887 7 19)) [(.asg (.loc 4 (Z 888 8 12)) (.sub (.sub (.loc 0 (Z 888 15 18)) (.int 0 0 (Z 888 19 20)) (Z 888 15 21)) (.bin .Mod (.call (.glob 0 (Z 888 22 25)) [(.loc 3 (Z 888 26 30))] (Z 888 22 31)) (.call (.glob 2 (Z 888 34 37)) [(.sub (.loc 0 (Z 888 38 41)) (.int 0 0 (Z 888 42 43)) (Z 888 38 44))] (Z 888 34 45)) (Z 888 22 45)) (Z 888 15 46)) (Z 888 8 46))] [] ⟨887,4,888,46⟩),
  (.ifs (.and [(.cmp .Lt (.loc 3 (Z 889 7 11)) (.call (.glob 2 (Z 889 14 17)) [(.sub (.loc 0 (Z 889 18 21)) (.int 0 0 (Z 889 22 23)) (Z 889 18 24))] (Z 889 14 25)) (Z 889 7 25)),(.cmp .GtE (.call (.glob 3 (Z 889 30 33)) [(.loc 4 (Z 889 34 38))] (Z 889 30 39)) (.bin .Pow (.int 10 0 (Z 889 43 45)) (.int 18 0 (Z 889 49 51)) (Z 889 43 51)) (Z 889 30 51))] (Z 889 7 51)) [(.asg (.loc 5 (Z 890 8 13)) (.bin .Add (.bin .Mult (.int 2 0 (Z 890 16 17)) (.bin .Sub (.call (.glob 3 (Z 890 21 24)) [(.loc 4 (Z 890 25 29))] (Z 890 21 30)) (.bin .Pow (.int 10 0 (Z 890 33 35)) (.int 18 0 (Z 890 39 41)) (Z 890 33 41)) (Z 890 21 41)) (Z 890 16 42)) (.call (.glob 0 (Z 890 45 48)) [(.cmp .Lt (.loc 4 (Z 890 49 53)) (.int 0 0 (Z 890 56 57)) (Z 890 49 57))] (Z 890 45 58)) (Z 890 16 58)) (Z 890 8 58)),
  (.asg (.sub (.loc 0 (Z 891 8 11)) (.int 2 0 (Z 891 12 13)) (Z 891 8 14)) (.bin .FloorDiv (.call (.glob 0 (Z 891 17 20)) [(.loc 5 (Z 891 21 26))] (Z 891 17 27)) (.loc 1 (Z 891 31 35)) (Z 891 17 35)) (Z 891 8 35)),
  (.ret (.bin .Mod (.call (.glob 0 (Z 892 15 18)) [(.loc 5 (Z 892 19 24))] (Z 892 15 25)) (.loc 1 (Z 892 28 32)) (Z 892 15 32)) (Z 892 8 32))] [] ⟨889,4,892,32⟩),
  (.asg (.loc 6 (Z 893 4 9)) (.bin .Mod (.call (.glob 0 (Z 893 12 15)) [(.bin .Pow (.bin .Add (.bin .Add (.bin .Mod (.call (.glob 0 (Z 893 17 20)) [(.loc 4 (Z 893 21 25))] (Z 893 17 26)) (.int 2147483587 0 (Z 893 29 39)) (Z 893 17 39)) (.bin .Mult (.int 22111 0 (Z 893 42 47)) (.loc 3 (Z 893 50 54)) (Z 893 42 54)) (Z 893 17 54)) (.int 3391 0 (Z 893 57 61)) (Z 893 17 61)) (.int 5 0 (Z 893 66 67)) (Z 893 16 67))] (Z 893 12 68)) (.int 2147483629 0 (Z 893 71 81)) (Z 893 12 81)) (Z 893 4 81)),
  (.asg (.loc 6 (Z 894 4 9)) (.bin .Mod (.call (.glob 0 (Z 894 12 15)) [(.bin .Pow (.bin .Add (.bin .Add (.bin .Mult (.loc 6 (Z 894 17 22)) (.bin .Add (.bin .Mult (.int 2 0 (Z 894 26 27)) (.loc 3 (Z 894 30 34)) (Z 894 26 34)) (.int 9001 0 (Z 894 37 41)) (Z 894 26 41)) (Z 894 17 42)) (.bin .Mult (.bin .Mult (.int 22111 0 (Z 894 45 50)) (.loc 3 (Z 894 53 57)) (Z 894 45 57)) (.loc 3 (Z 894 60 64)) (Z 894 45 64)) (Z 894 17 64)) (.int 53 0 (Z 894 67 69)) (Z 894 17 69)) (.int 3 0 (Z 894 74 75)) (Z 894 16 75))] (Z 894 12 76)) (.int 2147483579 0 (Z 894 79 89)) (Z 894 12 89)) (Z 894 4 89)),
  (.ret (.bin .Mod (.call (.glob 0 (Z 895 11 14)) [(.bin .FloorDiv (.loc 6 (Z 895 15 20)) (.int 32 0 (Z 895 24 26)) (Z 895 15 26))] (Z 895 11 27)) (.loc 1 (Z 895 30 34)) (Z 895 11 34)) (Z 895 4 34))]
noncomputable def f_45:Fn:=⟨2,[213,214,215,216,210,217,218],[211,219,23,29],[(.prim 3),(.prim 4),(.prim 0),(.prim 2)],[],false,b_45,[]⟩
noncomputable def b_46:List Sx:= [(.ret (.sub (.loc 1 (Z 897 11 15)) (.call (.glob 0 (Z 897 16 25)) [(.loc 0 (Z 897 26 29)),(.call (.glob 1 (Z 897 31 34)) [(.loc 1 (Z 897 35 39))] (Z 897 31 40))] (Z 897 16 41)) (Z 897 11 42)) (Z 897 4 42))]
noncomputable def f_46:Fn:=⟨2,[213,220],[221,23],[(.fn 52),(.prim 0)],[],false,b_46,[]⟩
noncomputable def b_47:List Sx:= [(.asg (.loc 1 (Z 899 4 7)) (.call (.glob 0 (Z 899 10 19)) [(.loc 0 (Z 899 20 23)),(.int 3 0 (Z 899 25 26))] (Z 899 10 27)) (Z 899 4 27)),
  (.ifs (.cmp .Eq (.loc 1 (Z 900 7 10)) (.int 0 0 (Z 900 14 15)) (Z 900 7 15)) [(.ret (.bin .Sub (.call (.glob 0 (Z 901 15 24)) [(.loc 0 (Z 901 25 28)),(.int 20 0 (Z 901 30 32))] (Z 901 15 33)) (.int 10 0 (Z 901 36 38)) (Z 901 15 38)) (Z 901 8 38))] [] ⟨900,4,901,38⟩),
  (.ret (.ite (.cmp .Eq (.loc 1 (Z 902 38 41)) (.int 1 0 (Z 902 45 46)) (Z 902 38 46)) (.call (.glob 0 (Z 902 11 20)) [(.loc 0 (Z 902 21 24)),(.bin .Pow (.int 2 0 (Z 902 26 27)) (.int 64 0 (Z 902 31 33)) (Z 902 26 33))] (Z 902 11 34)) (.neg (.call (.glob 0 (Z 902 53 62)) [(.loc 0 (Z 902 63 66)),(.bin .Pow (.int 2 0 (Z 902 68 69)) (.int 63 0 (Z 902 73 75)) (Z 902 68 75))] (Z 902 53 76)) (Z 902 52 76)) (Z 902 11 76)) (Z 902 4 76))]
noncomputable def f_47:Fn:=⟨1,[213,222],[221],[(.fn 52)],[],false,b_47,[]⟩
noncomputable def b_48:List Sx:= [(.ret (.call (.glob 0 (Z 904 11 14)) [(.call (.glob 1 (Z 904 15 18)) [(.loc 0 (Z 904 19 25)),(.int 64 0 (Z 904 27 29))] (Z 904 15 30))] (Z 904 11 31)) (Z 904 4 31))]
noncomputable def f_48:Fn:=⟨1,[53],[223,134],[(.cls 11),(.fn 30)],[],false,b_48,[]⟩
noncomputable def b_49:List Sx:= [(.ret (.call (.glob 0 (Z 906 11 22)) [(.loc 0 (Z 906 23 27)),(.loc 1 (Z 906 29 37))] (Z 906 11 38)) (Z 906 4 38))]
noncomputable def f_49:Fn:=⟨2,[16,108],[224],[(.cls 14)],[],false,b_49,[]⟩
noncomputable def b_50:List Sx:= [(.ret (.cmp2 .LtE .Lt (.neg (.bin .Pow (.int 2 0 (Z 908 12 13)) (.int 63 0 (Z 908 17 19)) (Z 908 12 19)) (Z 908 11 19)) (.loc 0 (Z 908 23 28)) (.bin .Pow (.int 2 0 (Z 908 31 32)) (.int 63 0 (Z 908 36 38)) (Z 908 31 38)) (Z 908 11 38)) (Z 908 4 38))]
noncomputable def f_50:Fn:=⟨1,[1],[],[],[],false,b_50,[]⟩
noncomputable def b_51:List Sx:= [(.ret (.tup [(.call (.glob 0 (Z 910 12 18)) [(.loc 0 (Z 910 19 24))] (Z 910 12 25)),(.loc 0 (Z 910 27 32)),(.lst [(.call (.glob 1 (Z 910 35 42)) [(.str 193 0 (Z 910 43 48)),(.lst [(.call (.glob 2 (Z 910 51 59)) [(.int 0 0 (Z 910 60 61))] (Z 910 51 62)),(.call (.glob 3 (Z 910 64 67)) [(.loc 0 (Z 910 68 73))] (Z 910 64 74))] (Z 910 50 75))] (Z 910 35 76)),(.call (.glob 1 (Z 910 78 85)) [(.str 198 0 (Z 910 86 92)),(.lst [(.call (.glob 2 (Z 910 95 103)) [(.int 0 0 (Z 910 104 105))] (Z 910 95 106))] (Z 910 94 107))] (Z 910 78 108))] (Z 910 34 109))] 0 (Z 910 11 110)) (Z 910 4 110))]
noncomputable def f_51:Fn:=⟨1,[1],[225,226,227,228],[(.cls 0),(.fn 56),(.fn 55),(.cls 12)],[],false,b_51,[]⟩
noncomputable def b_52:List Sx:= [(.asg (.loc 2 (Z 912 4 7)) (.call (.glob 0 (Z 912 10 19)) [(.loc 0 (Z 912 20 23)),(.int 3 0 (Z 912 25 26))] (Z 912 10 27)) (Z 912 4 27)),
  (.ifs (.cmp .Eq (.loc 2 (Z 913 7 10)) (.int 0 0 (Z 913 14 15)) (Z 913 7 15)) [(.ret (.call (.glob 1 (Z 914 15 26)) [(.call (.glob 0 (Z 914 27 36)) [(.loc 0 (Z 914 37 40)),(.int 12 0 (Z 914 42 44))] (Z 914 27 45))] (Z 914 15 46)) (Z 914 8 46))] [] ⟨913,4,914,46⟩),
  (.ifs (.cmp .Eq (.loc 2 (Z 915 7 10)) (.int 1 0 (Z 915 14 15)) (Z 915 7 15)) [(.ret (.call (.glob 1 (Z 916 15 26)) [(.call (.glob 0 (Z 916 27 36)) [(.loc 0 (Z 916 37 40)),(.bin .Pow (.int 2 0 (Z 916 42 43)) (.int 64 0 (Z 916 47 49)) (Z 916 42 49))] (Z 916 27 50))] (Z 916 15 51)) (Z 916 8 51))] [] ⟨915,4,916,51⟩),
  (.asg (.loc 3 (Z 917 4 8)) (.call (.glob 0 (Z 917 11 20)) [(.loc 0 (Z 917 21 24)),(.int 3 0 (Z 917 26 27))] (Z 917 11 28)) (Z 917 4 28)),
  (.ret (.tup [(.call (.glob 2 (Z 918 12 18)) [(.sub (.str 229 0 (Z 918 19 24)) (.loc 3 (Z 918 25 29)) (Z 918 19 30))] (Z 918 12 31)),(.sub (.loc 1 (Z 918 33 38)) (.loc 3 (Z 918 39 43)) (Z 918 33 44)),(.lst [(.call (.glob 3 (Z 918 47 54)) [(.str 198 0 (Z 918 55 61)),(.lst [(.call (.glob 4 (Z 918 64 67)) [(.call (.glob 5 (Z 918 68 71)) [(.int 3 0 (Z 918 72 73)),(.int 64 0 (Z 918 75 77))] (Z 918 68 78)),(.none 0 (Z 918 80 84)),(.int 1 0 (Z 918 86 87)),(.bin .Mult (.int 8 0 (Z 918 89 90)) (.loc 3 (Z 918 93 97)) (Z 918 89 97)),(.int 64 0 (Z 918 99 101))] (Z 918 64 102))] (Z 918 63 103))] (Z 918 47 104))] (Z 918 46 105))] 0 (Z 918 11 106)) (Z 918 4 106))]
noncomputable def f_52:Fn:=⟨2,[213,230,222,216],[221,231,232,226,233,134],[(.fn 52),(.fn 58),(.cls 1),(.fn 56),(.cls 13),(.fn 30)],[],false,b_52,[]⟩
noncomputable def b_53:List Sx:= [(.asgT [(.loc 2 (Z 920 4 8)),(.loc 3 (Z 920 10 15)),(.loc 4 (Z 920 17 21))] 0 (Z 920 4 21) (.loc 1 (Z 920 24 28)) (Z 920 4 28)),
  (.ifs (.and [(.cmp .Eq (.loc 0 (Z 921 7 11)) (.str 234 0 (Z 921 15 18)) (Z 921 7 18)),(.not (.call (.glob 0 (Z 921 28 37)) [(.loc 3 (Z 921 38 43))] (Z 921 28 44)) (Z 921 24 44))] (Z 921 7 45)) [(.asg (.loc 0 (Z 922 8 12)) (.str 51 0 (Z 922 15 18)) (Z 922 8 18))] [] ⟨921,4,922,18⟩),
  (.asg (.loc 4 (Z 923 4 8)) (.bin .Add (.loc 4 (Z 923 11 15)) (.lst [(.call (.glob 1 (Z 923 19 26)) [(.str 199 0 (Z 923 27 32)),(.lst [(.call (.glob 2 (Z 923 35 43)) [(.int 0 0 (Z 923 44 45))] (Z 923 35 46))] (Z 923 34 47))] (Z 923 19 48))] (Z 923 18 49)) (Z 923 11 49)) (Z 923 4 49)),
  (.ifs (.cmp .Eq (.loc 0 (Z 924 7 11)) (.str 44 0 (Z 924 15 18)) (Z 924 7 18)) [(.asgW 4 5 (Z 925 8 12) (Z 925 14 17) 0 (Z 925 8 17) (.bin .Add (.loc 4 (Z 925 21 25)) (.lst [(.call (.glob 1 (Z 925 29 36)) [(.str 119 0 (Z 925 37 42)),(.lst [(.call (.glob 2 (Z 925 45 53)) [(.int 0 0 (Z 925 54 55))] (Z 925 45 56))] (Z 925 44 57))] (Z 925 29 58))] (Z 925 28 59)) (Z 925 21 59)) (.bin .Sub (.int 0 0 (Z 925 61 62)) (.loc 3 (Z 925 65 70)) (Z 925 61 70)) 0 (Z 925 20 71) (Z 925 8 71))] [(.ifs (.cmp .Eq (.loc 0 (Z 926 9 13)) (.str 51 0 (Z 926 17 20)) (Z 926 9 20)) [(.asgW 4 5 (Z 927 8 12) (Z 927 14 17) 0 (Z 927 8 17) (.bin .Add (.loc 4 (Z 927 21 25)) (.lst [(.call (.glob 1 (Z 927 29 36)) [(.str 235 0 (Z 927 37 42)),(.lst [(.call (.glob 2 (Z 927 45 53)) [(.int 0 0 (Z 927 54 55))] (Z 927 45 56))] (Z 927 44 57))] (Z 927 29 58))] (Z 927 28 59)) (Z 927 21 59)) (.bin .Sub (.bin .Sub (.int 0 0 (Z 927 61 62)) (.loc 3 (Z 927 65 70)) (Z 927 61 70)) (.int 1 0 (Z 927 73 74)) (Z 927 61 74)) 0 (Z 927 20 75) (Z 927 8 75))] [(.asg (.loc 4 (Z 929 8 12)) (.bin .Add (.loc 4 (Z 929 15 19)) (.lst [(.call (.glob 1 (Z 929 23 30)) [(.str 104 0 (Z 929 31 37)),(.lst [(.call (.glob 2 (Z 929 40 48)) [(.int 0 0 (Z 929 49 50))] (Z 929 40 51)),(.call (.glob 2 (Z 929 53 61)) [(.int 0 0 (Z 929 62 63))] (Z 929 53 64))] (Z 929 39 65))] (Z 929 23 66)),(.call (.glob 1 (Z 929 68 75)) [(.str 236 0 (Z 929 76 82)),(.lst [(.call (.glob 3 (Z 929 85 88)) [(.call (.glob 4 (Z 929 89 92)) [(.int 0 0 (Z 929 93 94)),(.int 8 0 (Z 929 96 97))] (Z 929 89 98))] (Z 929 85 99))] (Z 929 84 100))] (Z 929 68 101))] (Z 929 22 102)) (Z 929 15 102)) (Z 929 8 102)),
  (.asgW 4 5 (Z 930 8 12) (Z 930 14 17) 0 (Z 930 8 17) (.bin .Add (.loc 4 (Z 930 21 25)) (.lst [(.call (.glob 1 (Z 930 29 36)) [(.str 103 0 (Z 930 37 42)),(.lst [(.call (.glob 2 (Z 930 45 53)) [(.int 0 0 (Z 930 54 55))] (Z 930 45 56)),(.call (.glob 5 (Z 930 58 61)) [(.int 1 0 (Z 930 62 63))] (Z 930 58 64))] (Z 930 44 65))] (Z 930 29 66))] (Z 930 28 67)) (Z 930 21 67)) (.call (.glob 6 (Z 930 69 72)) [(.cmp .Eq (.loc 3 (Z 930 73 78)) (.int 0 0 (Z 930 82 83)) (Z 930 73 83))] (Z 930 69 84)) 0 (Z 930 20 85) (Z 930 8 85))] ⟨926,4,930,85⟩)] ⟨924,4,930,85⟩),
  (.ret (.tup [(.call (.glob 7 (Z 931 12 17)) [(.loc 0 (Z 931 18 22)),(.loc 2 (Z 931 24 28))] (Z 931 12 29)),(.loc 5 (Z 931 31 34)),(.bin .Add (.loc 4 (Z 931 36 40)) (.lst [(.call (.glob 1 (Z 931 44 51)) [(.str 198 0 (Z 931 52 58)),(.lst [(.call (.glob 2 (Z 931 61 69)) [(.int 0 0 (Z 931 70 71))] (Z 931 61 72))] (Z 931 60 73))] (Z 931 44 74))] (Z 931 43 75)) (Z 931 36 75))] 0 (Z 931 11 76)) (Z 931 4 76))]
noncomputable def f_53:Fn:=⟨2,[32,57,13,1,150,237],[238,226,227,223,134,228,211,239],[(.fn 57),(.fn 56),(.fn 55),(.cls 11),(.fn 30),(.cls 12),(.prim 3),(.cls 2)],[],false,b_53,[]⟩
noncomputable def b_54:List Sx:= [(.ifs (.cmp .In (.loc 0 (Z 933 7 11)) (.tup [(.str 35 0 (Z 933 16 19)),(.str 36 0 (Z 933 21 24))] 0 (Z 933 15 25)) (Z 933 7 25)) [(.asg (.loc 3 (Z 934 8 16)) (.and [(.call (.glob 0 (Z 934 19 28)) [(.loc 1 (Z 934 29 33))] (Z 934 19 34)),(.call (.glob 0 (Z 934 39 48)) [(.loc 2 (Z 934 49 54))] (Z 934 39 55)),(.cmp .NotEq (.loc 2 (Z 934 61 66)) (.int 0 0 (Z 934 70 71)) (Z 934 61 71)),(.not (.and [(.cmp .Eq (.loc 1 (Z 934 83 87)) (.neg (.bin .Pow (.int 2 0 (Z 934 92 93)) (.int 63 0 (Z 934 97 99)) (Z 934 92 99)) (Z 934 91 99)) (Z 934 83 99)),(.cmp .Eq (.loc 2 (Z 934 104 109)) (.neg (.int 1 0 (Z 934 114 115)) (Z 934 113 115)) (Z 934 104 115))] (Z 934 83 115)) (Z 934 78 116))] (Z 934 19 117)) (Z 934 8 117)),
  (.ret (.ite (.loc 3 (Z 935 23 31)) (.loc 0 (Z 935 15 19)) (.str 42 0 (Z 935 37 40)) (Z 935 15 40)) (Z 935 8 40))] [] ⟨933,4,935,40⟩),
  (.ifs (.cmp .Eq (.loc 0 (Z 936 7 11)) (.str 240 0 (Z 936 15 19)) (Z 936 7 19)) [(.ret (.ite (.and [(.cmp2 .LtE .Lt (.int 0 0 (Z 937 23 24)) (.loc 2 (Z 937 28 33)) (.int 64 0 (Z 937 36 38)) (Z 937 23 38)),(.call (.glob 0 (Z 937 43 52)) [(.loc 1 (Z 937 53 57))] (Z 937 43 58))] (Z 937 23 58)) (.loc 0 (Z 937 15 19)) (.str 39 0 (Z 937 64 67)) (Z 937 15 67)) (Z 937 8 67))] [] ⟨936,4,937,67⟩),
  (.ret (.ite (.and [(.cmp .Eq (.loc 0 (Z 938 18 22)) (.str 31 0 (Z 938 26 30)) (Z 938 18 30)),(.not (.cmp2 .LtE .Lt (.int 0 0 (Z 938 40 41)) (.loc 2 (Z 938 45 50)) (.int 64 0 (Z 938 53 55)) (Z 938 40 55)) (Z 938 36 55))] (Z 938 18 56)) (.str 37 0 (Z 938 11 14)) (.loc 0 (Z 938 62 66)) (Z 938 11 66)) (Z 938 4 66))]
noncomputable def f_54:Fn:=⟨3,[32,12,48,241],[238],[(.fn 57)],[],false,b_54,[]⟩
noncomputable def b_55:List Sx:= [(.ifs (.cmp .In (.loc 0 (Z 940 7 11)) (.tup [(.str 35 0 (Z 940 16 19)),(.str 36 0 (Z 940 21 24))] 0 (Z 940 15 25)) (Z 940 7 25)) [(.asg (.loc 3 (Z 941 8 13)) (.bin .FloorDiv (.call (.glob 0 (Z 941 16 19)) [(.loc 1 (Z 941 20 24))] (Z 941 16 25)) (.call (.glob 0 (Z 941 29 32)) [(.loc 2 (Z 941 33 38))] (Z 941 29 39)) (Z 941 16 39)) (Z 941 8 39)),
  (.ifs (.cmp .NotEq (.cmp .Lt (.loc 1 (Z 942 12 16)) (.int 0 0 (Z 942 19 20)) (Z 942 12 20)) (.cmp .Lt (.loc 2 (Z 942 26 31)) (.int 0 0 (Z 942 34 35)) (Z 942 26 35)) (Z 942 11 36)) [(.asg (.loc 3 (Z 943 12 17)) (.neg (.loc 3 (Z 943 21 26)) (Z 943 20 26)) (Z 943 12 26))] [] ⟨942,8,943,26⟩),
  (.ret (.ite (.cmp .Eq (.loc 0 (Z 944 24 28)) (.str 35 0 (Z 944 32 35)) (Z 944 24 35)) (.loc 3 (Z 944 15 20)) (.bin .Sub (.loc 1 (Z 944 41 45)) (.bin .Mult (.loc 3 (Z 944 48 53)) (.loc 2 (Z 944 56 61)) (Z 944 48 61)) (Z 944 41 61)) (Z 944 15 61)) (Z 944 8 61))] [] ⟨940,4,944,61⟩),
  (.ifs (.cmp .In (.loc 0 (Z 945 7 11)) (.tup [(.str 31 0 (Z 945 16 20)),(.str 240 0 (Z 945 22 26))] 0 (Z 945 15 27)) (Z 945 7 27)) [(.ret (.ite (.cmp .Eq (.loc 0 (Z 946 36 40)) (.str 31 0 (Z 946 44 48)) (Z 946 36 48)) (.bin .Mult (.loc 1 (Z 946 15 19)) (.bin .Pow (.int 2 0 (Z 946 22 23)) (.loc 2 (Z 946 27 32)) (Z 946 22 32)) (Z 946 15 32)) (.bin .FloorDiv (.loc 1 (Z 946 54 58)) (.bin .Pow (.int 2 0 (Z 946 62 63)) (.loc 2 (Z 946 67 72)) (Z 946 62 72)) (Z 946 54 72)) (Z 946 15 72)) (Z 946 8 72))] [] ⟨945,4,946,72⟩),
  (.ifs (.cmp .In (.loc 0 (Z 947 7 11)) (.tup [(.str 34 0 (Z 947 16 19)),(.str 42 0 (Z 947 21 24)),(.str 44 0 (Z 947 26 29))] 0 (Z 947 15 30)) (Z 947 7 30)) [(.ret (.ite (.cmp .Eq (.loc 0 (Z 948 31 35)) (.str 34 0 (Z 948 39 42)) (Z 948 31 42)) (.bin .Mult (.loc 1 (Z 948 15 19)) (.loc 2 (Z 948 22 27)) (Z 948 15 27)) (.ite (.cmp .Eq (.loc 0 (Z 948 64 68)) (.str 42 0 (Z 948 72 75)) (Z 948 64 75)) (.bin .Add (.loc 1 (Z 948 48 52)) (.loc 2 (Z 948 55 60)) (Z 948 48 60)) (.bin .Sub (.loc 1 (Z 948 81 85)) (.loc 2 (Z 948 88 93)) (Z 948 81 93)) (Z 948 48 93)) (Z 948 15 93)) (Z 948 8 93))] [] ⟨947,4,948,93⟩),
  (.asg (.loc 4 (Z 949 4 8)) (.bin .BitAnd (.loc 1 (Z 949 11 15)) (.loc 2 (Z 949 18 23)) (Z 949 11 23)) (Z 949 4 23)),
  (.ret (.ite (.cmp .Eq (.loc 0 (Z 950 19 23)) (.str 38 0 (Z 950 27 30)) (Z 950 19 30)) (.loc 4 (Z 950 11 15)) (.ite (.cmp .Eq (.loc 0 (Z 950 59 63)) (.str 37 0 (Z 950 67 70)) (Z 950 59 70)) (.bin .Sub (.bin .Add (.loc 1 (Z 950 36 40)) (.loc 2 (Z 950 43 48)) (Z 950 36 48)) (.loc 4 (Z 950 51 55)) (Z 950 36 55)) (.bin .Sub (.bin .Add (.loc 1 (Z 950 76 80)) (.loc 2 (Z 950 83 88)) (Z 950 76 88)) (.bin .Mult (.int 2 0 (Z 950 91 92)) (.loc 4 (Z 950 95 99)) (Z 950 91 99)) (Z 950 76 99)) (Z 950 36 99)) (Z 950 11 99)) (Z 950 4 99))]
noncomputable def f_55:Fn:=⟨3,[32,12,48,161,242],[29],[(.prim 2)],[],false,b_55,[]⟩
noncomputable def b_56:List Sx:= [(.ifs (.cmp .In (.loc 0 (Z 952 7 11)) (.tup [(.str 35 0 (Z 952 16 19)),(.str 36 0 (Z 952 21 24))] 0 (Z 952 15 25)) (Z 952 7 25)) [(.asg (.loc 1 (Z 953 8 12)) (.lst [(.call (.glob 0 (Z 953 16 23)) [(.str 243 0 (Z 953 24 29)),(.lst [] (Z 953 31 33))] (Z 953 16 34)),(.call (.glob 0 (Z 953 36 43)) [(.str 183 0 (Z 953 44 50)),(.lst [(.call (.glob 1 (Z 953 53 61)) [(.int 1 0 (Z 953 62 63))] (Z 953 53 64))] (Z 953 52 65))] (Z 953 36 66))] (Z 953 15 67)) (Z 953 8 67)),
  (.ret (.ite (.cmp .Eq (.loc 0 (Z 954 23 27)) (.str 35 0 (Z 954 31 34)) (Z 954 23 34)) (.loc 1 (Z 954 15 19)) (.bin .Add (.loc 1 (Z 954 40 44)) (.lst [(.call (.glob 0 (Z 954 48 55)) [(.str 193 0 (Z 954 56 61)),(.lst [(.call (.glob 1 (Z 954 64 72)) [(.int 0 0 (Z 954 73 74))] (Z 954 64 75)),(.call (.glob 1 (Z 954 77 85)) [(.int 2 0 (Z 954 86 87))] (Z 954 77 88))] (Z 954 63 89))] (Z 954 48 90))] (Z 954 47 91)) (Z 954 40 91)) (Z 954 15 91)) (Z 954 8 91))] [] ⟨952,4,954,91⟩),
  (.ifs (.cmp .In (.loc 0 (Z 955 7 11)) (.tup [(.str 31 0 (Z 955 16 20)),(.str 240 0 (Z 955 22 26))] 0 (Z 955 15 27)) (Z 955 7 27)) [(.ret (.lst [(.call (.glob 0 (Z 956 16 23)) [(.ite (.cmp .Eq (.loc 0 (Z 956 33 37)) (.str 31 0 (Z 956 41 45)) (Z 956 33 45)) (.str 152 0 (Z 956 24 29)) (.str 244 0 (Z 956 51 56)) (Z 956 24 56)),(.lst [(.call (.glob 1 (Z 956 59 67)) [(.int 0 0 (Z 956 68 69))] (Z 956 59 70)),(.call (.glob 2 (Z 956 72 75)) [(.call (.glob 3 (Z 956 76 79)) [(.int 1 0 (Z 956 80 81)),(.int 8 0 (Z 956 83 84))] (Z 956 76 85))] (Z 956 72 86))] (Z 956 58 87))] (Z 956 16 88))] (Z 956 15 89)) (Z 956 8 89))] [] ⟨955,4,956,89⟩),
  (.asg (.loc 2 (Z 957 4 9)) (.dictS true [(34,0,(Z 957 13 16)),(42,0,(Z 957 26 29)),(44,0,(Z 957 38 41)),(37,0,(Z 957 50 53)),(38,0,(Z 957 61 64)),(39,0,(Z 957 73 76))] [(.str 179 0 (Z 957 18 24)),(.str 43 0 (Z 957 31 36)),(.str 101 0 (Z 957 43 48)),(.str 105 0 (Z 957 55 59)),(.str 103 0 (Z 957 66 71)),(.str 245 0 (Z 957 78 83))] (Z 957 12 84)) (Z 957 4 84)),
  (.ret (.lst [(.call (.glob 0 (Z 958 12 19)) [(.sub (.loc 2 (Z 958 20 25)) (.loc 0 (Z 958 26 30)) (Z 958 20 31)),(.lst [(.call (.glob 1 (Z 958 34 42)) [(.int 0 0 (Z 958 43 44))] (Z 958 34 45)),(.call (.glob 1 (Z 958 47 55)) [(.int 1 0 (Z 958 56 57))] (Z 958 47 58))] (Z 958 33 59))] (Z 958 12 60))] (Z 958 11 61)) (Z 958 4 61))]
noncomputable def f_56:Fn:=⟨1,[32,150,136],[226,227,223,134],[(.fn 56),(.fn 55),(.cls 11),(.fn 30)],[],true,b_56,[]⟩
noncomputable def b_57:List Sx:= [(.asg (.loc 0 (Z 960 4 8)) (.call (.glob 0 (Z 960 11 20)) [(.loc 0 (Z 960 21 25)),(.sub (.loc 1 (Z 960 27 31)) (.int 1 0 (Z 960 32 33)) (Z 960 27 34)),(.sub (.loc 2 (Z 960 36 41)) (.int 1 0 (Z 960 42 43)) (Z 960 36 44))] (Z 960 11 45)) (Z 960 4 45)),
  (.asg (.loc 3 (Z 961 4 8)) (.bin .Add (.bin .Add (.sub (.loc 1 (Z 961 11 15)) (.int 2 0 (Z 961 16 17)) (Z 961 11 18)) (.sub (.loc 2 (Z 961 21 26)) (.int 2 0 (Z 961 27 28)) (Z 961 21 29)) (Z 961 11 29)) (.lst [(.call (.glob 1 (Z 961 33 40)) [(.str 199 0 (Z 961 41 46)),(.lst [(.call (.glob 2 (Z 961 49 57)) [(.int 1 0 (Z 961 58 59))] (Z 961 49 60))] (Z 961 48 61))] (Z 961 33 62)),(.call (.glob 1 (Z 961 64 71)) [(.str 199 0 (Z 961 72 77)),(.lst [(.call (.glob 2 (Z 961 80 88)) [(.int 0 0 (Z 961 89 90))] (Z 961 80 91))] (Z 961 79 92))] (Z 961 64 93))] (Z 961 32 94)) (Z 961 11 94)) (Z 961 4 94)),
  (.asg (.loc 3 (Z 962 4 8)) (.bin .Add (.bin .Add (.loc 3 (Z 962 11 15)) (.call (.glob 3 (Z 962 18 27)) [(.loc 0 (Z 962 28 32))] (Z 962 18 33)) (Z 962 11 33)) (.lst [(.call (.glob 1 (Z 962 37 44)) [(.str 198 0 (Z 962 45 51)),(.lst [(.call (.glob 2 (Z 962 54 62)) [(.int 0 0 (Z 962 63 64))] (Z 962 54 65))] (Z 962 53 66))] (Z 962 37 67))] (Z 962 36 68)) (Z 962 11 68)) (Z 962 4 68)),
  (.ret (.tup [(.call (.glob 4 (Z 963 12 18)) [(.loc 0 (Z 963 19 23)),(.sub (.loc 1 (Z 963 25 29)) (.int 0 0 (Z 963 30 31)) (Z 963 25 32)),(.sub (.loc 2 (Z 963 34 39)) (.int 0 0 (Z 963 40 41)) (Z 963 34 42))] (Z 963 12 43)),(.call (.glob 5 (Z 963 45 53)) [(.loc 0 (Z 963 54 58)),(.sub (.loc 1 (Z 963 60 64)) (.int 1 0 (Z 963 65 66)) (Z 963 60 67)),(.sub (.loc 2 (Z 963 69 74)) (.int 1 0 (Z 963 75 76)) (Z 963 69 77))] (Z 963 45 78)),(.loc 3 (Z 963 80 84))] 0 (Z 963 11 85)) (Z 963 4 85))]
noncomputable def f_57:Fn:=⟨3,[32,12,48,150],[246,226,227,247,248,249],[(.fn 61),(.fn 56),(.fn 55),(.fn 63),(.cls 3),(.fn 62)],[],false,b_57,[]⟩
noncomputable def b_58:List Sx:= [(.asg (.loc 3 (Z 965 4 7)) (.ite (.cmp .Gt (.loc 2 (Z 965 31 36)) (.int 0 0 (Z 965 39 40)) (Z 965 31 40)) (.call (.glob 0 (Z 965 10 19)) [(.loc 0 (Z 965 20 23)),(.int 4 0 (Z 965 25 26))] (Z 965 10 27)) (.int 0 0 (Z 965 46 47)) (Z 965 10 47)) (Z 965 4 47)),
  (.ifs (.cmp .Eq (.loc 3 (Z 966 7 10)) (.int 0 0 (Z 966 14 15)) (Z 966 7 15)) [(.ret (.call (.glob 1 (Z 967 15 24)) [(.loc 0 (Z 967 25 28)),(.loc 1 (Z 967 30 35))] (Z 967 15 36)) (Z 967 8 36))] [] ⟨966,4,967,36⟩),
  (.ifs (.cmp .Eq (.loc 3 (Z 968 7 10)) (.int 1 0 (Z 968 14 15)) (Z 968 7 15)) [(.asg (.loc 4 (Z 969 8 12)) (.call (.glob 2 (Z 969 15 24)) [(.loc 0 (Z 969 25 28)),(.lst [(.str 44 0 (Z 969 31 34)),(.str 51 0 (Z 969 36 39)),(.str 234 0 (Z 969 41 44))] (Z 969 30 45))] (Z 969 15 46)) (Z 969 8 46)),
  (.ret (.call (.glob 3 (Z 970 15 25)) [(.loc 4 (Z 970 26 30)),(.call (.glob 4 (Z 970 32 41)) [(.loc 0 (Z 970 42 45)),(.loc 1 (Z 970 47 52)),(.bin .Sub (.loc 2 (Z 970 54 59)) (.int 1 0 (Z 970 62 63)) (Z 970 54 63))] (Z 970 32 64))] (Z 970 15 65)) (Z 970 8 65))] [] ⟨968,4,970,65⟩),
  (.asg (.loc 4 (Z 971 4 8)) (.call (.glob 2 (Z 971 11 20)) [(.loc 0 (Z 971 21 24)),(.lst [(.str 34 0 (Z 971 27 30)),(.str 35 0 (Z 971 32 35)),(.str 36 0 (Z 971 37 40)),(.str 31 0 (Z 971 42 46)),(.str 240 0 (Z 971 48 52)),(.str 37 0 (Z 971 54 57)),(.str 38 0 (Z 971 59 62)),(.str 39 0 (Z 971 64 67)),(.str 42 0 (Z 971 69 72)),(.str 44 0 (Z 971 74 77))] (Z 971 26 78))] (Z 971 11 79)) (Z 971 4 79)),
  (.asg (.loc 5 (Z 972 4 9)) (.call (.glob 4 (Z 972 12 21)) [(.loc 0 (Z 972 22 25)),(.loc 1 (Z 972 27 32)),(.bin .Sub (.loc 2 (Z 972 34 39)) (.int 1 0 (Z 972 42 43)) (Z 972 34 43))] (Z 972 12 44)) (Z 972 4 44)),
  (.ifs (.cmp .In (.loc 4 (Z 973 7 11)) (.tup [(.str 31 0 (Z 973 16 20)),(.str 240 0 (Z 973 22 26))] 0 (Z 973 15 27)) (Z 973 7 27)) [(.ret (.call (.glob 5 (Z 974 15 27)) [(.loc 4 (Z 974 28 32)),(.loc 5 (Z 974 34 39)),(.call (.glob 6 (Z 974 41 52)) [(.call (.glob 0 (Z 974 53 62)) [(.loc 0 (Z 974 63 66)),(.int 64 0 (Z 974 68 70))] (Z 974 53 71))] (Z 974 41 72))] (Z 974 15 73)) (Z 974 8 73))] [] ⟨973,4,974,73⟩),
  (.ret (.call (.glob 5 (Z 975 11 23)) [(.loc 4 (Z 975 24 28)),(.loc 5 (Z 975 30 35)),(.call (.glob 4 (Z 975 37 46)) [(.loc 0 (Z 975 47 50)),(.loc 1 (Z 975 52 57)),(.bin .Sub (.loc 2 (Z 975 59 64)) (.int 1 0 (Z 975 67 68)) (Z 975 59 68))] (Z 975 37 69))] (Z 975 11 70)) (Z 975 4 70))]
noncomputable def f_58:Fn:=⟨3,[213,230,250,222,32,251],[221,252,253,254,255,256,231],[(.fn 52),(.fn 59),(.fn 53),(.fn 60),(.fn 65),(.fn 64),(.fn 58)],[],false,b_58,[]⟩
noncomputable def b_59:List Sx:= [(.asg (.loc 2 (Z 977 4 9)) (.call (.glob 0 (Z 977 12 17)) [(.none 0 (Z 977 18 22))] (Z 977 12 23)) (Z 977 4 23)),
  (.for 3 (Z 978 8 14) (.call (.glob 1 (Z 978 18 23)) [(.int 16 0 (Z 978 24 26))] (Z 978 18 27)) [(.asg (.sub (.attr (.loc 2 (Z 979 8 13)) 205 (Z 979 8 18)) (.loc 3 (Z 979 19 25)) (Z 979 8 26)) (.bin .Add (.bin .Mult (.int 1000003 0 (Z 979 29 36)) (.loc 3 (Z 979 39 45)) (Z 979 29 45)) (.int 17 0 (Z 979 48 50)) (Z 979 29 50)) (Z 979 8 50))] ⟨978,4,979,50⟩),
  (.asgT [(.sub (.attr (.loc 2 (Z 980 4 9)) 205 (Z 980 4 14)) (.int 3 0 (Z 980 15 16)) (Z 980 4 17)),(.sub (.attr (.loc 2 (Z 980 19 24)) 205 (Z 980 19 29)) (.int 4 0 (Z 980 30 31)) (Z 980 19 32))] 0 (Z 980 4 32) (.tup [(.loc 1 (Z 980 36 40)),(.int 32768 0 (Z 980 42 47))] 0 (Z 980 35 48)) (Z 980 4 48)),
  (.for 4 (Z 981 8 12) (.call (.glob 1 (Z 981 16 21)) [(.int 3 0 (Z 981 22 23))] (Z 981 16 24)) [(.ex (.meth (.attr (.loc 2 (Z 982 8 13)) 257 (Z 982 8 20)) 111 [(.bin .Add (.loc 1 (Z 982 27 31)) (.bin .Mult (.int 8 0 (Z 982 34 35)) (.loc 4 (Z 982 38 42)) (Z 982 34 42)) (Z 982 27 42)),(.int 8 0 (Z 982 44 45)),(.bin .Mod (.call (.glob 2 (Z 982 47 50)) [(.sub (.loc 0 (Z 982 51 56)) (.loc 4 (Z 982 57 61)) (Z 982 51 62))] (Z 982 47 63)) (.bin .Pow (.int 2 0 (Z 982 66 67)) (.int 64 0 (Z 982 71 73)) (Z 982 66 73)) (Z 982 47 73))] (Z 982 8 26) (Z 982 8 74)) (Z 982 8 74))] ⟨981,4,982,74⟩),
  (.ret (.loc 2 (Z 983 11 16)) (Z 983 4 16))]
noncomputable def f_59:Fn:=⟨2,[230,258,112,53,216],[259,260,211],[(.cls 9),(.prim 1),(.prim 3)],[],false,b_59,[]⟩
noncomputable def b_60:List Sx:= [(.ifs (.cmp .In (.attr (.loc 1 (Z 985 7 10)) 16 (Z 985 7 15)) (.tup [(.str 43 0 (Z 985 20 25)),(.str 101 0 (Z 985 27 32)),(.str 103 0 (Z 985 34 39)),(.str 105 0 (Z 985 41 45)),(.str 245 0 (Z 985 47 52)),(.str 104 0 (Z 985 54 60))] 0 (Z 985 19 61)) (Z 985 7 61)) [(.ex (.call (.glob 0 (Z 986 8 16)) [(.loc 0 (Z 986 17 22)),(.loc 1 (Z 986 24 27))] (Z 986 8 28)) (Z 986 8 28))] [(.ifs (.cmp .In (.attr (.loc 1 (Z 987 9 12)) 16 (Z 987 9 17)) (.tup [(.str 119 0 (Z 987 22 27)),(.str 235 0 (Z 987 29 34))] 0 (Z 987 21 35)) (Z 987 9 35)) [(.ex (.call (.glob 1 (Z 988 8 16)) [(.loc 0 (Z 988 17 22)),(.loc 1 (Z 988 24 27))] (Z 988 8 28)) (Z 988 8 28))] [(.ifs (.cmp .In (.attr (.loc 1 (Z 989 9 12)) 16 (Z 989 9 17)) (.tup [(.str 152 0 (Z 989 22 27)),(.str 244 0 (Z 989 29 34))] 0 (Z 989 21 35)) (Z 989 9 35)) [(.ex (.call (.glob 2 (Z 990 8 18)) [(.loc 0 (Z 990 19 24)),(.loc 1 (Z 990 26 29))] (Z 990 8 30)) (Z 990 8 30))] [(.ifs (.cmp .Eq (.attr (.loc 1 (Z 991 9 12)) 16 (Z 991 9 17)) (.str 179 0 (Z 991 21 27)) (Z 991 9 27)) [(.ex (.call (.glob 3 (Z 992 8 20)) [(.loc 0 (Z 992 21 26)),(.loc 1 (Z 992 28 31))] (Z 992 8 32)) (Z 992 8 32))] [(.ifs (.cmp .Eq (.attr (.loc 1 (Z 993 9 12)) 16 (Z 993 9 17)) (.str 183 0 (Z 993 21 27)) (Z 993 9 27)) [(.ex (.call (.glob 4 (Z 994 8 21)) [(.loc 0 (Z 994 22 27)),(.loc 1 (Z 994 29 32))] (Z 994 8 33)) (Z 994 8 33))] [(.ifs (.cmp .Eq (.attr (.loc 1 (Z 995 9 12)) 16 (Z 995 9 17)) (.str 243 0 (Z 995 21 26)) (Z 995 9 26)) [(.ex (.call (.glob 5 (Z 996 8 23)) [(.loc 0 (Z 996 24 29)),(.attr (.loc 1 (Z 996 31 34)) 16 (Z 996 31 39))] (Z 996 8 40)) (Z 996 8 40))] [(.ex (.call (.glob 6 (Z 998 8 16)) [(.loc 0 (Z 998 17 22)),(.loc 1 (Z 998 24 27))] (Z 998 8 28)) (Z 998 8 28))] ⟨995,4,998,28⟩)] ⟨993,4,998,28⟩)] ⟨991,4,998,28⟩)] ⟨989,4,998,28⟩)] ⟨987,4,998,28⟩)] ⟨985,4,998,28⟩),
  (.ret (.bool true 0 (Z 999 11 15)) (Z 999 4 15))]
noncomputable def f_60:Fn:=⟨2,[112,261],[262,263,264,265,266,267,268],[(.fn 26),(.fn 27),(.fn 40),(.fn 44),(.fn 45),(.fn 46),(.fn 28)],[],false,b_60,[]⟩
noncomputable def b_61:List Sx:= [(.asg (.attr (.loc 0 (Z 59 8 12)) 10 (Z 59 8 17)) (.str 53 0 (Z 59 20 28)) (Z 59 8 28)),
  (.asg (.attr (.loc 0 (Z 60 8 12)) 1 (Z 60 8 18)) (.loc 1 (Z 60 21 26)) (Z 60 8 26))]
noncomputable def f_61:Fn:=⟨2,[269,1],[],[],[],false,b_61,[]⟩
noncomputable def b_62:List Sx:= [(.asg (.attr (.loc 0 (Z 67 8 12)) 10 (Z 67 8 17)) (.str 54 0 (Z 67 20 28)) (Z 67 8 28)),
  (.asg (.attr (.loc 0 (Z 68 8 12)) 16 (Z 68 8 17)) (.loc 1 (Z 68 20 24)) (Z 68 8 24))]
noncomputable def f_62:Fn:=⟨2,[269,16],[],[],[],false,b_62,[]⟩
noncomputable def b_63:List Sx:= [(.asg (.attr (.loc 0 (Z 75 8 12)) 10 (Z 75 8 17)) (.str 56 0 (Z 75 20 27)) (Z 75 8 27)),
  (.asg (.attr (.loc 0 (Z 76 8 12)) 32 (Z 76 8 17)) (.loc 1 (Z 76 20 24)) (Z 76 8 24)),
  (.asg (.attr (.loc 0 (Z 77 8 12)) 57 (Z 77 8 17)) (.loc 2 (Z 77 20 24)) (Z 77 8 24))]
noncomputable def f_63:Fn:=⟨3,[269,32,57],[],[],[],false,b_63,[]⟩
noncomputable def b_64:List Sx:= [(.asg (.attr (.loc 0 (Z 84 8 12)) 10 (Z 84 8 17)) (.str 11 0 (Z 84 20 28)) (Z 84 8 28)),
  (.asg (.attr (.loc 0 (Z 85 8 12)) 32 (Z 85 8 17)) (.loc 1 (Z 85 20 24)) (Z 85 8 24)),
  (.asg (.attr (.loc 0 (Z 86 8 12)) 12 (Z 86 8 17)) (.loc 2 (Z 86 20 24)) (Z 86 8 24)),
  (.asg (.attr (.loc 0 (Z 87 8 12)) 48 (Z 87 8 18)) (.loc 3 (Z 87 21 26)) (Z 87 8 26))]
noncomputable def f_64:Fn:=⟨4,[269,32,12,48],[],[],[],false,b_64,[]⟩
noncomputable def b_65:List Sx:= [(.asg (.attr (.loc 0 (Z 106 8 12)) 1 (Z 106 8 18)) (.loc 1 (Z 106 21 26)) (Z 106 8 26)),
  (.asg (.attr (.loc 0 (Z 107 8 12)) 270 (Z 107 8 17)) (.ite (.cmp .NotEq (.loc 2 (Z 107 28 32)) (.loc 3 (Z 107 36 41)) (Z 107 28 41)) (.loc 2 (Z 107 20 24)) (.str 17 0 (Z 107 47 49)) (Z 107 20 49)) (Z 107 8 49)),
  (.asg (.attr (.loc 0 (Z 108 8 12)) 271 (Z 108 8 18)) (.ite (.cmp .NotEq (.loc 2 (Z 108 30 34)) (.loc 3 (Z 108 38 43)) (Z 108 30 43)) (.loc 3 (Z 108 21 26)) (.str 17 0 (Z 108 49 51)) (Z 108 21 51)) (Z 108 8 51))]
noncomputable def f_65:Fn:=⟨4,[269,1,270,271],[],[],[(.str 17),(.str 17)],false,b_65,[]⟩
noncomputable def b_66:List Sx:= [(.ret (.tup [(.attr (.loc 0 (Z 111 16 20)) 1 (Z 111 16 26)),(.attr (.loc 0 (Z 111 28 32)) 270 (Z 111 28 37)),(.attr (.loc 0 (Z 111 39 43)) 271 (Z 111 39 49))] 0 (Z 111 15 50)) (Z 111 8 50))]
noncomputable def f_66:Fn:=⟨1,[269],[],[],[],false,b_66,[]⟩
noncomputable def b_67:List Sx:= [(.ret (.and [(.cmp .Eq (.attr (.loc 0 (Z 114 15 19)) 270 (Z 114 15 24)) (.str 17 0 (Z 114 28 30)) (Z 114 15 30)),(.cmp .Eq (.attr (.loc 0 (Z 114 35 39)) 271 (Z 114 35 45)) (.str 17 0 (Z 114 49 51)) (Z 114 35 51))] (Z 114 15 51)) (Z 114 8 51))]
noncomputable def f_67:Fn:=⟨1,[269],[],[],[],false,b_67,[]⟩
noncomputable def b_68:List Sx:= [(.ret (.call (.glob 0 (Z 120 15 21)) [(.neg (.attr (.loc 0 (Z 120 23 27)) 1 (Z 120 23 33)) (Z 120 22 33)),(.attr (.loc 0 (Z 120 35 39)) 271 (Z 120 35 45)),(.attr (.loc 0 (Z 120 47 51)) 270 (Z 120 47 56))] (Z 120 15 57)) (Z 120 8 57))]
noncomputable def f_68:Fn:=⟨1,[269],[25],[(.cls 4)],[],false,b_68,[]⟩
noncomputable def b_69:List Sx:= [(.ret (.call (.glob 0 (Z 123 15 24)) [(.bin .Add (.attr (.loc 0 (Z 123 25 29)) 1 (Z 123 25 35)) (.attr (.loc 1 (Z 123 38 43)) 1 (Z 123 38 49)) (Z 123 25 49)),(.lst [(.attr (.loc 0 (Z 123 52 56)) 270 (Z 123 52 61)),(.attr (.loc 1 (Z 123 63 68)) 270 (Z 123 63 73))] (Z 123 51 74)),(.lst [(.attr (.loc 0 (Z 123 77 81)) 271 (Z 123 77 87)),(.attr (.loc 1 (Z 123 89 94)) 271 (Z 123 89 100))] (Z 123 76 101))] (Z 123 15 102)) (Z 123 8 102))]
noncomputable def f_69:Fn:=⟨2,[269,28],[272],[(.fn 8)],[],false,b_69,[]⟩
noncomputable def b_70:List Sx:= [(.asg (.attr (.loc 0 (Z 141 8 12)) 273 (Z 141 8 20)) (.ite (.cmp .Is (.loc 1 (Z 141 29 36)) (.none 0 (Z 141 40 44)) (Z 141 29 44)) (.dictS false [] [] (Z 141 23 25)) (.loc 1 (Z 141 50 57)) (Z 141 23 57)) (Z 141 8 57))]
noncomputable def f_70:Fn:=⟨2,[269,273],[],[],[.none],false,b_70,[]⟩
noncomputable def b_71:List Sx:= [(.asg (.sub (.attr (.loc 0 (Z 144 8 12)) 273 (Z 144 8 20)) (.loc 1 (Z 144 21 25)) (Z 144 8 26)) (.loc 2 (Z 144 29 35)) (Z 144 8 35))]
noncomputable def f_71:Fn:=⟨3,[269,16,52],[],[],[],false,b_71,[]⟩
noncomputable def b_72:List Sx:= [(.ret (.meth (.loc 0 (Z 147 15 19)) 274 [(.call (.glob 0 (Z 147 28 34)) [(.int 0 0 (Z 147 35 36)),(.loc 1 (Z 147 38 42))] (Z 147 28 43))] (Z 147 15 27) (Z 147 15 44)) (Z 147 8 44))]
noncomputable def f_72:Fn:=⟨2,[269,16],[25],[(.cls 4)],[],false,b_72,[]⟩
noncomputable def b_73:List Sx:= [(.asg (.loc 2 (Z 150 8 12)) (.bin .Mult (.call (.glob 0 (Z 150 15 18)) [(.attr (.loc 0 (Z 150 19 23)) 273 (Z 150 19 31))] (Z 150 15 32)) (.bin .Add (.call (.glob 0 (Z 150 36 39)) [(.attr (.loc 0 (Z 150 40 44)) 273 (Z 150 40 52))] (Z 150 36 53)) (.int 2 0 (Z 150 56 57)) (Z 150 36 57)) (Z 150 15 58)) (Z 150 8 58)),
  (.asg (.loc 3 (Z 151 8 13)) (.loc 1 (Z 151 16 22)) (Z 151 8 22)),
  (.whl (.or [(.cmp .In (.attr (.loc 3 (Z 152 14 19)) 270 (Z 152 14 24)) (.attr (.loc 0 (Z 152 28 32)) 273 (Z 152 28 40)) (Z 152 14 40)),(.cmp .In (.attr (.loc 3 (Z 152 44 49)) 271 (Z 152 44 55)) (.attr (.loc 0 (Z 152 59 63)) 273 (Z 152 59 71)) (Z 152 44 71))] (Z 152 14 71)) [(.ifs (.cmp .Eq (.loc 2 (Z 153 15 19)) (.int 0 0 (Z 153 23 24)) (Z 153 15 24)) [(.raise (.call (.glob 1 (Z 154 22 33)) [(.str 275 0 (Z 154 34 69))] (Z 154 22 70)) (Z 154 16 70))] [] ⟨153,12,154,70⟩),
  (.asg (.loc 2 (Z 155 12 16)) (.bin .Sub (.loc 2 (Z 155 19 23)) (.int 1 0 (Z 155 26 27)) (Z 155 19 27)) (Z 155 12 27)),
  (.ifs (.cmp .In (.attr (.loc 3 (Z 156 15 20)) 270 (Z 156 15 25)) (.attr (.loc 0 (Z 156 29 33)) 273 (Z 156 29 41)) (Z 156 15 41)) [(.asg (.loc 3 (Z 157 16 21)) (.meth (.call (.glob 2 (Z 157 24 30)) [(.attr (.loc 3 (Z 157 31 36)) 1 (Z 157 31 42)),(.str 17 0 (Z 157 44 46)),(.attr (.loc 3 (Z 157 48 53)) 271 (Z 157 48 59))] (Z 157 24 60)) 43 [(.sub (.attr (.loc 0 (Z 157 65 69)) 273 (Z 157 65 77)) (.attr (.loc 3 (Z 157 78 83)) 270 (Z 157 78 88)) (Z 157 65 89))] (Z 157 24 64) (Z 157 24 90)) (Z 157 16 90))] [(.asg (.loc 3 (Z 159 16 21)) (.meth (.call (.glob 2 (Z 159 24 30)) [(.attr (.loc 3 (Z 159 31 36)) 1 (Z 159 31 42)),(.attr (.loc 3 (Z 159 44 49)) 270 (Z 159 44 54))] (Z 159 24 55)) 43 [(.meth (.sub (.attr (.loc 0 (Z 159 60 64)) 273 (Z 159 60 72)) (.attr (.loc 3 (Z 159 73 78)) 271 (Z 159 73 84)) (Z 159 60 85)) 45 [] (Z 159 60 92) (Z 159 60 94))] (Z 159 24 59) (Z 159 24 95)) (Z 159 16 95))] ⟨156,12,159,95⟩)] ⟨152,8,159,95⟩),
  (.ret (.loc 3 (Z 160 15 20)) (Z 160 8 20))]
noncomputable def f_73:Fn:=⟨2,[269,52,12,161],[23,24,25],[(.prim 0),(.cls 1071),(.cls 4)],[],false,b_73,[]⟩
noncomputable def b_74:List Sx:= [(.asg (.attr (.loc 0 (Z 237 8 12)) 73 (Z 237 8 15)) (.int 0 0 (Z 237 18 19)) (Z 237 8 19)),
  (.asg (.attr (.loc 0 (Z 238 8 12)) 76 (Z 238 8 15)) (.int 0 0 (Z 238 18 19)) (Z 238 8 19)),
  (.asg (.attr (.loc 0 (Z 239 8 12)) 86 (Z 239 8 15)) (.int 0 0 (Z 239 18 19)) (Z 239 8 19)),
  (.asg (.attr (.loc 0 (Z 240 8 12)) 74 (Z 240 8 15)) (.int 0 0 (Z 240 18 19)) (Z 240 8 19)),
  (.asg (.attr (.loc 0 (Z 241 8 12)) 75 (Z 241 8 15)) (.int 0 0 (Z 241 18 19)) (Z 241 8 19)),
  (.asg (.attr (.loc 0 (Z 242 8 12)) 72 (Z 242 8 15)) (.int 0 0 (Z 242 18 19)) (Z 242 8 19)),
  (.asg (.attr (.loc 0 (Z 243 8 12)) 276 (Z 243 8 15)) (.int 0 0 (Z 243 18 19)) (Z 243 8 19))]
noncomputable def f_74:Fn:=⟨1,[269],[],[],[],false,b_74,[]⟩
noncomputable def b_75:List Sx:= [(.asg (.attr (.loc 0 (Z 400 8 12)) 16 (Z 400 8 17)) (.loc 1 (Z 400 20 24)) (Z 400 8 24)),
  (.asg (.attr (.loc 0 (Z 401 8 12)) 10 (Z 401 8 17)) (.loc 2 (Z 401 20 24)) (Z 401 8 24)),
  (.asg (.attr (.loc 0 (Z 402 8 12)) 53 (Z 402 8 19)) (.loc 3 (Z 402 22 28)) (Z 402 8 28)),
  (.asg (.attr (.loc 0 (Z 403 8 12)) 0 (Z 403 8 17)) (.loc 4 (Z 403 20 24)) (Z 403 8 24))]
noncomputable def f_75:Fn:=⟨5,[269,16,10,53,0],[],[],[],false,b_75,[]⟩
noncomputable def b_76:List Sx:= [(.asg (.attr (.loc 0 (Z 450 8 12)) 277 (Z 450 8 17)) (.dictI false (Z 450 20 22)) (Z 450 8 22))]
noncomputable def f_76:Fn:=⟨1,[269],[],[],[],false,b_76,[]⟩
noncomputable def b_77:List Sx:= [(.ret (.bm .get (.attr (.loc 0 (Z 453 15 19)) 277 (Z 453 15 24)) [(.call (.glob 0 (Z 453 29 33)) [(.loc 1 (Z 453 34 39)),(.int 64 0 (Z 453 41 43))] (Z 453 29 44)),(.int 0 0 (Z 453 46 47))] (Z 453 15 28) (Z 453 15 48)) (Z 453 8 48))]
noncomputable def f_77:Fn:=⟨2,[269,278],[4],[(.fn 1)],[],false,b_77,[]⟩
noncomputable def b_78:List Sx:= [(.asg (.sub (.attr (.loc 0 (Z 456 8 12)) 277 (Z 456 8 17)) (.call (.glob 0 (Z 456 18 22)) [(.loc 1 (Z 456 23 28)),(.int 64 0 (Z 456 30 32))] (Z 456 18 33)) (Z 456 8 34)) (.loc 2 (Z 456 37 42)) (Z 456 8 42))]
noncomputable def f_78:Fn:=⟨3,[269,278,279],[4],[(.fn 1)],[],false,b_78,[]⟩
noncomputable def b_79:List Sx:= [(.asg (.loc 3 (Z 459 8 13)) (.int 0 0 (Z 459 16 17)) (Z 459 8 17)),
  (.for 4 (Z 460 12 14) (.call (.glob 0 (Z 460 18 23)) [(.loc 2 (Z 460 24 29))] (Z 460 18 30)) [(.asg (.loc 3 (Z 461 12 17)) (.bin .Add (.loc 3 (Z 461 20 25)) (.bin .LShift (.meth (.loc 0 (Z 461 29 33)) 279 [(.bin .Add (.loc 1 (Z 461 40 45)) (.loc 4 (Z 461 48 50)) (Z 461 40 50))] (Z 461 29 39) (Z 461 29 51)) (.bin .Mult (.int 8 0 (Z 461 55 56)) (.loc 4 (Z 461 59 61)) (Z 461 55 61)) (Z 461 29 61)) (Z 461 20 62)) (Z 461 12 62))] ⟨460,8,461,62⟩),
  (.ret (.loc 3 (Z 462 15 20)) (Z 462 8 20))]
noncomputable def f_79:Fn:=⟨3,[269,278,280,1,281],[260],[(.prim 1)],[],false,b_79,[]⟩
noncomputable def b_80:List Sx:= [(.for 4 (Z 465 12 14) (.call (.glob 0 (Z 465 18 23)) [(.loc 2 (Z 465 24 29))] (Z 465 18 30)) [(.ex (.meth (.loc 0 (Z 466 12 16)) 282 [(.bin .Add (.loc 1 (Z 466 27 32)) (.loc 4 (Z 466 35 37)) (Z 466 27 37)),(.bin .BitAnd (.bin .RShift (.loc 3 (Z 466 39 44)) (.bin .Mult (.int 8 0 (Z 466 48 49)) (.loc 4 (Z 466 52 54)) (Z 466 48 54)) (Z 466 39 54)) (.int 255 0 (Z 466 57 60)) (Z 466 39 60))] (Z 466 12 26) (Z 466 12 61)) (Z 466 12 61))] ⟨465,8,466,61⟩)]
noncomputable def f_80:Fn:=⟨4,[269,278,280,1,281],[260],[(.prim 1)],[],false,b_80,[]⟩
noncomputable def b_81:List Sx:= [(.asg (.attr (.loc 0 (Z 498 8 12)) 283 (Z 498 8 17)) (.loc 1 (Z 498 20 24)) (Z 498 8 24)),
  (.asg (.attr (.loc 0 (Z 499 8 12)) 205 (Z 499 8 17)) (.mulM false (.lst [(.int 0 0 (Z 499 21 22))] (Z 499 20 23)) (.int 16 0 (Z 499 26 28)) (Z 499 20 28)) (Z 499 8 28)),
  (.asg (.attr (.loc 0 (Z 500 8 12)) 284 (Z 500 8 16)) (.mulM false (.lst [(.int 0 0 (Z 500 20 21))] (Z 500 19 22)) (.int 16 0 (Z 500 25 27)) (Z 500 19 27)) (Z 500 8 27)),
  (.asg (.attr (.loc 0 (Z 501 8 12)) 77 (Z 501 8 18)) (.call (.glob 0 (Z 501 21 26)) [] (Z 501 21 28)) (Z 501 8 28)),
  (.asg (.attr (.loc 0 (Z 502 8 12)) 257 (Z 502 8 19)) (.call (.glob 1 (Z 502 22 28)) [] (Z 502 22 30)) (Z 502 8 30)),
  (.asg (.attr (.loc 0 (Z 503 8 12)) 285 (Z 503 8 16)) (.int 0 0 (Z 503 19 20)) (Z 503 8 20)),
  (.asg (.attr (.loc 0 (Z 504 8 12)) 286 (Z 504 8 18)) (.int 0 0 (Z 504 21 22)) (Z 504 8 22)),
  (.asg (.attr (.loc 0 (Z 505 8 12)) 287 (Z 505 8 21)) (.dictS false [(288,0,(Z 505 25 29)),(289,0,(Z 505 34 38))] [(.int 0 0 (Z 505 31 32)),(.int 0 0 (Z 505 40 41))] (Z 505 24 42)) (Z 505 8 42)),
  (.asg (.attr (.loc 0 (Z 506 8 12)) 144 (Z 506 8 22)) (.bool false 0 (Z 506 25 30)) (Z 506 8 30))]
noncomputable def f_81:Fn:=⟨2,[269,283],[290,291],[(.cls 6),(.cls 8)],[],false,b_81,[]⟩
noncomputable def b_82:List Sx:= [(.ifs (.cmp .Eq (.attr (.loc 1 (Z 509 11 19)) 10 (Z 509 11 24)) (.str 134 0 (Z 509 28 33)) (Z 509 11 33)) [(.ret (.call (.glob 0 (Z 510 19 23)) [(.sub (.attr (.loc 0 (Z 510 24 28)) 205 (Z 510 24 33)) (.attr (.loc 1 (Z 510 34 42)) 53 (Z 510 34 49)) (Z 510 24 50)),(.attr (.loc 1 (Z 510 52 60)) 0 (Z 510 52 65))] (Z 510 19 66)) (Z 510 12 66))] [] ⟨509,8,510,66⟩),
  (.ifs (.cmp .Eq (.attr (.loc 1 (Z 511 11 19)) 10 (Z 511 11 24)) (.str 178 0 (Z 511 28 34)) (Z 511 11 34)) [(.ret (.call (.glob 0 (Z 512 19 23)) [(.bin .RShift (.sub (.attr (.loc 0 (Z 512 24 28)) 205 (Z 512 24 33)) (.bin .Sub (.attr (.loc 1 (Z 512 34 42)) 53 (Z 512 34 49)) (.int 4 0 (Z 512 52 53)) (Z 512 34 53)) (Z 512 24 54)) (.int 8 0 (Z 512 58 59)) (Z 512 24 59)),(.int 8 0 (Z 512 61 62))] (Z 512 19 63)) (Z 512 12 63))] [] ⟨511,8,512,63⟩),
  (.ifs (.cmp .Eq (.attr (.loc 1 (Z 513 11 19)) 10 (Z 513 11 24)) (.str 284 0 (Z 513 28 33)) (Z 513 11 33)) [(.ret (.sub (.attr (.loc 0 (Z 514 19 23)) 284 (Z 514 19 27)) (.attr (.loc 1 (Z 514 28 36)) 53 (Z 514 28 43)) (Z 514 19 44)) (Z 514 12 44))] [] ⟨513,8,514,44⟩),
  (.ifs (.cmp .Eq (.attr (.loc 1 (Z 515 11 19)) 10 (Z 515 11 24)) (.str 285 0 (Z 515 28 33)) (Z 515 11 33)) [(.ret (.attr (.loc 0 (Z 516 19 23)) 285 (Z 516 19 27)) (Z 516 12 27))] [] ⟨515,8,516,27⟩),
  (.raise (.call (.glob 1 (Z 517 14 26)) [(.str 164 0 (Z 517 27 37))] (Z 517 14 38)) (Z 517 8 38))]
noncomputable def f_82:Fn:=⟨2,[269,164],[4,71],[(.fn 1),(.cls 1083)],[],false,b_82,[]⟩
noncomputable def b_83:List Sx:= [(.asg (.loc 2 (Z 520 8 13)) (.call (.glob 0 (Z 520 16 20)) [(.loc 2 (Z 520 21 26)),(.attr (.loc 1 (Z 520 28 36)) 0 (Z 520 28 41))] (Z 520 16 42)) (Z 520 8 42)),
  (.ifs (.cmp .Eq (.attr (.loc 1 (Z 521 11 19)) 10 (Z 521 11 24)) (.str 134 0 (Z 521 28 33)) (Z 521 11 33)) [(.asg (.sub (.attr (.loc 0 (Z 522 12 16)) 205 (Z 522 12 21)) (.attr (.loc 1 (Z 522 22 30)) 53 (Z 522 22 37)) (Z 522 12 38)) (.call (.glob 1 (Z 522 41 47)) [(.sub (.attr (.loc 0 (Z 522 48 52)) 205 (Z 522 48 57)) (.attr (.loc 1 (Z 522 58 66)) 53 (Z 522 58 73)) (Z 522 48 74)),(.loc 2 (Z 522 76 81)),(.attr (.loc 1 (Z 522 83 91)) 0 (Z 522 83 96))] (Z 522 41 97)) (Z 522 12 97))] [(.ifs (.cmp .Eq (.attr (.loc 1 (Z 523 13 21)) 10 (Z 523 13 26)) (.str 178 0 (Z 523 30 36)) (Z 523 13 36)) [(.asg (.loc 3 (Z 524 12 15)) (.sub (.attr (.loc 0 (Z 524 18 22)) 205 (Z 524 18 27)) (.bin .Sub (.attr (.loc 1 (Z 524 28 36)) 53 (Z 524 28 43)) (.int 4 0 (Z 524 46 47)) (Z 524 28 47)) (Z 524 18 48)) (Z 524 12 48)),
  (.asg (.sub (.attr (.loc 0 (Z 525 12 16)) 205 (Z 525 12 21)) (.bin .Sub (.attr (.loc 1 (Z 525 22 30)) 53 (Z 525 22 37)) (.int 4 0 (Z 525 40 41)) (Z 525 22 41)) (Z 525 12 42)) (.bin .Add (.loc 3 (Z 525 45 48)) (.bin .LShift (.bin .Sub (.loc 2 (Z 525 52 57)) (.call (.glob 0 (Z 525 60 64)) [(.bin .RShift (.loc 3 (Z 525 65 68)) (.int 8 0 (Z 525 72 73)) (Z 525 65 73)),(.int 8 0 (Z 525 75 76))] (Z 525 60 77)) (Z 525 52 77)) (.int 8 0 (Z 525 81 82)) (Z 525 52 82)) (Z 525 45 83)) (Z 525 12 83))] [(.ifs (.cmp .Eq (.attr (.loc 1 (Z 526 13 21)) 10 (Z 526 13 26)) (.str 284 0 (Z 526 30 35)) (Z 526 13 35)) [(.asg (.sub (.attr (.loc 0 (Z 527 12 16)) 284 (Z 527 12 20)) (.attr (.loc 1 (Z 527 21 29)) 53 (Z 527 21 36)) (Z 527 12 37)) (.loc 2 (Z 527 40 45)) (Z 527 12 45))] [(.raise (.call (.glob 2 (Z 529 18 30)) [(.str 164 0 (Z 529 31 41))] (Z 529 18 42)) (Z 529 12 42))] ⟨526,8,529,42⟩)] ⟨523,8,529,42⟩)] ⟨521,8,529,42⟩)]
noncomputable def f_83:Fn:=⟨3,[269,164,1,142],[4,292,71],[(.fn 1),(.fn 31),(.cls 1083)],[],false,b_83,[]⟩
noncomputable def b_84:List Sx:= [(.ifs (.and [(.cmp .Eq (.attr (.loc 1 (Z 532 11 19)) 10 (Z 532 11 24)) (.str 284 0 (Z 532 28 33)) (Z 532 11 33)),(.cmp .Lt (.loc 2 (Z 532 38 42)) (.int 128 0 (Z 532 45 48)) (Z 532 38 48))] (Z 532 11 48)) [(.asg (.loc 4 (Z 533 12 15)) (.sub (.attr (.loc 0 (Z 533 18 22)) 284 (Z 533 18 26)) (.attr (.loc 1 (Z 533 27 35)) 53 (Z 533 27 42)) (Z 533 18 43)) (Z 533 12 43)),
  (.asg (.sub (.attr (.loc 0 (Z 534 12 16)) 284 (Z 534 12 20)) (.attr (.loc 1 (Z 534 21 29)) 53 (Z 534 21 36)) (Z 534 12 37)) (.bin .Add (.bin .Sub (.loc 4 (Z 534 40 43)) (.call (.glob 0 (Z 534 46 50)) [(.loc 4 (Z 534 51 54)),(.loc 2 (Z 534 56 60))] (Z 534 46 61)) (Z 534 40 61)) (.call (.glob 0 (Z 534 64 68)) [(.loc 3 (Z 534 69 74)),(.loc 2 (Z 534 76 80))] (Z 534 64 81)) (Z 534 40 81)) (Z 534 12 81))] [(.ex (.meth (.loc 0 (Z 536 12 16)) 177 [(.loc 1 (Z 536 21 29)),(.loc 3 (Z 536 31 36))] (Z 536 12 20) (Z 536 12 37)) (Z 536 12 37))] ⟨532,8,536,37⟩)]
noncomputable def f_84:Fn:=⟨4,[269,164,0,1,142],[4],[(.fn 1)],[],false,b_84,[]⟩
noncomputable def b_85:List Sx:= [(.asg (.loc 2 (Z 542 8 13)) (.attr (.loc 1 (Z 542 16 19)) 1 (Z 542 16 25)) (Z 542 8 25)),
  (.ifs (.cmp .IsNot (.attr (.loc 1 (Z 543 11 14)) 293 (Z 543 11 19)) (.none 0 (Z 543 27 31)) (Z 543 11 31)) [(.asg (.loc 2 (Z 544 12 17)) (.bin .Add (.loc 2 (Z 544 20 25)) (.meth (.loc 0 (Z 544 28 32)) 163 [(.attr (.loc 1 (Z 544 37 40)) 293 (Z 544 37 45))] (Z 544 28 36) (Z 544 28 46)) (Z 544 20 46)) (Z 544 12 46))] [] ⟨543,8,544,46⟩),
  (.ifs (.cmp .IsNot (.attr (.loc 1 (Z 545 11 14)) 294 (Z 545 11 20)) (.none 0 (Z 545 28 32)) (Z 545 11 32)) [(.asg (.loc 2 (Z 546 12 17)) (.bin .Add (.loc 2 (Z 546 20 25)) (.bin .Mult (.meth (.loc 0 (Z 546 28 32)) 163 [(.attr (.loc 1 (Z 546 37 40)) 294 (Z 546 37 46))] (Z 546 28 36) (Z 546 28 47)) (.attr (.loc 1 (Z 546 50 53)) 295 (Z 546 50 59)) (Z 546 28 59)) (Z 546 20 59)) (Z 546 12 59))] [] ⟨545,8,546,59⟩),
  (.ret (.call (.glob 0 (Z 547 15 19)) [(.loc 2 (Z 547 20 25)),(.int 64 0 (Z 547 27 29))] (Z 547 15 30)) (Z 547 8 30))]
noncomputable def f_85:Fn:=⟨2,[269,296,91],[4],[(.fn 1)],[],false,b_85,[]⟩
noncomputable def b_86:List Sx:= [(.asg (.loc 2 (Z 550 8 12)) (.ite (.cmp .Eq (.attr (.loc 1 (Z 550 20 23)) 297 (Z 550 20 31)) (.str 17 0 (Z 550 35 37)) (Z 550 20 37)) (.int 0 0 (Z 550 15 16)) (.sub (.attr (.loc 0 (Z 550 43 47)) 287 (Z 550 43 56)) (.attr (.loc 1 (Z 550 57 60)) 297 (Z 550 57 68)) (Z 550 43 69)) (Z 550 15 69)) (Z 550 8 69)),
  (.ret (.call (.glob 0 (Z 551 15 19)) [(.bin .Add (.meth (.loc 0 (Z 551 20 24)) 196 [(.loc 1 (Z 551 32 35))] (Z 551 20 31) (Z 551 20 36)) (.loc 2 (Z 551 39 43)) (Z 551 20 43)),(.int 64 0 (Z 551 45 47))] (Z 551 15 48)) (Z 551 8 48))]
noncomputable def f_86:Fn:=⟨2,[269,296,293],[4],[(.fn 1)],[],false,b_86,[]⟩
noncomputable def b_87:List Sx:= [(.for 3 (Z 554 12 15) (.bin .Add (.lst [(.loc 1 (Z 554 20 27))] (Z 554 19 28)) (.call (.glob 0 (Z 554 31 35)) [(.attr (.loc 2 (Z 554 36 47)) 108 (Z 554 36 56))] (Z 554 31 57)) (Z 554 19 57)) [(.ifs (.cmp .Eq (.attr (.loc 3 (Z 555 15 18)) 10 (Z 555 15 23)) (.str 298 0 (Z 555 27 32)) (Z 555 15 32)) [(.ret (.attr (.attr (.loc 3 (Z 556 23 26)) 164 (Z 556 23 35)) 0 (Z 556 23 40)) (Z 556 16 40))] [] ⟨555,12,556,40⟩),
  (.ifs (.and [(.cmp .Eq (.attr (.loc 3 (Z 557 15 18)) 10 (Z 557 15 23)) (.str 296 0 (Z 557 27 32)) (Z 557 15 32)),(.cmp .Gt (.attr (.loc 3 (Z 557 37 40)) 0 (Z 557 37 45)) (.int 0 0 (Z 557 48 49)) (Z 557 37 49))] (Z 557 15 49)) [(.ret (.attr (.loc 3 (Z 558 23 26)) 0 (Z 558 23 31)) (Z 558 16 31))] [] ⟨557,12,558,31⟩)] ⟨554,8,558,31⟩),
  (.ret (.int 64 0 (Z 559 15 17)) (Z 559 8 17))]
noncomputable def f_87:Fn:=⟨3,[269,165,113,27],[299],[(.prim 5)],[],false,b_87,[]⟩
noncomputable def b_88:List Sx:= [(.ifs (.cmp .Eq (.attr (.loc 1 (Z 562 11 18)) 10 (Z 562 11 23)) (.str 298 0 (Z 562 27 32)) (Z 562 11 32)) [(.ret (.call (.glob 0 (Z 563 19 23)) [(.meth (.loc 0 (Z 563 24 28)) 163 [(.attr (.loc 1 (Z 563 33 40)) 164 (Z 563 33 49))] (Z 563 24 32) (Z 563 24 50)),(.loc 2 (Z 563 52 56))] (Z 563 19 57)) (Z 563 12 57))] [] ⟨562,8,563,57⟩),
  (.ifs (.cmp .Eq (.attr (.loc 1 (Z 564 11 18)) 10 (Z 564 11 23)) (.str 296 0 (Z 564 27 32)) (Z 564 11 32)) [(.ret (.meth (.attr (.loc 0 (Z 565 19 23)) 257 (Z 565 19 30)) 110 [(.meth (.loc 0 (Z 565 36 40)) 278 [(.loc 1 (Z 565 47 54))] (Z 565 36 46) (Z 565 36 55)),(.bin .FloorDiv (.loc 2 (Z 565 57 61)) (.int 8 0 (Z 565 65 66)) (Z 565 57 66))] (Z 565 19 35) (Z 565 19 67)) (Z 565 12 67))] [] ⟨564,8,565,67⟩),
  (.ret (.call (.glob 0 (Z 566 15 19)) [(.attr (.loc 1 (Z 566 20 27)) 1 (Z 566 20 33)),(.loc 2 (Z 566 35 39))] (Z 566 15 40)) (Z 566 8 40))]
noncomputable def f_88:Fn:=⟨3,[269,165,0],[4],[(.fn 1)],[],false,b_88,[]⟩
noncomputable def b_89:List Sx:= [(.ifs (.cmp .Eq (.attr (.loc 1 (Z 569 11 18)) 10 (Z 569 11 23)) (.str 298 0 (Z 569 27 32)) (Z 569 11 32)) [(.ex (.meth (.loc 0 (Z 570 12 16)) 300 [(.attr (.loc 1 (Z 570 25 32)) 164 (Z 570 25 41)),(.loc 2 (Z 570 43 47)),(.loc 3 (Z 570 49 54))] (Z 570 12 24) (Z 570 12 55)) (Z 570 12 55))] [(.ifs (.cmp .Eq (.attr (.loc 1 (Z 571 13 20)) 10 (Z 571 13 25)) (.str 296 0 (Z 571 29 34)) (Z 571 13 34)) [(.ex (.meth (.attr (.loc 0 (Z 572 12 16)) 257 (Z 572 12 23)) 111 [(.meth (.loc 0 (Z 572 30 34)) 278 [(.loc 1 (Z 572 41 48))] (Z 572 30 40) (Z 572 30 49)),(.bin .FloorDiv (.loc 2 (Z 572 51 55)) (.int 8 0 (Z 572 59 60)) (Z 572 51 60)),(.loc 3 (Z 572 62 67))] (Z 572 12 29) (Z 572 12 68)) (Z 572 12 68))] [(.raise (.call (.glob 0 (Z 574 18 30)) [(.str 165 0 (Z 574 31 40))] (Z 574 18 41)) (Z 574 12 41))] ⟨571,8,574,41⟩)] ⟨569,8,574,41⟩)]
noncomputable def f_89:Fn:=⟨4,[269,165,0,1],[71],[(.cls 1083)],[],false,b_89,[]⟩
noncomputable def b_90:List Sx:= [(.asg (.sub (.attr (.loc 0 (Z 577 8 12)) 205 (Z 577 8 17)) (.glob 0 (Z 577 18 23)) (Z 577 8 24)) (.call (.glob 1 (Z 577 27 31)) [(.bin .Sub (.sub (.attr (.loc 0 (Z 577 32 36)) 205 (Z 577 32 41)) (.glob 0 (Z 577 42 47)) (Z 577 32 48)) (.loc 2 (Z 577 51 56)) (Z 577 32 56)),(.int 64 0 (Z 577 58 60))] (Z 577 27 61)) (Z 577 8 61)),
  (.ex (.meth (.attr (.loc 0 (Z 578 8 12)) 257 (Z 578 8 19)) 111 [(.sub (.attr (.loc 0 (Z 578 26 30)) 205 (Z 578 26 35)) (.glob 0 (Z 578 36 41)) (Z 578 26 42)),(.loc 2 (Z 578 44 49)),(.loc 1 (Z 578 51 56))] (Z 578 8 25) (Z 578 8 57)) (Z 578 8 57))]
noncomputable def f_90:Fn:=⟨3,[269,1,280],[301,4],[(.int 4),(.fn 1)],[],false,b_90,[]⟩
noncomputable def b_91:List Sx:= [(.asg (.loc 2 (Z 581 8 13)) (.meth (.attr (.loc 0 (Z 581 16 20)) 257 (Z 581 16 27)) 110 [(.sub (.attr (.loc 0 (Z 581 33 37)) 205 (Z 581 33 42)) (.glob 0 (Z 581 43 48)) (Z 581 33 49)),(.loc 1 (Z 581 51 56))] (Z 581 16 32) (Z 581 16 57)) (Z 581 8 57)),
  (.asg (.sub (.attr (.loc 0 (Z 582 8 12)) 205 (Z 582 8 17)) (.glob 0 (Z 582 18 23)) (Z 582 8 24)) (.call (.glob 1 (Z 582 27 31)) [(.bin .Add (.sub (.attr (.loc 0 (Z 582 32 36)) 205 (Z 582 32 41)) (.glob 0 (Z 582 42 47)) (Z 582 32 48)) (.loc 1 (Z 582 51 56)) (Z 582 32 56)),(.int 64 0 (Z 582 58 60))] (Z 582 27 61)) (Z 582 8 61)),
  (.ret (.loc 2 (Z 583 15 20)) (Z 583 8 20))]
noncomputable def f_91:Fn:=⟨2,[269,280,1],[301,4],[(.int 4),(.fn 1)],[],false,b_91,[]⟩
noncomputable def b_92:List Sx:= [(.asg (.attr (.loc 0 (Z 608 8 12)) 10 (Z 608 8 17)) (.loc 1 (Z 608 20 24)) (Z 608 8 24))]
noncomputable def f_92:Fn:=⟨2,[269,10],[],[],[],false,b_92,[]⟩
noncomputable def b_93:List Sx:= [(.ex (.meth (.glob 0 (Z 621 8 15)) 302 [(.loc 0 (Z 621 25 29)),(.str 298 0 (Z 621 31 36))] (Z 621 8 24) (Z 621 8 37)) (Z 621 8 37)),
  (.asg (.attr (.loc 0 (Z 622 8 12)) 164 (Z 622 8 21)) (.loc 1 (Z 622 24 32)) (Z 622 8 32))]
noncomputable def f_93:Fn:=⟨2,[269,164],[303],[(.cls 10)],[],false,b_93,[]⟩
noncomputable def b_94:List Sx:= [(.ex (.meth (.glob 0 (Z 632 8 15)) 302 [(.loc 0 (Z 632 25 29)),(.str 162 0 (Z 632 31 36))] (Z 632 8 24) (Z 632 8 37)) (Z 632 8 37)),
  (.asg (.attr (.loc 0 (Z 633 8 12)) 1 (Z 633 8 18)) (.loc 1 (Z 633 21 26)) (Z 633 8 26)),
  (.asg (.attr (.loc 0 (Z 634 8 12)) 16 (Z 634 8 17)) (.loc 2 (Z 634 20 24)) (Z 634 8 24))]
noncomputable def f_94:Fn:=⟨3,[269,1,16],[303],[(.cls 10)],[(.str 17)],false,b_94,[]⟩
noncomputable def b_95:List Sx:= [(.ex (.meth (.glob 0 (Z 644 8 15)) 302 [(.loc 0 (Z 644 25 29)),(.str 296 0 (Z 644 31 36))] (Z 644 8 24) (Z 644 8 37)) (Z 644 8 37)),
  (.asg (.attr (.loc 0 (Z 645 8 12)) 293 (Z 645 8 17)) (.loc 1 (Z 645 20 24)) (Z 645 8 24)),
  (.asg (.attr (.loc 0 (Z 646 8 12)) 294 (Z 646 8 18)) (.loc 2 (Z 646 21 26)) (Z 646 8 26)),
  (.asg (.attr (.loc 0 (Z 647 8 12)) 295 (Z 647 8 18)) (.loc 3 (Z 647 21 26)) (Z 647 8 26)),
  (.asg (.attr (.loc 0 (Z 648 8 12)) 1 (Z 648 8 18)) (.loc 4 (Z 648 21 26)) (Z 648 8 26)),
  (.asg (.attr (.loc 0 (Z 649 8 12)) 0 (Z 649 8 17)) (.loc 5 (Z 649 20 24)) (Z 649 8 24)),
  (.asg (.attr (.loc 0 (Z 650 8 12)) 297 (Z 650 8 20)) (.loc 6 (Z 650 23 30)) (Z 650 8 30)),
  (.asg (.attr (.loc 0 (Z 651 8 12)) 16 (Z 651 8 17)) (.loc 7 (Z 651 20 24)) (Z 651 8 24))]
noncomputable def f_95:Fn:=⟨8,[269,293,294,295,1,0,297,16],[303],[(.cls 10)],[(.int 0),(.str 17),(.str 17)],false,b_95,[]⟩
noncomputable def b_96:List Sx:= [(.asg (.attr (.loc 0 (Z 672 8 12)) 16 (Z 672 8 17)) (.loc 1 (Z 672 20 24)) (Z 672 8 24)),
  (.asg (.attr (.loc 0 (Z 673 8 12)) 108 (Z 673 8 21)) (.call (.glob 0 (Z 673 24 29)) [(.loc 2 (Z 673 30 38))] (Z 673 24 39)) (Z 673 8 39)),
  (.asg (.attr (.loc 0 (Z 674 8 12)) 304 (Z 674 8 19)) (.loc 3 (Z 674 22 28)) (Z 674 8 28))]
noncomputable def f_96:Fn:=⟨4,[269,16,108,304],[305],[(.prim 6)],[(.str 17)],false,b_96,[]⟩
noncomputable def c_Number:Cls:=⟨[10,1],true,68,[(302,68)]⟩
noncomputable def c_Symbol:Cls:=⟨[10,16],true,69,[(302,69)]⟩
noncomputable def c_Unary:Cls:=⟨[10,32,57],true,70,[(302,70)]⟩
noncomputable def c_Binary:Cls:=⟨[10,32,12,48],true,71,[(302,71)]⟩
noncomputable def c_Affine:Cls:=⟨[1,270,271],true,72,[(302,72),(83,73),(46,74),(45,75),(43,76)]⟩
noncomputable def c_Scope:Cls:=⟨[273],false,77,[(302,77),(177,78),(55,79),(274,80)]⟩
noncomputable def c_Flags:Cls:=⟨[73,76,86,74,75,72,276],false,81,[(302,81)]⟩
noncomputable def c_Register:Cls:=⟨[16,10,53,0],true,82,[(302,82)]⟩
noncomputable def c_Memory:Cls:=⟨[277],false,83,[(302,83),(279,84),(282,85),(110,86),(111,87)]⟩
noncomputable def c_State:Cls:=⟨[283,205,284,77,257,285,286,287,144],false,88,[(302,88),(163,89),(177,90),(300,91),(196,92),(278,93),(109,94),(110,95),(111,96),(198,97),(199,98)]⟩
noncomputable def c_Operand:Cls:=⟨[10],false,99,[(302,99)]⟩
noncomputable def c_Reg:Cls:=⟨[10,164],true,100,[(302,100)]⟩
noncomputable def c_Imm:Cls:=⟨[10,1,16],true,101,[(302,101)]⟩
noncomputable def c_Mem:Cls:=⟨[10,293,294,295,1,0,297,16],true,102,[(302,102)]⟩
noncomputable def c_Instruction:Cls:=⟨[16,108,304],true,103,[(302,103)]⟩
noncomputable def b_mint:List Sx:= [(.ex (.meth (.glob 0 (Z 8 8 17)) 302 [(.loc 0 (Z 8 27 31)),(.loc 1 (Z 8 33 37))] (Z 8 8 26) (Z 8 8 38)) (Z 8 8 38)),
  (.asg (.attr (.loc 0 (Z 9 8 12)) 306 (Z 9 8 17)) (.loc 1 (Z 9 20 24)) (Z 9 8 24)),
  (.asg (.attr (.loc 0 (Z 10 8 12)) 281 (Z 10 8 15)) (.loc 2 (Z 10 18 20)) (Z 10 8 20))]
noncomputable def f_mint:Fn:=⟨3,[269,306,281],[307],[(.prim 8)],[.none],false,b_mint,[]⟩
noncomputable def b_law1:List Sx:= [(.asg (.loc 1 (Z 1007 4 7)) (.call (.glob 0 (Z 1007 10 18)) [(.loc 0 (Z 1007 19 25))] (Z 1007 10 26)) (Z 1007 4 26)),
  (.asgW3 2 3 4 (Z 1008 4 9) (Z 1008 11 17) (Z 1008 19 24) 0 (Z 1008 4 24) (.call (.glob 1 (Z 1008 28 38)) [(.loc 1 (Z 1008 39 42))] (Z 1008 28 43)) (.call (.glob 1 (Z 1008 45 55)) [(.loc 1 (Z 1008 56 59))] (Z 1008 45 60)) (.call (.glob 1 (Z 1008 62 72)) [(.loc 1 (Z 1008 73 76))] (Z 1008 62 77)) 0 (Z 1008 27 78) (Z 1008 4 78)),
  (.asgT [(.loc 5 (Z 1009 4 9)),(.loc 6 (Z 1009 11 15))] 0 (Z 1009 4 15) (.tup [(.lst [(.loc 2 (Z 1009 20 25)),(.loc 3 (Z 1009 27 33)),(.bin .Sub (.bin .Add (.loc 4 (Z 1009 35 40)) (.loc 3 (Z 1009 43 49)) (Z 1009 35 49)) (.loc 2 (Z 1009 52 57)) (Z 1009 35 57))] (Z 1009 19 58)),(.bin .Add (.int 4096 0 (Z 1009 60 64)) (.call (.glob 2 (Z 1009 67 76)) [(.loc 1 (Z 1009 77 80)),(.int 64 0 (Z 1009 82 84))] (Z 1009 67 85)) (Z 1009 60 85))] 0 (Z 1009 18 86)) (Z 1009 4 86)),
  (.asgT [(.loc 17 (Z 1010 4 9)),(.loc 14 (Z 1010 11 16))] 0 (Z 1010 4 16) (.tup [(.call (.glob 3 (Z 1010 20 25)) [] (Z 1010 20 27)),(.lst [(.glob 4 (Z 1010 30 40)),(.glob 5 (Z 1010 42 51)),(.glob 6 (Z 1010 53 62))] (Z 1010 29 63))] 0 (Z 1010 19 64)) (Z 1010 4 64)),
  (.ex (.meth (.loc 17 (Z 1011 4 9)) 177 [(.str 87 0 (Z 1011 14 17)),(.call (.glob 7 (Z 1011 19 25)) [(.loc 2 (Z 1011 26 31))] (Z 1011 19 32))] (Z 1011 4 13) (Z 1011 4 33)) (Z 1011 4 33)),
  (.ex (.meth (.loc 17 (Z 1012 4 9)) 177 [(.str 88 0 (Z 1012 14 17)),(.call (.glob 7 (Z 1012 19 25)) [(.bin .Sub (.loc 3 (Z 1012 26 32)) (.loc 2 (Z 1012 35 40)) (Z 1012 26 40)),(.str 87 0 (Z 1012 42 45))] (Z 1012 19 46))] (Z 1012 4 13) (Z 1012 4 47)) (Z 1012 4 47)),
  (.ex (.meth (.loc 17 (Z 1013 4 9)) 177 [(.str 308 0 (Z 1013 14 17)),(.call (.glob 7 (Z 1013 19 25)) [(.loc 4 (Z 1013 26 31)),(.str 88 0 (Z 1013 33 36)),(.str 87 0 (Z 1013 38 41))] (Z 1013 19 42))] (Z 1013 4 13) (Z 1013 4 43)) (Z 1013 4 43)),
  (.asgT [(.loc 7 (Z 1014 4 8)),(.loc 8 (Z 1014 10 15)),(.loc 9 (Z 1014 17 21))] 0 (Z 1014 4 21) (.call (.glob 8 (Z 1014 24 33)) [(.loc 1 (Z 1014 34 37)),(.loc 5 (Z 1014 39 44)),(.int 3 0 (Z 1014 46 47))] (Z 1014 24 48)) (Z 1014 4 48)),
  (.ifs (.cmp .NotEq (.meth (.call (.glob 9 (Z 1015 7 15)) [(.loc 7 (Z 1015 16 20)),(.loc 17 (Z 1015 22 27))] (Z 1015 7 28)) 83 [] (Z 1015 7 33) (Z 1015 7 35)) (.tup [(.loc 8 (Z 1015 40 45)),(.str 17 0 (Z 1015 47 49)),(.str 17 0 (Z 1015 51 53))] 0 (Z 1015 39 54)) (Z 1015 7 54)) [(.ret (.bool false 0 (Z 1016 15 20)) (Z 1016 8 20))] [] ⟨1015,4,1016,20⟩),
  (.asg (.loc 10 (Z 1017 4 9)) (.call (.glob 10 (Z 1017 12 22)) [(.loc 5 (Z 1017 23 28)),(.loc 6 (Z 1017 30 34))] (Z 1017 12 35)) (Z 1017 4 35))]
noncomputable def b_law2:List Sx:= [(.ex (.call (.glob 12 (Z 1019 4 11)) [(.loc 10 (Z 1019 12 17)),(.bin .Add (.loc 9 (Z 1019 19 23)) (.lst [(.call (.glob 13 (Z 1019 27 34)) [(.str 199 0 (Z 1019 35 40)),(.lst [(.call (.glob 14 (Z 1019 43 51)) [(.int 0 0 (Z 1019 52 53))] (Z 1019 43 54))] (Z 1019 42 55))] (Z 1019 27 56))] (Z 1019 26 57)) (Z 1019 19 57)),(.loc 14 (Z 1019 59 64))] (Z 1019 4 65)) (Z 1019 4 65))]
noncomputable def b_law3:List Sx:= [(.ifs (.cmp .Gt (.call (.glob 2 (Z 1024 7 16)) [(.loc 1 (Z 1024 17 20)),(.int 4 0 (Z 1024 22 23))] (Z 1024 7 24)) (.int 0 0 (Z 1024 27 28)) (Z 1024 7 28)) [(.ret (.bool true 0 (Z 1025 15 19)) (Z 1025 8 19))] [] ⟨1024,4,1025,19⟩),
  (.asgT [(.loc 18 (Z 1026 4 8)),(.loc 12 (Z 1026 10 14))] 0 (Z 1026 4 14) (.tup [(.call (.glob 16 (Z 1026 18 27)) [(.loc 1 (Z 1026 28 31)),(.lst [(.str 35 0 (Z 1026 34 37)),(.str 36 0 (Z 1026 39 42))] (Z 1026 33 43))] (Z 1026 18 44)),(.call (.glob 17 (Z 1026 46 55)) [(.loc 1 (Z 1026 56 59)),(.loc 5 (Z 1026 61 66))] (Z 1026 46 67))] 0 (Z 1026 17 68)) (Z 1026 4 68)),
  (.asg (.loc 13 (Z 1027 4 7)) (.call (.glob 18 (Z 1027 10 16)) [(.loc 18 (Z 1027 17 21)),(.loc 7 (Z 1027 23 27)),(.call (.glob 18 (Z 1027 29 35)) [(.str 44 0 (Z 1027 36 39)),(.sub (.loc 12 (Z 1027 41 45)) (.int 0 0 (Z 1027 46 47)) (Z 1027 41 48)),(.sub (.loc 12 (Z 1027 50 54)) (.int 0 0 (Z 1027 55 56)) (Z 1027 50 57))] (Z 1027 29 58))] (Z 1027 10 59)) (Z 1027 4 59)),
  (.asg (.loc 15 (Z 1028 4 8)) (.bin .Add (.bin .Add (.sub (.loc 12 (Z 1028 11 15)) (.int 2 0 (Z 1028 16 17)) (Z 1028 11 18)) (.sub (.loc 12 (Z 1028 21 25)) (.int 2 0 (Z 1028 26 27)) (Z 1028 21 28)) (Z 1028 11 28)) (.lst [(.call (.glob 13 (Z 1028 32 39)) [(.str 199 0 (Z 1028 40 45)),(.lst [(.call (.glob 14 (Z 1028 48 56)) [(.int 1 0 (Z 1028 57 58))] (Z 1028 48 59))] (Z 1028 47 60))] (Z 1028 32 61)),(.call (.glob 13 (Z 1028 63 70)) [(.str 199 0 (Z 1028 71 76)),(.lst [(.call (.glob 14 (Z 1028 79 87)) [(.int 0 0 (Z 1028 88 89))] (Z 1028 79 90))] (Z 1028 78 91))] (Z 1028 63 92))] (Z 1028 31 93)) (Z 1028 11 93)) (Z 1028 4 93)),
  (.asg (.loc 15 (Z 1029 4 8)) (.bin .Add (.bin .Add (.bin .Add (.bin .Add (.loc 9 (Z 1029 11 15)) (.loc 15 (Z 1029 18 22)) (Z 1029 11 22)) (.call (.glob 19 (Z 1029 25 34)) [(.str 44 0 (Z 1029 35 38))] (Z 1029 25 39)) (Z 1029 11 39)) (.lst [(.call (.glob 13 (Z 1029 43 50)) [(.str 198 0 (Z 1029 51 57)),(.lst [(.call (.glob 14 (Z 1029 60 68)) [(.int 0 0 (Z 1029 69 70))] (Z 1029 60 71))] (Z 1029 59 72))] (Z 1029 43 73))] (Z 1029 42 74)) (Z 1029 11 74)) (.lst [(.call (.glob 13 (Z 1029 78 85)) [(.str 199 0 (Z 1029 86 91)),(.lst [(.call (.glob 14 (Z 1029 94 102)) [(.int 1 0 (Z 1029 103 104))] (Z 1029 94 105))] (Z 1029 93 106))] (Z 1029 78 107)),(.call (.glob 13 (Z 1029 109 116)) [(.str 199 0 (Z 1029 117 122)),(.lst [(.call (.glob 14 (Z 1029 125 133)) [(.int 0 0 (Z 1029 134 135))] (Z 1029 125 136))] (Z 1029 124 137))] (Z 1029 109 138))] (Z 1029 77 139)) (Z 1029 11 139)) (Z 1029 4 139)),
  (.asg (.loc 16 (Z 1030 4 9)) (.call (.glob 10 (Z 1030 12 22)) [(.loc 5 (Z 1030 23 28)),(.loc 6 (Z 1030 30 34))] (Z 1030 12 35)) (Z 1030 4 35))]
noncomputable def f_law:Fn:=⟨1,[212,213,251,309,310,230,258,13,1,150,112,311,312,313,147,314,28,59,32],[315,316,221,317,318,319,320,25,255,64,321,260,322,226,227,211,253,252,248,247,323],[(.fn 51),(.fn 54),(.fn 52),(.cls 5),(.fn 50),(.fn 47),(.fn 67),(.cls 4),(.fn 65),(.fn 14),(.fn 66),(.prim 1),(.fn 33),(.fn 56),(.fn 55),(.prim 3),(.fn 53),(.fn 59),(.cls 3),(.fn 63),(.fn 2412)],[],false,[],[6,10,13,14,15,16,17,18]⟩
noncomputable def f_lc1:Fn:=⟨0,[216,258,112],[],[],[],false,[],[1,2]⟩
noncomputable def f_lc3:Fn:=⟨0,[53],[],[],[],false,[],[]⟩
noncomputable def f_lam1:Fn:=⟨0,[313,59],[64],[(.fn 14)],[],false,[],[0,1]⟩
noncomputable def f_lam2:Fn:=⟨0,[147,314,28,32],[322,247],[(.fn 33),(.fn 63)],[],false,[],[0,1,2,3]⟩
noncomputable def e_lc1:Ex:=(.meth (.attr (.loc 2 (Z 1018 12 17)) 257 (Z 1018 12 24)) 110 [(.bin .Add (.loc 1 (Z 1018 30 34)) (.bin .Mult (.int 8 0 (Z 1018 37 38)) (.loc 0 (Z 1018 41 45)) (Z 1018 37 45)) (Z 1018 30 45)),(.int 8 0 (Z 1018 47 48))] (Z 1018 12 29) (Z 1018 12 49))
noncomputable def i_lc1:Ex:=(.call (.glob 11 (Z 1018 62 67)) [(.int 3 0 (Z 1018 68 69))] (Z 1018 62 70))
noncomputable def e_lc2:Ex:=(.meth (.attr (.loc 2 (Z 1020 49 54)) 257 (Z 1020 49 61)) 110 [(.bin .Add (.loc 1 (Z 1020 67 71)) (.bin .Mult (.int 8 0 (Z 1020 74 75)) (.loc 0 (Z 1020 78 82)) (Z 1020 74 82)) (Z 1020 67 82)),(.int 8 0 (Z 1020 84 85))] (Z 1020 49 66) (Z 1020 49 86))
noncomputable def i_lc2:Ex:=(.call (.glob 11 (Z 1020 99 104)) [(.int 3 0 (Z 1020 105 106))] (Z 1020 99 107))
noncomputable def e_law12a:Ex:=(.cmp .NotEq (.sub (.attr (.loc 10 (Z 1020 7 12)) 205 (Z 1020 7 17)) (.int 0 0 (Z 1020 18 19)) (Z 1020 7 20)) (.bin .Mod (.call (.glob 15 (Z 1020 24 27)) [(.loc 8 (Z 1020 28 33))] (Z 1020 24 34)) (.bin .Pow (.int 2 0 (Z 1020 37 38)) (.int 64 0 (Z 1020 42 44)) (Z 1020 37 44)) (Z 1020 24 44)) (Z 1020 7 44))
noncomputable def e_law12b:Ex:=(.loc 11 (Z 1020 112 116))
noncomputable def e_lc3:Ex:=(.bin .Add (.bin .Mult (.int 1000003 0 (Z 1022 42 49)) (.loc 0 (Z 1022 52 58)) (Z 1022 42 58)) (.int 17 0 (Z 1022 61 63)) (Z 1022 42 63))
noncomputable def i_lc3:Ex:=(.call (.glob 11 (Z 1022 78 83)) [(.int 5 0 (Z 1022 84 85)),(.int 16 0 (Z 1022 87 89))] (Z 1022 78 90))
noncomputable def e_law13a:Ex:=(.slcOn (.attr (.loc 10 (Z 1022 7 12)) 205 (Z 1022 7 17)) (.int 3 0 (Z 1022 18 19)) (Z 1022 18 20) (Z 1022 7 21))
noncomputable def e_law13b:Ex:=(.lst [(.loc 6 (Z 1022 26 30)),(.int 32768 0 (Z 1022 32 37))] (Z 1022 25 38))
noncomputable def e_lam1:Ex:=(.call (.glob 0 (Z 1032 8 16)) [(.loc 0 (Z 1032 17 20)),(.loc 1 (Z 1032 22 27))] (Z 1032 8 28))
noncomputable def e_lam2:Ex:=(.call (.glob 0 (Z 1033 8 15)) [(.loc 2 (Z 1033 16 21)),(.bin .Add (.loc 1 (Z 1033 23 27)) (.call (.glob 1 (Z 1033 30 39)) [(.loc 3 (Z 1033 40 44))] (Z 1033 30 45)) (Z 1033 23 45)),(.loc 0 (Z 1033 47 52))] (Z 1033 8 53))
noncomputable def e_heard1:Ex:=(.glob 20 (Z 1031 11 21))
noncomputable def e_heard2:Ex:=(.glob 20 (Z 1032 35 45))
noncomputable def fnL:List Fn:= [f_mask,f_wrap,f_0,f_1,f_bit,f_ones,f_2,f_3,f_4,f_5,f_6,f_7,f_8,f_9,f_10,f_11,f_12,f_13,f_14,f_szp,f_15,f_16,f_17,f_18,f_19,f_20,f_21,f_22,f_23,f_24,f_gpr,f_25,f_done,f_26,f_27,f_28,f_29,f_30,f_31,f_32,f_33,f_34,f_35,f_36,f_37,f_38,f_39,f_40,f_41,f_42,f_43,f_44,f_45,f_46,f_47,f_48,f_49,f_50,f_51,f_52,f_53,f_54,f_55,f_56,f_57,f_58,f_59,f_60,f_61,f_62,f_63,f_64,f_65,f_66,f_67,f_68,f_69,f_70,f_71,f_72,f_73,f_74,f_75,f_76,f_77,f_78,f_79,f_80,f_81,f_82,f_83,f_84,f_85,f_86,f_87,f_88,f_89,f_90,f_91,f_92,f_93,f_94,f_95,f_96,f_mint]
noncomputable def fnA:List Nat:= [92,99,106,113,127,134,141,280,349,399,406,413,420,427,435,442,526,533,540,547,554,561,568,589,596,603,610,617,624,687,701,802,919,926,1148,1155,1183,1190,1197,1204,1211,1218,1225,1232,1239,1246,1253,1267,1274,1281,1288,1293,1300,1307,1314,1321,1328,1335,1342,1349,1356,1363,1370,1377,1384,1391,1398,1405,183,209,235,261,295,302,309,323,330,364,371,378,385,456,638,715,722,729,736,743,816,823,830,837,849,856,863,870,877,884,891,940,982,1016,1050,1103,36]
noncomputable def clsL:List Cls:= [c_Number,c_Symbol,c_Unary,c_Binary,c_Affine,c_Scope,c_Flags,c_Register,c_Memory,c_State,c_Operand,c_Reg,c_Imm,c_Mem,c_Instruction]
noncomputable def clsA:List Nat:= [193,219,245,271,340,388,515,676,791,908,964,999,1033,1086,1137]
noncomputable def nmL:List String:= ["size","worth","mask","low","wrap","half","n","rest","count","ones","kind","binary","left","node","spine","inner","name","","not a number plus one symbol less another","pluses","minuses","added","taken","len","SymbolError","Affine","division by zero","one","other","abs","shift count","<<","sign","MOST_SHIFT","*","/","%","|","&","^","quotient_expressions","shifted_expressions","+","add","-","negate","is_number","no number beside ","right","reckoned","no number behind ","~","affine","number","symbol","find","unary","body","no point here","scope","here","part","left_spine","turned","evaluate","combined_expressions"," ","o no b ae e ne be a s ns p np l ge le g","CONDITIONS","condition","condition_names","MachineError","of","cf","zf","sf","pf","flags","pair","truth","holds_number","condition_number","result","told","bit","parity","af","a","b","carry","two","total","szp","borrow","sub_flags","j","set","cmov","stem","adc","sbb","sub","cmp","and","test","or","add_flags","logic_flags","operands","size_of","read","write","state","instruction","target","source","combined_deeds","inc","dec","neg","inc_flags","dec_flags","neg_flags","holds","condition_of","rax rcx rdx rbx rsp rbp rsi rdi","eax ecx edx ebx esp ebp esi edi","ax cx dx bx sp bp si di","al cl dl bl spl bpl sil dil","NAMES_64","NAMES_32","NAMES_16","NAMES_8","no such register","gpr","r","names","early_names","OperandError","Register","str","late_ending","old","hlt","is_halted","no deed","ud2 int int3 syscall cpuid","deeds","deed","TRAPS","rows","done","shl","shr","whole","signed","is_signed","is_wide","fits_signed","divide","divisor","found","imm","get","register","operand","masked_count","shl shr sar","rol ror","over","count_told","SHIFTS","shifted_rotates","ROTATES","rotated","rotated_through","clear_flags","put","high","imul","product","put_halves","lay_wide","idiv","quotient_rotates","halves","cbw cwde cdqe","cwd cdq cqo","small","CONVERSIONS","extended","SPREADS","nop","mov","lea","xchg","offset","exchange","push","pop","pushfq","pack","popfq","unpack","leave","regs","push_operand","pop_operand","RSP","RBP","cell","int","script","pen","many","digit","spot","great","mixed","sum","some","_law_draw","way","Reg","Instruction","Number","_law_do","_law_reg","Imm","abc","known","_law_number","Symbol","Mem","!","not","sete","due","_law_fits","Unary",">>","is_right","both","cqo","sar","xor","_law_sign","_law_rows","Binary","_law_due","depth","first","_law_leaf","_law_pick","_law_ahead","_law_tree","_law_between","memory","home","State","range","row","two_deed","one_deed","shift_deed","product_deed","quotient_deed","conversion_deed","set_deed","self","plus","minus","affine_of","equates","settled","symbols that stand for themselves","df","held","place","octet","width","at","set_octet","iset","xmm","rip","begin","segments","fs","gs","Flags","Memory","joined","base","index","scale","mem","segment","reg","list","put_low","STACK","__init__","Operand","prefix","tuple","what","Exception","c","second","third","kept","leaf","bad","more","_law_pen","_law_worth","Scope","stack_deed","move_deed","_law_deed","_law_state","perform","_law_heard","o","no","ae","e","ne","be","s","ns","p","np","l","ge","le","g","al","cl","dl","bl","spl","bpl","sil","dil","rax","rcx","rdx","rbx","rsp","rbp","rsi","rdi","ud2","int3","syscall","cpuid","cbw","cwde","cdqe","cwd","cdq","rol","ror"]
noncomputable def nmT(k:Nat):Str:=match nmL[k]? with |some x=>Str.ofString x |none=>⟨(List.replicate (k+100) 97).toArray⟩
noncomputable def tab1{α:Type}(k:Nat):List (Nat×α)→Option α
  | [] =>none
  |(i,a)::l=>if k=i then some a else tab1 k l
noncomputable def tab2{α:Type}(k j:Nat):List (Nat×Nat×α)→Option α
  | [] =>none
  |(i,i',a)::l=>if k=i then(if j=i' then some a else tab2 k j l) else tab2 k j l
noncomputable def split0L:List (Nat×List Nat):= [(125,[346,347,348,349,350,351,352,353]),(128,[338,339,340,341,342,343,344,345]),(146,[354,211,355,356,357]),(167,[152,153,244]),(186,[358,359,360]),(187,[361,362,243])]
noncomputable def split1L:List (Nat×Nat×List Nat):= [(67,66,[324,325,88,326,327,328,329,87,330,331,332,333,334,335,336,337])]
noncomputable def startsL:List (Nat×Nat×Bool):= [(236,95,false),(236,96,true)]
noncomputable def cutL:List (Nat×Nat×Nat):= [(236,3,327)]
noncomputable def lenL:List (Nat×Nat):= [(96,3)]
noncomputable def charL:List (Nat×Nat×Nat):= [(229,0,87),(229,1,88),(229,2,308)]
noncomputable def TT:Tabs where
  nm:=nmT
  fn k:=fnL[k]?
  cls k:=clsL[k]?
  fnAddr k:=fnA.getD k (k-1000)
  clsAddr k:=clsA.getD k (k-1000)
  split0 k:=tab1 k split0L
  split1 k j:=tab2 k j split1L
  starts k j:=tab2 k j startsL
  cut k j:=tab2 k j cutL
  len k:=tab1 k lenL
  char k j:=tab2 k j charL
  empty:=17
  int:=211
  init:=302
  exc k:=Nat.beq k 1071||Nat.beq k 1083
noncomputable abbrev run(n f:Nat)(vs:List V)(σ:Sg):R V:=call TT n f vs σ
end Mine
end
section
open PySem PySem.Calls PySem.W PyProof.Rows
set_option maxRecDepth 100000
set_option backward.match.sparseCases false
set_option genInjectivity false
set_option genSizeOf false
namespace Mine
noncomputable abbrev PW:Program:=PySem.Challenge.pw_nn0096_01
noncomputable abbrev FH:=Addr→Option Obj
structure Gh where
  F:FH
  φ:List Addr
  ψ:List Addr
noncomputable def Gh.sel(g:Gh)(o:Bool):List Addr:=match o with |true=>g.ψ |false=>g.φ
noncomputable def Gh.act(g:Gh):List Addr:=g.φ++g.ψ
noncomputable def primVal:Nat→Value
  |0=> .builtin "len"
  |1=> .type "range"
  |2=> .builtin "abs"
  |3=> .type "int"
  |4=> .builtin "sum"
  |5=> .type "list"
  |6=> .type "tuple"
  |8=> .type "Exception"
  |_=> .type "str"
section
variable (T:Tabs)(P:Params)
mutual
noncomputable def Rep(g:Gh):V→Value→Prop
  | .none,r=>r= .none
  | .bool b,r=>r= .bool b
  | .int i,r=> ∃t,r= .int i t
  | .str x,r=> ∃t,r= .str (T.nm x) t
  | .tup vs,r=> ∃a rs n,r= .ref a∧g.F a=some {cls:= .type "tuple",data:= .seq (List.toArray rs) n}∧RepL g vs rs
  | .lst vs,r=> ∃a rs n,r= .ref a∧g.F a=some {cls:= .type "list",data:= .seq (List.toArray rs) n}∧RepL g vs rs
  | .rng n,r=> ∃a t u v,r= .ref a∧g.F a=some {cls:= .type "range",data:= .fields #[.int 0 t,.int n u,.int 1 v]}
  | .inst c vs,r=> ∃C x d es n,T.cls c=some C∧r= .ref x∧g.F x=some (instObj (T.clsAddr c) d)∧g.F d=some (dictOf es n)∧RepE g C.names vs es
  | .obj c o k,r=> ∃x d,r= .ref x∧g.F x=some (instObj (T.clsAddr c) d)∧(g.sel o)[k]? =some d
  | .ref o k,r=> ∃a,r= .ref a∧(g.sel o)[k]? =some a
  | .fn f,r=>r= .ref (T.fnAddr f)
  | .cls c,r=>r= .ref (T.clsAddr c)
  | .prim p,r=>r=primVal p
noncomputable def RepL(g:Gh):List V→List Value→Prop
  | [],rs=>rs= []
  |v::vs,rs=> ∃r rs',rs=r::rs'∧Rep g v r∧RepL g vs rs'
noncomputable def RepE(g:Gh):List Nat→List V→List DictEntry→Prop
  | [],[],es=>es= []
  |k::ks,v::vs,es=> ∃r t es',es=⟨PyData.keyHash P (T.nm k),.str (T.nm k) t,r⟩::es'∧Rep g v r∧RepE g ks vs es'
  | [],_::_,_=>False
  |_::_,[],_=>False
end
end
section
variable {T:Tabs}{P:Params}{g:Gh}
theorem rep_none{r}:Rep T P g .none r↔r= .none:=Iff.rfl
theorem rep_bool{b r}:Rep T P g (.bool b) r↔r= .bool b:=Iff.rfl
theorem rep_int{i r}:Rep T P g (.int i) r↔ ∃t,r= .int i t:=Iff.rfl
theorem rep_str{x r}:Rep T P g (.str x) r↔ ∃t,r= .str (T.nm x) t:=Iff.rfl
theorem rep_tup{vs r}:Rep T P g (.tup vs) r↔ ∃a rs n,r= .ref a∧g.F a=some {cls:= .type "tuple",data:= .seq (List.toArray rs) n}∧RepL T P g vs rs:=Iff.rfl
theorem rep_lst{vs r}:Rep T P g (.lst vs) r↔ ∃a rs n,r= .ref a∧g.F a=some {cls:= .type "list",data:= .seq (List.toArray rs) n}∧RepL T P g vs rs:=Iff.rfl
theorem rep_rng{n r}:Rep T P g (.rng n) r↔ ∃a t u v,r= .ref a∧g.F a=some {cls:= .type "range",data:= .fields #[.int 0 t,.int n u,.int 1 v]}:=Iff.rfl
theorem rep_inst{c vs r}:Rep T P g (.inst c vs) r↔ ∃C x d es n,T.cls c=some C∧r= .ref x∧g.F x=some (instObj (T.clsAddr c) d)∧g.F d=some (dictOf es n)∧RepE T P g C.names vs es:=Iff.rfl
theorem rep_obj{c o k r}:Rep T P g (.obj c o k) r↔ ∃x d,r= .ref x∧g.F x=some (instObj (T.clsAddr c) d)∧(g.sel o)[k]? =some d:=Iff.rfl
theorem rep_ref{o k r}:Rep T P g (.ref o k) r↔ ∃a,r= .ref a∧(g.sel o)[k]? =some a:=Iff.rfl
theorem rep_fn{f r}:Rep T P g (.fn f) r↔r= .ref (T.fnAddr f):=Iff.rfl
theorem rep_cls{c r}:Rep T P g (.cls c) r↔r= .ref (T.clsAddr c):=Iff.rfl
theorem rep_prim{p r}:Rep T P g (.prim p) r↔r=primVal p:=Iff.rfl
theorem repL_nil{rs}:RepL T P g [] rs↔rs= [] :=Iff.rfl
theorem repL_cons{v vs rs}:RepL T P g (v::vs) rs↔ ∃r rs',rs=r::rs'∧Rep T P g v r∧RepL T P g vs rs':=Iff.rfl
theorem repE_nil{es}:RepE T P g [] [] es↔es= [] :=Iff.rfl
theorem repE_cons{k ks v vs es}:RepE T P g (k::ks) (v::vs) es↔ ∃r t es',es=⟨PyData.keyHash P (T.nm k),.str (T.nm k) t,r⟩::es'∧Rep T P g v r∧RepE T P g ks vs es':=Iff.rfl
theorem Rep.int(i:Int)(t:Tok):Rep T P g (.int i) (.int i t):=rep_int.mpr ⟨t,rfl⟩
theorem Rep.str(x:Nat)(t:Tok):Rep T P g (.str x) (.str (T.nm x) t):=rep_str.mpr ⟨t,rfl⟩
theorem Rep.bool(b:Bool):Rep T P g (.bool b) (.bool b):=rep_bool.mpr rfl
theorem Rep.none:Rep T P g .none .none:=rep_none.mpr rfl
theorem RepL.nil:RepL T P g [] [] :=repL_nil.mpr rfl
theorem RepL.cons{v vs r rs}(h:Rep T P g v r)(k:RepL T P g vs rs):RepL T P g (v::vs) (r::rs):=repL_cons.mpr ⟨r,rs,rfl,h,k⟩
theorem RepL.length: ∀{vs:List V} {rs:List Value},RepL T P g vs rs→rs.length=vs.length
  | [],_,h=>by rw [repL_nil.mp h];rfl
  |v::vs,_,h=>by obtain⟨r,rs',rfl,_,k⟩:=repL_cons.mp h;simp [RepL.length k]
theorem RepL.at: ∀{vs:List V} {rs:List Value} {i:Nat} {v:V},RepL T P g vs rs→vs[i]? =some v→ ∃r,rs[i]? =some r∧Rep T P g v r
  | [],_,_,_,_,e=>by simp at e
  |v::vs,_,0,_,h,e=>by obtain⟨r,rs',rfl,h1,k⟩:=repL_cons.mp h;simp at e;subst e;exact⟨r,rfl,h1⟩
  |v::vs,_,i+1,_,h,e=>by obtain⟨r,rs',rfl,h1,k⟩:=repL_cons.mp h;simp at e;simpa using RepL.at k e
theorem RepL.app: ∀{vs ws:List V} {rs qs:List Value},RepL T P g vs rs→RepL T P g ws qs→RepL T P g (vs++ws) (rs++qs)
  | [],_,_,_,h,k=>by rw [repL_nil.mp h];exact k
  |v::vs,_,_,_,h,k=>by obtain⟨r,rs',rfl,h1,h2⟩:=repL_cons.mp h;exact .cons h1 (RepL.app h2 k)
theorem RepL.rev{vs:List V}{rs:List Value}(h:RepL T P g vs rs):RepL T P g vs.reverse rs.reverse:=by
  induction vs generalizing rs with
  |nil=>rw [repL_nil.mp h];exact .nil
  |cons v vs ih=>obtain⟨r,rs',rfl,h1,h2⟩:=repL_cons.mp h;simp only [List.reverse_cons];exact(ih h2).app (.cons h1 .nil)
theorem RepL.take{vs:List V}{rs:List Value}(n:Nat)(h:RepL T P g vs rs):RepL T P g (vs.take n) (rs.take n):=by
  induction vs generalizing rs n with
  |nil=>rw [repL_nil.mp h];simp only [List.take_nil];exact .nil
  | cons v vs ih=>
    obtain⟨r,rs',rfl,h1,h2⟩:=repL_cons.mp h
    cases n with
    |zero=>exact .nil
    |succ n=>exact .cons h1 (ih n h2)
theorem RepL.set{vs:List V}{rs:List Value}{v:V}{r:Value}(i:Nat)(h:RepL T P g vs rs)(hv:Rep T P g v r):RepL T P g (vs.set i v) (rs.set i r):=by
  induction vs generalizing rs i with
  |nil=>rw [repL_nil.mp h];exact .nil
  | cons w vs ih=>
    obtain⟨q,rs',rfl,h1,h2⟩:=repL_cons.mp h
    cases i with
    |zero=>exact .cons hv h2
    |succ i=>exact .cons h1 (ih i h2)
theorem RepL.repl{v:V}{r:Value}(n:Nat)(hv:Rep T P g v r):RepL T P g (List.replicate n v) (List.replicate n r):=by
  induction n with
  |zero=>exact .nil
  |succ n ih=>exact .cons hv ih
end
noncomputable def FH.le(F F':FH):Prop:= ∀a o,F a=some o→F' a=some o
theorem FH.le.refl(F:FH):FH.le F F:=fun _ _ e=>e
theorem FH.le.trans{F F' F'':FH}(h:FH.le F F')(h':FH.le F' F''):FH.le F F'':=fun _ _ e=>h' _ _ (h _ _ e)
structure Gh.le(g g':Gh):Prop where
  F:FH.le g.F g'.F
  φ: ∀(k:Nat) (a:Addr),g.φ[k]? =some a→g'.φ[k]? =some a
  ψ: ∀(k:Nat) (a:Addr),g.ψ[k]? =some a→g'.ψ[k]? =some a
theorem Gh.le.refl(g:Gh):Gh.le g g:=⟨.refl _,fun _ _ e=>e,fun _ _ e=>e⟩
theorem Gh.le.trans{g g' g'':Gh}(h:Gh.le g g')(h':Gh.le g' g''):Gh.le g g'':=⟨h.F.trans h'.F,fun _ _ e=>h'.φ _ _ (h.φ _ _ e),fun _ _ e=>h'.ψ _ _ (h.ψ _ _ e)⟩
theorem Gh.le.sel{g g':Gh}(h:Gh.le g g')(o:Bool){k:Nat}{a:Addr}(e:(g.sel o)[k]? =some a):(g'.sel o)[k]? =some a:=by cases o with |true=>exact h.ψ _ _ e |false=>exact h.φ _ _ e
section
variable {T:Tabs}{P:Params}
mutual
theorem Rep.mono{g g':Gh}(h:Gh.le g g'): ∀(v:V) {r:Value},Rep T P g v r→Rep T P g' v r
  | .none,_,e | .bool _,_,e | .int _,_,e | .str _,_,e | .fn _,_,e | .cls _,_,e | .prim _,_,e=>e
  | .tup vs,r,e=>by
    obtain⟨a,rs,n,h1,h2,h3⟩:=e
    exact⟨a,rs,n,h1,h.F _ _ h2,RepL.mono h vs h3⟩
  | .lst vs,r,e=>by
    obtain⟨a,rs,n,h1,h2,h3⟩:=e
    exact⟨a,rs,n,h1,h.F _ _ h2,RepL.mono h vs h3⟩
  | .rng n,r,e=>by
    obtain⟨a,t,u,v,h1,h2⟩:=e
    exact⟨a,t,u,v,h1,h.F _ _ h2⟩
  | .inst c vs,r,e=>by
    obtain⟨C,x,d,es,n,h0,h1,h2,h3,h4⟩:=e
    exact⟨C,x,d,es,n,h0,h1,h.F _ _ h2,h.F _ _ h3,RepE.mono h C.names vs h4⟩
  | .obj c o k,r,e=>by
    obtain⟨x,d,h1,h2,h3⟩:=e
    exact⟨x,d,h1,h.F _ _ h2,h.sel o h3⟩
  | .ref o k,r,e=>by
    obtain⟨a,h1,h3⟩:=e
    exact⟨a,h1,h.sel o h3⟩
theorem RepL.mono{g g':Gh}(h:Gh.le g g'): ∀(vs:List V) {rs:List Value},RepL T P g vs rs→RepL T P g' vs rs
  | [],_,e=>e
  | v::vs,rs,e=>by
    obtain⟨r,rs',h1,h2,h3⟩:=e
    exact⟨r,rs',h1,Rep.mono h v h2,RepL.mono h vs h3⟩
theorem RepE.mono{g g':Gh}(h:Gh.le g g'): ∀(ks:List Nat) (vs:List V) {es:List DictEntry},RepE T P g ks vs es→RepE T P g' ks vs es
  | [],[],_,e=>e
  | k::ks,v::vs,es,e=>by
    obtain⟨r,t,es',h1,h2,h3⟩:=e
    exact⟨r,t,es',h1,Rep.mono h v h2,RepE.mono h ks vs h3⟩
  | [],_::_,_,e=>e
  |_::_,[],_,e=>e
end
mutual
theorem Rep.free{F:FH}{φ ψ ψ':List Addr}: ∀(v:V) {r:Value},v.free=true→Rep T P ⟨F,φ,ψ⟩ v r→Rep T P ⟨F,φ,ψ'⟩ v r
  | .none,_,_,e | .bool _,_,_,e | .int _,_,_,e | .str _,_,_,e | .fn _,_,_,e | .cls _,_,_,e | .prim _,_,_,e | .rng _,_,_,e=>e
  | .tup vs,r,f,e=>by
    obtain⟨a,rs,n,h1,h2,h3⟩:=e
    exact⟨a,rs,n,h1,h2,RepL.free vs f h3⟩
  | .lst vs,r,f,e=>by
    obtain⟨a,rs,n,h1,h2,h3⟩:=e
    exact⟨a,rs,n,h1,h2,RepL.free vs f h3⟩
  | .inst c vs,r,f,e=>by
    obtain⟨C,x,d,es,n,h0,h1,h2,h3,h4⟩:=e
    exact⟨C,x,d,es,n,h0,h1,h2,h3,RepE.free C.names vs f h4⟩
  | .obj c o k,r,f,e=>by
    cases o with
    |true=>exact absurd f Bool.false_ne_true
    |false=>exact e
  | .ref o k,r,f,e=>by
    cases o with
    |true=>exact absurd f Bool.false_ne_true
    |false=>exact e
theorem RepL.free{F:FH}{φ ψ ψ':List Addr}: ∀(vs:List V) {rs:List Value},freeL vs=true→RepL T P ⟨F,φ,ψ⟩ vs rs→RepL T P ⟨F,φ,ψ'⟩ vs rs
  | [],_,_,e=>e
  | v::vs,rs,f,e=>by
    have f:=(Bool.and_eq_true_iff (x:=v.free)).mp f
    obtain⟨r,rs',h1,h2,h3⟩:=e
    exact⟨r,rs',h1,Rep.free v f.1 h2,RepL.free vs f.2 h3⟩
theorem RepE.free{F:FH}{φ ψ ψ':List Addr}: ∀(ks:List Nat) (vs:List V) {es:List DictEntry},freeL vs=true→RepE T P ⟨F,φ,ψ⟩ ks vs es→RepE T P ⟨F,φ,ψ'⟩ ks vs es
  | [],[],_,_,e=>e
  | k::ks,v::vs,es,f,e=>by
    have f:=(Bool.and_eq_true_iff (x:=v.free)).mp f
    obtain⟨r,t,es',h1,h2,h3⟩:=e
    exact⟨r,t,es',h1,Rep.free v f.1 h2,RepE.free ks vs f.2 h3⟩
  | [],_::_,_,_,e=>e
  |_::_,[],_,_,e=>e
end
end
noncomputable def IntVal:Option Int→Option Value→Prop
  |some i,some r=> ∃t,r= .int i t
  |none,none=>True
  |_,_=>False
noncomputable def RepM(T:Tabs)(w:World)(g:Gh)(h:Heap)(a:Addr):Cell→Prop
  | .list vs=> ∃rs n,h.get? a=some {cls:= .type "list",data:= .seq (List.toArray rs) n}∧RepL T w.params g vs rs
  | .dict ks vs=> ∃es n,h.get? a=some (dictOf es n)∧RepE T w.params g ks vs es
  | .sdict ks vs=> ∃kvs,h.DictOf (strKind PW w) a kvs∧kvs.map (·.1)=ks.map T.nm∧RepL T w.params g vs (kvs.map (·.2))
  | .idict f n=> ∃kvs,h.DictOf (intKind PW w) a kvs∧(∀k,IntVal (f k) (valueAt kvs k))∧kvs.length≤n
section
variable {T:Tabs}{w:World}{g g':Gh}{h h':Heap}{a:Addr}
theorem RepM.there{m:Cell}(x:RepM T w g h a m): ∃o,h.get? a=some o:=by
  cases m with
  |list vs=>obtain⟨_,_,e,_⟩:=x;exact⟨_,e⟩
  |dict ks vs=>obtain⟨_,_,e,_⟩:=x;exact⟨_,e⟩
  |sdict ks vs=>obtain⟨_,⟨_,_,_,e,_⟩,_⟩:=x;exact⟨_,e⟩
  |idict f n=>obtain⟨_,⟨_,_,_,e,_⟩,_⟩:=x;exact⟨_,e⟩
theorem RepM.mono(hg:Gh.le g g')(e: ∀o,h.get? a=some o→h'.get? a=some o){m:Cell}(x:RepM T w g h a m):RepM T w g' h' a m:=by
  cases m with
  |list vs=>obtain⟨rs,n,h1,h2⟩:=x;exact⟨rs,n,e _ h1,h2.mono hg⟩
  |dict ks vs=>obtain⟨es,n,h1,h2⟩:=x;exact⟨es,n,e _ h1,h2.mono hg⟩
  |sdict ks vs=>obtain⟨kvs,⟨o,es,ep,h1,h2⟩,h3,h4⟩:=x;exact⟨kvs,⟨o,es,ep,e _ h1,h2⟩,h3,h4.mono hg⟩
  |idict f n=>obtain⟨kvs,⟨o,es,ep,h1,h2⟩,h3⟩:=x;exact⟨kvs,⟨o,es,ep,e _ h1,h2⟩,h3⟩
end
structure Gx where
  w:World
  K:Frag
  g₀:Heap
  os₀:OsState
  tab:Addr
  mb:Str→Option Value
  inK:K.In g₀
  tabK:K.lookup tab=none
  tabL: ∃o,g₀.get? tab=some o
  nb:g₀.Ns builtinsNs mb
  lim:g₀.NoLimit
  keyed: ∀x:Str,x≠"__name__"→mb x=bootBuiltins x
  offb:builtinsNs≠tab
  offs:cStatics≠tab
  sysm:(∃o,g₀.get? sysModules=some o)∧sysModules≠tab
structure StH(T:Tabs)(G:Gx)(g:Gh)(σ:Sg)(h:Heap):Prop where
  fz: ∀a o,g.F a=some o→h.get? a=some o
  cell: ∀o k m,σ.get o k=some m→ ∃a,(g.sel o)[k]? =some a∧RepM T G.w g h a m
  lrw:g.φ.length=σ.rw.length
  lown:g.ψ.length=σ.own.length
  nd:g.act.Nodup
  off: ∀a∈g.act,g.F a=none∧a≠G.tab∧ ∃o,h.get? a=some o
  base: ∀a o,G.g₀.get? a=some o→a≠G.tab→g.F a=some o
  tabs: ∃o,h.get? G.tab=some o
  free: ∀(k:Nat) (m:Cell),σ.rw[k]? =some m→m.free=true
structure St(T:Tabs)(G:Gx)(g:Gh)(σ:Sg)(s:Shared):Prop extends StH T G g σ s.heap where
  gens:s.gens= #[]
  os:s.os=G.os₀
structure Step(T:Tabs)(G:Gx)(g:Gh)(σ:Sg)(s:Shared)(g':Gh)(σ':Sg)(s':Shared):Prop where
  st:St T G g' σ' s'
  le:Gh.le g g'
  keep: ∀a o,s.heap.get? a=some o→a∉g.act→s'.heap.get? a=some o
  newF: ∀a o,s.heap.get? a=some o→g.F a=none→a∉g.act→g'.F a=none
  newA: ∀a o,s.heap.get? a=some o→a∉g.act→a∉g'.act
variable {T:Tabs}
theorem Step.refl{G g σ s}(h:St T G g σ s):Step T G g σ s g σ s:=⟨h,.refl _,fun _ _ e _=>e,fun _ _ _ e _=>e,fun _ _ _ e=>e⟩
theorem Step.trans{G g σ s g₁ σ₁ s₁ g₂ σ₂ s₂}(x:Step T G g σ s g₁ σ₁ s₁)(y:Step T G g₁ σ₁ s₁ g₂ σ₂ s₂):Step T G g σ s g₂ σ₂ s₂ where
  st:=y.st
  le:=x.le.trans y.le
  keep a o e n:=y.keep a o (x.keep a o e n) (x.newA a o e n)
  newF a o l e n:=y.newF a o (x.keep a o l n) (x.newF a o l e n) (x.newA a o l n)
  newA a o l n:=y.newA a o (x.keep a o l n) (x.newA a o l n)
theorem Step.grow{G g σ s s'}(h:St T G g σ s)(k: ∀a o,s.heap.get? a=some o→s'.heap.get? a=some o)(hg:s'.gens=s.gens)(ho:s'.os=s.os):Step T G g σ s g σ s':=
  ⟨⟨⟨fun a o e=>k _ _ (h.fz a o e),fun o c m e=>let⟨a,h1,h2⟩:=h.cell o c m e;⟨a,h1,h2.mono (.refl g) (k a)⟩,h.lrw,h.lown,h.nd,fun a m=>let⟨x,y,o,z⟩:=h.off a m;⟨x,y,o,k _ _ z⟩,
      h.base,let⟨o,e⟩:=h.tabs;⟨o,k _ _ e⟩,h.free⟩,hg.trans h.gens,ho.trans h.os⟩,.refl _,fun _ _ e _=>k _ _ e,fun _ _ _ e _=>e,fun _ _ _ e=>e⟩
theorem Step.toks{G g σ s}(h:St T G g σ s)(t:Nat):Step T G g σ s g σ {s with toks:=t}:=Step.grow h (fun _ _ e=>e) rfl rfl
noncomputable def FH.put(F:FH)(a:Addr)(o:Obj):FH:=fun b=>if b=a then some o else F b
theorem FH.le_put{F:FH}{a:Addr}{o:Obj}(n:F a=none):FH.le F (F.put a o):=fun b o' e=>by
  unfold FH.put
  by_cases hb:b=a
  · subst hb;rw [n] at e;cases e
  · rw [if_neg hb];exact e
theorem St.newF{G g σ s}(h:St T G g σ s){a:Addr}(l:s.heap.objs.size≤a):g.F a=none:=by
  cases q:g.F a with
  |none=>rfl
  |some m=>exact absurd (Heap.lt_size (h.fz _ _ q)) (Nat.not_lt.mpr l)
theorem St.newA{G g σ s}(h:St T G g σ s){a:Addr}(l:s.heap.objs.size≤a):a∉g.act:=fun m=>absurd (let⟨_,e⟩:=(h.off a m).2.2;Heap.lt_size e) (Nat.not_lt.mpr l)
theorem St.tab_lt{G g σ s}(h:St T G g σ s):G.tab<s.heap.objs.size:=let⟨_,e⟩:=h.tabs;Heap.lt_size e
theorem none_size(h:Heap):h.get? h.objs.size=none:=by
  cases q:h.get? h.objs.size with
  |none=>rfl
  |some o=>exact absurd (Heap.lt_size q) (Nat.lt_irrefl _)
theorem Step.fresh{G g σ s s'}(h:St T G g σ s){a:Addr}{o:Obj}(ha:s.heap.get? a=none)(ho:s'.heap.get? a=some o)(k: ∀b o,s.heap.get? b=some o→s'.heap.get? b=some o)(hg:s'.gens=s.gens)(hos:s'.os=s.os):
    Step T G g σ s ⟨g.F.put a o,g.φ,g.ψ⟩ σ s':=by
  have n:g.F a=none:=by
    cases q:g.F a with
    |none=>rfl
    |some m=>have:=h.fz _ _ q;rw [ha] at this;cases this
  have le:Gh.le g ⟨g.F.put a o,g.φ,g.ψ⟩:=⟨FH.le_put n,fun _ _ e=>e,fun _ _ e=>e⟩
  have put: ∀b ob,s.heap.get? b=some ob→g.F b=none→(g.F.put a o) b=none:=fun b ob l e=>by
    have hb:b≠a:=fun q=>by rw [q,ha] at l;cases l
    unfold FH.put;rw [if_neg hb];exact e
  refine⟨⟨⟨fun b o' e=>?_,fun o c m e=>?_,h.lrw,h.lown,h.nd,fun a m=>?_,fun b o' e ht=>le.F _ _ (h.base b o' e ht),let⟨o,e⟩:=h.tabs;⟨o,k _ _ e⟩,h.free⟩,hg.trans h.gens,hos.trans h.os⟩,le,fun _ _ e _=>k _ _ e,fun b ob l f _=>put b ob l f,fun _ _ _ q=>q⟩
  · change (g.F.put a o) b=some o' at e
    unfold FH.put at e
    by_cases hb:b=a
    · subst hb;rw [if_pos rfl] at e;cases e;exact ho
    · rw [if_neg hb] at e;exact k _ _ (h.fz _ _ e)
  · obtain ⟨a,h1,h2⟩:=h.cell o c m e
    exact⟨a,by cases o<;>exact h1,h2.mono le (k a)⟩
  · obtain ⟨x,y,ob,z⟩:=h.off a m
    exact⟨put a ob z x,y,ob,k _ _ z⟩
theorem Step.push{G g σ s}(h:St T G g σ s){o:Obj}(hf:o.isFreed=false){t:Nat}:Step T G g σ s ⟨g.F.put s.heap.objs.size o,g.φ,g.ψ⟩ σ {s with heap:=s.heap.push o,toks:=t}:=
  Step.fresh h (none_size _) (Heap.get?_push_size _ hf) (fun _ _ e=>Heap.get?_push_of_some o e) rfl rfl
theorem Sg.get_new {σ:Sg} {o:Bool} {m:Cell} {o':Bool} {k:Nat} {m':Cell} (e:(σ.new o m).get o' k=some m'):σ.get o' k=some m'∨(o'=o∧k=σ.nxt o∧m'=m):=by
  have key: ∀(l:List Cell),(l++ [m])[k]? =some m'→l[k]? =some m'∨(k=l.length∧m'=m):=fun l e=>by
    by_cases hk:k<l.length
    · rw [List.getElem?_append_left hk] at e;exact .inl e
    · rw [List.getElem?_append_right (Nat.le_of_not_lt hk)] at e
      have:k-l.length=0:=by
        rcases Nat.lt_or_ge 0 (k-l.length) with q |q
        · rw [List.getElem?_eq_none (by simp only [List.length_cons,List.length_nil];omega)] at e;cases e
        · omega
      rw [this] at e
      exact .inr ⟨by omega,by simpa using e.symm⟩
  cases o<;>cases o'<;>simp only [Sg.new,Sg.get,Sg.nxt] at e ⊢ <;>first |exact .inl e |(rcases key _ e with h |⟨h1,h2⟩<;>simp [h1,h2];done)|(rcases key _ e with h |⟨h1,h2⟩;exact .inl h;exact .inr ⟨trivial,h1,h2⟩)
noncomputable def Gh.addr(g:Gh)(o:Bool)(a:Addr):Gh:=match o with |true=>⟨g.F,g.φ,g.ψ++ [a]⟩ |false=>⟨g.F,g.φ++ [a],g.ψ⟩
theorem Gh.le_addr(g:Gh)(o:Bool)(a:Addr):Gh.le g (g.addr o a):=by
  have key: ∀(l:List Addr) (k:Nat) (b:Addr),l[k]? =some b→(l++ [a])[k]? =some b:=fun l k b e=>by
    rw [List.getElem?_append_left (List.getElem?_eq_some_iff.mp e).1];exact e
  cases o with
  |true=>exact⟨.refl _,fun _ _ e=>e,key _⟩
  |false=>exact⟨.refl _,key _,fun _ _ e=>e⟩
theorem Gh.mem_addr{g:Gh}{o:Bool}{a b:Addr}:b∈(g.addr o a).act↔b=a∨b∈g.act:=by
  cases o<;>simp only [Gh.addr,Gh.act,List.mem_append,List.mem_singleton]
  · exact⟨fun h=>h.elim (fun h=>h.elim (fun h=> .inr (.inl h)) .inl) fun h=> .inr (.inr h),fun h=>h.elim (fun h=> .inl (.inr h)) fun h=>h.elim (fun h=> .inl (.inl h)) .inr⟩
  · exact⟨fun h=>h.elim (fun h=> .inr (.inl h)) fun h=>h.elim (fun h=> .inr (.inr h)) .inl,fun h=>h.elim (fun h=> .inr (.inr h)) fun h=>h.elim .inl fun h=> .inr (.inl h)⟩
theorem Step.cellAt {G g σ s s'} (h:St T G g σ s) (o:Bool) {m:Cell} {d:Addr} (hd:s.heap.get? d=none) (k: ∀a o',s.heap.get? a=some o'→s'.heap.get? a=some o') (hm:RepM T G.w g s'.heap d m) (hfr:(o||m.free)=true) (hg:s'.gens=s.gens) (hos:s'.os=s.os):
    Step T G g σ s (g.addr o d) (σ.new o m) s'∧((g.addr o d).sel o)[σ.nxt o]? =some d:=by
  have le:=Gh.le_addr g o d
  have at_:((g.addr o d).sel o)[σ.nxt o]? =some d:=by
    cases o with
    |true=>simp only [Gh.addr,Gh.sel,Sg.nxt];rw [←h.lown];simp
    |false=>simp only [Gh.addr,Gh.sel,Sg.nxt];rw [←h.lrw];simp
  have hF:(g.addr o d).F=g.F:=by cases o<;>rfl
  have nd':d∉g.act:=fun q=>by obtain⟨_,e⟩:=(h.off d q).2.2;rw [hd] at e;cases e
  refine⟨⟨⟨⟨fun b o' e=>k _ _ (h.fz _ _ (hF▸e)),fun o' c m' e=>?_,?_,?_,?_,fun a ma=>?_,fun b o' e ht=>hF▸h.base b o' e ht,let⟨o,e⟩:=h.tabs;⟨o,k _ _ e⟩,fun k m' e=>?_⟩,hg.trans h.gens,hos.trans h.os⟩,le,fun _ _ e _=>k _ _ e,fun b _ l f _=>hF▸f,fun b _ l q=>?_⟩,at_⟩
  · rcases Sg.get_new e with e |⟨rfl,rfl,rfl⟩
    · obtain ⟨a,h1,h2⟩:=h.cell o' c m' e
      exact⟨a,le.sel _ h1,h2.mono le (k a)⟩
    · exact⟨_,at_,hm.mono le fun _ e=>e⟩
  · cases o<;>simp [Gh.addr,Sg.new,h.lrw]
  · cases o<;>simp [Gh.addr,Sg.new,h.lown]
  · have nd:=h.nd
    cases o with
    | true=>
      show(g.φ++(g.ψ++ [_])).Nodup
      rw [←List.append_assoc,List.nodup_append]
      exact⟨nd,by simp,fun a ha b hb=>by simp at hb;subst hb;exact fun e=>nd' (e▸ha)⟩
    | false=>
      show((g.φ++ [_])++g.ψ).Nodup
      have p:((g.φ++ [d])++g.ψ).Perm (d::(g.φ++g.ψ)):=by
        rw [List.append_assoc];exact List.perm_middle
      exact p.nodup_iff.mpr (List.nodup_cons.mpr ⟨nd',nd⟩)
  · rcases Gh.mem_addr.mp ma with rfl |ma
    · obtain ⟨o',ho'⟩:=hm.there
      have fn:g.F a=none:=by
        cases q:g.F a with
        |none=>rfl
        |some m=>have:=h.fz _ _ q;rw [hd] at this;cases this
      exact⟨hF▸fn,fun e=>(by obtain⟨_,t⟩:=h.tabs;rw [←e,hd] at t;cases t),o',ho'⟩
    · obtain ⟨x,y,o',z⟩:=h.off a ma
      exact⟨hF▸x,y,o',k _ _ z⟩
  · rcases Sg.get_new (σ:=σ) (o':=false) e with e |⟨h1,_,rfl⟩
    · exact h.free k m' e
    · subst h1;simpa using hfr
  · exact fun q'=>(Gh.mem_addr.mp q').elim (fun e=>(by rw [e,hd] at l;cases l)) q
theorem Step.made{G g σ s}(h:St T G g σ s)(o:Bool){ob:Obj}{m:Cell}{t:Nat}(hm:RepM T G.w g (s.heap.push ob) s.heap.objs.size m)(hfr:(o||m.free)=true):
    Step T G g σ s (g.addr o s.heap.objs.size) (σ.new o m) {s with heap:=s.heap.push ob,toks:=t}∧((g.addr o s.heap.objs.size).sel o)[σ.nxt o]? =some s.heap.objs.size:=
  Step.cellAt h o (none_size _) (fun _ _ e=>Heap.get?_push_of_some ob e) hm hfr rfl rfl
theorem Gh.sel_mem{g:Gh}{o:Bool}{k:Nat}{a:Addr}(e:(g.sel o)[k]? =some a):a∈g.act:=by
  have:=List.mem_of_getElem? e
  cases o with
  |true=>exact List.mem_append_right _ this
  |false=>exact List.mem_append_left _ this
theorem Gh.sel_inj{g:Gh}(nd:g.act.Nodup){o o':Bool}{k k':Nat}{a:Addr}(e:(g.sel o)[k]? =some a)(e':(g.sel o')[k']? =some a):o=o'∧k=k':=by
  have nd':=List.nodup_append.mp nd
  have one: ∀{l:List Addr},l.Nodup→l[k]? =some a→l[k']? =some a→k=k':=fun{l} n e e'=>by
    obtain⟨h1,e1⟩:=List.getElem?_eq_some_iff.mp e
    obtain⟨h2,e2⟩:=List.getElem?_eq_some_iff.mp e'
    exact(List.getElem_inj n).mp (e1.trans e2.symm)
  cases o<;>cases o'<;>simp only [Gh.sel] at e e'
  · exact⟨rfl,one nd'.1 e e'⟩
  · exact absurd rfl (nd'.2.2 a (List.mem_of_getElem? e) a (List.mem_of_getElem? e'))
  · exact absurd rfl (nd'.2.2 a (List.mem_of_getElem? e') a (List.mem_of_getElem? e))
  · exact⟨rfl,one nd'.2.1 e e'⟩
theorem Sg.get_set{σ:Sg}{o:Bool}{k:Nat}{m:Cell}{o':Bool}{k':Nat}{m':Cell}(e:(σ.set o k m).get o' k'=some m'):(σ.get o' k'=some m'∧ ¬(o'=o∧k'=k))∨(o'=o∧k'=k∧m'=m):=by
  have key: ∀(l:List Cell),(l.set k m)[k']? =some m'→(l[k']? =some m'∧k'≠k)∨(k'=k∧m'=m):=fun l z=>by
    rw [List.getElem?_set] at z
    by_cases q:k=k'
    · subst q
      rw [if_pos rfl] at z
      by_cases q:k<l.length
      · rw [if_pos q] at z;cases z;exact .inr ⟨rfl,rfl⟩
      · rw [if_neg q] at z;cases z
    · rw [if_neg q] at z;exact .inl ⟨z,fun w=>q w.symm⟩
  cases o<;>cases o'<;>simp only [Sg.set,Sg.get] at e ⊢
  · rcases key _ e with⟨a,b⟩ |⟨a,b⟩
    · exact .inl ⟨a,fun z=>b z.2⟩
    · exact .inr ⟨trivial,a,b⟩
  · exact .inl ⟨e,fun z=>by cases z.1⟩
  · exact .inl ⟨e,fun z=>by cases z.1⟩
  · rcases key _ e with⟨a,b⟩ |⟨a,b⟩
    · exact .inl ⟨a,fun z=>b z.2⟩
    · exact .inr ⟨trivial,a,b⟩
theorem Step.turn{G g σ s}(h:St T G g σ s){o:Bool}{k:Nat}{a:Addr}{h':Heap}{m':Cell}{t:Nat}(ha:(g.sel o)[k]? =some a)(hs:Heap.SameBut a s.heap h')(hm:RepM T G.w g h' a m')(hfr:(o||m'.free)=true):
    Step T G g σ s g (σ.set o k m') {s with heap:=h',toks:=t}:=by
  have mem:=Gh.sel_mem ha
  have n:=(h.off a mem).1
  refine⟨⟨⟨fun b o' e=>?_,fun o₂ k₂ m₂ e=>?_,by cases o<;>simp [Sg.set,h.lrw],by cases o<;>simp [Sg.set,h.lown],h.nd,fun b mb=>?_,h.base,?_,fun j m₂ e=>?_⟩,h.gens,h.os⟩,.refl _,fun b o e q=>?_,fun _ _ _ f _=>f,fun _ _ _ q=>q⟩
  · exact(hs.2 b (fun q=>by subst q;rw [n] at e;cases e)).trans (h.fz _ _ e)
  · rcases Sg.get_set e with⟨e,ne⟩ |⟨rfl,rfl,rfl⟩
    · obtain ⟨b,h1,h2⟩:=h.cell o₂ k₂ m₂ e
      exact⟨b,h1,h2.mono (.refl g) fun o e=>(hs.2 b fun q=>by subst q;exact ne (Gh.sel_inj h.nd h1 ha)).trans e⟩
    · exact⟨a,ha,hm⟩
  · obtain ⟨x,y,o',z⟩:=h.off b mb
    by_cases hb:b=a
    · subst hb;exact⟨x,y,hm.there⟩
    · exact⟨x,y,o',(hs.2 b hb).trans z⟩
  · obtain ⟨o,e⟩:=h.tabs
    exact⟨o,(hs.2 _ (fun q=>(h.off a mem).2.1 q.symm)).trans e⟩
  · rcases Sg.get_set (σ:=σ) (o':=false) e with⟨e,_⟩ |⟨h1,_,rfl⟩
    · exact h.free j m₂ e
    · subst h1;simpa using hfr
  · exact(hs.2 b (fun z=>q (z▸mem))).trans e
theorem freeL_app: ∀{vs ws:List V},freeL (vs++ws)=(freeL vs&&freeL ws)
  | [],_=>rfl
  |v::vs,ws=>by simp only [List.cons_append,freeL,freeL_app (vs:=vs),Bool.and_assoc]
theorem freeL_mem: ∀{vs:List V},freeL vs=true↔ ∀v∈vs,v.free=true
  | [] =>by simp [freeL]
  |v::vs=>by simp [freeL,freeL_mem (vs:=vs)]
end Mine
namespace Mine
noncomputable def nmOf(T:Tabs)(l:List Nat)(i:Nat):Str:=T.nm (l.getD i 0)
noncomputable def BM.name:BM→Str
  | .append=>"append" | .reverse=>"reverse" | .remove=>"remove" | .index=>"index" | .split0=>"split" | .split1=>"split" | .starts=>"startswith" | .get=>"get"
noncomputable def onLine(q p:Pos):Pos:=⟨q.line,q.col,p.line,q.endCol⟩
noncomputable def erKeys(T:Tabs)(xs:List (Nat×Nat×Pos)):List (Option PySem.Expr):=xs.map fun x=>some (.Constant (.str (T.nm x.1)) x.2.1 x.2.2)
mutual
noncomputable def erE(T:Tabs)(fn:Fn):Ex→PySem.Expr
  | .loc i p=> .Name (nmOf T fn.ns i) p
  | .glob i p=> .Name (nmOf T fn.gs i) p
  | .int i k p=> .Constant (.int i) k p
  | .str x k p=> .Constant (.str (T.nm x)) k p
  | .bool b k p=> .Constant (.bool b) k p
  | .none k p=> .Constant .none k p
  | .bin op a b p=> .BinOp (erE T fn a) op (erE T fn b) p
  | .mulM _ a b p=> .BinOp (erE T fn a) .Mult (erE T fn b) p
  | .neg a p=> .UnaryOp .USub (erE T fn a) p
  | .not a p=> .UnaryOp .Not (erE T fn a) p
  | .cmp op a b p=> .Compare (erE T fn a) [op] [erE T fn b] p
  | .cmp2 op op' a b c p=> .Compare (erE T fn a) [op,op'] [erE T fn b,erE T fn c] p
  | .and es p=> .BoolOp .And (erL T fn es) p
  | .or es p=> .BoolOp .Or (erL T fn es) p
  | .ite t a b p=> .IfExp (erE T fn t) (erE T fn a) (erE T fn b) p
  | .tup es k p=> .Tuple (erL T fn es) k p
  | .lst es p=> .List (erL T fn es) p
  | .lstM _ es p=> .List (erL T fn es) p
  | .dictI _ p=> .Dict [] [] p
  | .dictS _ xs es p=> .Dict (erKeys T xs) (erL T fn es) p
  | .attr a x p=> .Attribute (erE T fn a) (T.nm x) p
  | .sub a b p=> .Subscript (erE T fn a) (erE T fn b) p
  | .slcTo a h q p=> .Subscript (erE T fn a) (.Slice none (some (erE T fn h)) none q) p
  | .slcOn a l q p=> .Subscript (erE T fn a) (.Slice (some (erE T fn l)) none none q) p
  | .call f es p=> .Call (erE T fn f) (erL T fn es) [] p
  | .meth a x es q p=> .Call (.Attribute (erE T fn a) (T.nm x) (onLine q p)) (erL T fn es) [] p
  | .bm m a es q p=> .Call (.Attribute (erE T fn a) m.name (onLine q p)) (erL T fn es) [] p
  | .comp1 e x y q1 q2 q3 q4 p=> .ListComp (.Call (.Name (T.nm y) q1) [.Name (T.nm x) q2] [] q3) [⟨.Name (T.nm x) q4,erE T fn e,[],0⟩]
      {kind:= .function,names:= [(Str.ofString ".0",.local),(T.nm x,.local),(T.nm y,.globalImplicit)],isGenerator:=false,isCoroutine:=false,more:= []} p
noncomputable def erL(T:Tabs)(fn:Fn):List Ex→List PySem.Expr
  | [] => []
  |e::es=>erE T fn e::erL T fn es
end
noncomputable def erT(T:Tabs)(fn:Fn):Tg→PySem.Expr
  | .loc i p=> .Name (nmOf T fn.ns i) p
  | .attr a x p=> .Attribute (erE T fn a) (T.nm x) p
  | .sub a b p=> .Subscript (erE T fn a) (erE T fn b) p
mutual
noncomputable def erS(T:Tabs)(fn:Fn):Sx→Stmt
  | .asg t e p=> .Assign [erT T fn t] (erE T fn e) p
  | .asgT ts k q e p=> .Assign [.Tuple (ts.map (erT T fn)) k q] (erE T fn e) p
  | .asgW i j qi qj k q a b ke pe p=> .Assign [.Tuple [.Name (nmOf T fn.ns i) qi,.Name (nmOf T fn.ns j) ⟨qi.line,qj.col,qj.endLine,qj.endCol⟩] k q] (.Tuple [erE T fn a,erE T fn b] ke pe) p
  | .asgW3 i j l qi qj ql k q a b c ke pe p=> .Assign [.Tuple [.Name (nmOf T fn.ns i) qi,.Name (nmOf T fn.ns j) ⟨qi.line,qj.col,qj.endLine,qj.endCol⟩,.Name (nmOf T fn.ns l) ⟨qi.line,ql.col,ql.endLine,ql.endCol⟩] k q] (.Tuple [erE T fn a,erE T fn b,erE T fn c] ke pe) p
  | .asgC i q e x q1 q2 q3 q4 q5 k c p=> .Assign [.Name (nmOf T fn.ns i) q] (.ListComp (.Name (T.nm x) q1) [⟨.Name (T.nm x) q2,erE T fn e,[.Compare (.Name (T.nm x) q3) [.NotEq] [.Constant (.str (T.nm T.empty)) k q4] q5],0⟩]
      {kind:= .function,names:= [(Str.ofString ".0",.local),(T.nm x,.local)],isGenerator:=false,isCoroutine:=false,more:= []} ⟨q.line,c.col,c.endLine,c.endCol⟩) p
  | .ex e p=> .Expr (erE T fn e) p
  | .ret e p=> .Return (some (erE T fn e)) p
  | .ret0 p=> .Return none p
  | .ifs t b c p=> .If (erE T fn t) (erSs T fn b) (erSs T fn c) p
  | .whl t b p=> .While (erE T fn t) (erSs T fn b) [] p
  | .for i q e b p=> .For (.Name (nmOf T fn.ns i) q) (erE T fn e) (erSs T fn b) [] p
  | .raise e p=> .Raise (some (erE T fn e)) none p
noncomputable def erSs(T:Tabs)(fn:Fn):List Sx→List Stmt
  | [] => []
  |s::ss=>erS T fn s::erSs T fn ss
end
noncomputable def GloOk(T:Tabs)(K:Frag)(x:Nat)(v:V):Prop:=
  ∃r,(nsIn K mainGlobals (T.nm x)=some (some r)∨(nsIn K mainGlobals (T.nm x)=some none∧bootBuiltins (T.nm x)=some r∧T.nm x≠"__name__"))∧ ∀P g,Rep T P g v r
structure Off(G:Gx)(l:List Env)(g:Gh)(s:Shared):Prop where
  frames:s.heap.FunFrames G.g₀ l
  off: ∀a∈l.filterMap (·.frame),g.F a=none∧a∉g.act
variable {T:Tabs}
theorem Off.step{G l g σ s g' σ' s'}(x:Off G l g s)(y:Step T G g σ s g' σ' s'):Off G l g' s':=by
  have key: ∀{l:List Env},s.heap.FunFrames G.g₀ l→(∀a∈l.filterMap (·.frame),g.F a=none∧a∉g.act)→s'.heap.FunFrames G.g₀ l:=by
    intro l
    induction l with
    |nil=>intro _ _;trivial
    | cons e r ih=>
      rintro ⟨hk,⟨L,o,hf,hn,ho,hd⟩,hr⟩ h
      rw [List.filterMap_cons,hf] at h
      exact⟨hk,⟨L,o,hf,hn,y.keep _ _ ho (h L (.head _)).2,hd⟩,ih hr fun a ha=>h a (.tail _ ha)⟩
  refine⟨key x.frames x.off,fun a ha=>?_⟩
  obtain⟨_,o,ho,_⟩:=x.frames.mem ha
  obtain⟨h1,h2⟩:=x.off a ha
  exact⟨y.newF a o ho h1 h2,y.newA a o ho h2⟩
structure CxS(T:Tabs)(G:Gx)(fn:Fn) where
  A:Around
  env:Env
  outer:List Env
  frs:List Env
  out:Bool
  cel:Nat→Option (Bool×Addr)
  priv:List Addr
  frames:A.frames=some frs
  hfrs:out=false→frs=env::outer
  handled:A.handled=none
  kind:env.scope.kind= .function
  glob:env.globals=mainGlobals
  blt:env.builtins=builtinsNs
  frame:out=false→env.frame=some env.locals
  loc: ∀i,i<fn.ns.length→cel i=none→env.kindOf (nmOf T fn.ns i)=some .local
  cll: ∀i o a,i<fn.ns.length→cel i=some (o,a)→env.kindOf (nmOf T fn.ns i)=some (if o then .cell else .free)∧env.cells.lookup (nmOf T fn.ns i)=some a
  clIn: ∀i,i<fn.ns.length→fn.cl.contains i=(cel i).isSome
  clNe: ∀i o a,cel i=some (o,a)→a≠env.locals
  clInj: ∀i j o o' a,cel i=some (o,a)→cel j=some (o',a)→i=j
  privL:env.locals∈priv
  privC: ∀i a,cel i=some (true,a)→a∈priv
  privO: ∀i a,cel i=some (false,a)→a∉priv
  hidP:out=false→ ∀a∈priv,a∈(env::outer).filterMap (·.frame)
  glo: ∀i v,fn.gv[i]? =some v→env.kindOf (nmOf T fn.gs i)=some .globalImplicit∧GloOk T G.K (fn.gs.getD i 0) v
  nosup:env.kindOf "super"≠some .globalImplicit
  nodbg: ∀k,(T.nm k==("__debug__":Str))=false
  nocd: ∀k,(T.nm k==("__classdict__":Str))=false
  inj: ∀i j,i<fn.ns.length→j<fn.ns.length→nmOf T fn.ns i=nmOf T fn.ns j→i=j
structure Cx(T:Tabs)(G:Gx)(fn:Fn)(n:Nat) extends CxS T G fn where
  depth:A.depth+2*n≤800
  units:A.units+8*n≤800
noncomputable def Holds{G:Gx}{fn:Fn}{n:Nat}(C:Cx T G fn n)(h:Heap)(m:Str→Option Value)(i:Nat)(r:Value):Prop:=match C.cel i with
  |none=>m (nmOf T fn.ns i)=some r
  |some (_,a)=> ∃o,h.get? a=some o∧o.data= .cell (some r)
noncomputable def Loc{G:Gx}{fn:Fn}{n:Nat}(C:Cx T G fn n)(g:Gh)(h:Heap)(m:Str→Option Value)(ρ:List (Option V)):Prop:=
  ρ.length=fn.ns.length∧ ∀i v,ρ[i]? =some (some v)→ ∃r,Holds C h m i r∧Rep T G.w.params g v r
noncomputable def Mine1(G:Gx)(g:Gh)(h:Heap)(a:Addr):Prop:=g.F a=none∧a∉g.act∧G.g₀.get? a=none∧ ∃o,h.get? a=some o∧ ∀vs,o.data≠ .fields vs
structure Fm{G:Gx}{fn n}(C:Cx T G fn n)(g:Gh)(ρ:List (Option V))(s:Shared):Prop where
  off:Off G C.frs g s
  own: ∀a∈C.priv,Mine1 G g s.heap a
  cells: ∀i o a,C.cel i=some (o,a)→Mine1 G g s.heap a∧ ∃ob v,s.heap.get? a=some ob∧ob.data= .cell v
  loc: ∃m,s.heap.Ns C.env.locals m∧Loc C g s.heap m ρ
theorem Mine1.step{G g h a σ s g' σ' s'}(x:Mine1 G g h a)(e:h=s.heap)(y:Step T G g σ s g' σ' s'):Mine1 G g' s'.heap a:=by
  subst e
  obtain⟨h1,h2,h3,o,h4,h5⟩:=x
  exact⟨y.newF a o h4 h1 h2,y.newA a o h4 h2,h3,o,y.keep a o h4 h2,h5⟩
theorem Holds.step{G fn n}{C:Cx T G fn n}{h h':Heap}{m i r}(x:Holds C h m i r)(k: ∀o a ob,C.cel i=some (o,a)→h.get? a=some ob→h'.get? a=some ob):Holds C h' m i r:=by
  unfold Holds at x ⊢
  cases q:C.cel i with
  |none=>rw [q] at x;exact x
  | some p=>
    obtain⟨o,a⟩:=p
    rw [q] at x
    obtain⟨ob,h1,h2⟩:=x
    exact⟨ob,k _ _ _ q h1,h2⟩
theorem Fm.step{G fn n}{C:Cx T G fn n}{g σ ρ s g' σ' s'}(x:Fm C g ρ s)(y:Step T G g σ s g' σ' s'):Fm C g' ρ s':=by
  refine⟨x.off.step y,fun a ha=>(x.own a ha).step rfl y,fun i o a e=>?_,?_⟩
  · obtain ⟨h1,ob,v,h2,h3⟩:=x.cells i o a e
    exact⟨h1.step rfl y,ob,v,y.keep a ob h2 h1.2.1,h3⟩
  · obtain ⟨m,⟨o,es,ep,ho,r⟩,hl⟩:=x.loc
    exact⟨m,⟨o,es,ep,y.keep _ _ ho (x.own _ C.privL).2.1,r⟩,hl.1,fun i v e=>let⟨r,h1,h2⟩:=hl.2 i v e;⟨r,h1.step fun o a ob q hq=>y.keep a ob hq (x.cells i o a q).1.2.1,h2.mono y.le⟩⟩
structure Land(T:Tabs)(G:Gx)(hid:List Addr)(g:Gh)(h:Heap)(g':Gh)(σ':Sg)(B:Heap):Prop where
  st:StH T G g' σ' B
  le:Gh.le g g'
  keep: ∀a o,h.get? a=some o→a∉g.act→a∉hid→B.get? a=some o
  newF: ∀a o,h.get? a=some o→g.F a=none→a∉g.act→g'.F a=none
  newA: ∀a o,h.get? a=some o→a∉g.act→a∉g'.act
inductive OkP(T:Tabs){α:Type}(G:Gx)(g:Gh)(σ:Sg)(s:Shared)(rep:Gh→α→Value→Prop)(r:R α)(v:Value)(s':Shared):Prop where
  |mk (g':Gh) (σ':Sg) (x:α) (h1:Step T G g σ s g' σ' s') (h2:rep g' x v∧r= .ok x σ')
inductive ExP(T:Tabs){α:Type}(G:Gx)(l:List Env)(hid:List Addr)(g:Gh)(s:Shared)(r:R α)(e:Value)(s':Shared):Prop where
  |mk (g':Gh) (σ':Sg) (c:Nat) (B:Heap) (x:Addr) (a0:Value) (h1:e= .ref x) (h2:Land T G hid g s.heap g' σ' B) (h3:Heap.FlyingW B l x (.ref (T.clsAddr c)) a0 s'.heap∧s'.gens= #[] ∧s'.os=G.os₀∧r= .exc c σ')
theorem Land.from{G hid g σ s g₁ σ₁ s₁ g' σ' B}(x:Step T G g σ s g₁ σ₁ s₁)(y:Land T G hid g₁ s₁.heap g' σ' B):Land T G hid g s.heap g' σ' B where
  st:=y.st
  le:=x.le.trans y.le
  keep a o e n m:=y.keep a o (x.keep a o e n) (x.newA a o e n) m
  newF a o l e n:=y.newF a o (x.keep a o l n) (x.newF a o l e n) (x.newA a o l n)
  newA a o l n:=y.newA a o (x.keep a o l n) (x.newA a o l n)
theorem OkP.trans{α:Type}{G g σ s g₁ σ₁ s₁ v s'}{rep:Gh→α→Value→Prop}{r:R α}(x:Step T G g σ s g₁ σ₁ s₁):OkP T G g₁ σ₁ s₁ rep r v s'→OkP T G g σ s rep r v s':=
  fun⟨g',σ',v,h1,h2,h3⟩=>⟨g',σ',v,x.trans h1,h2,h3⟩
theorem ExP.trans{α:Type}{G l hid g σ s g₁ σ₁ s₁ e s'}{r:R α}(x:Step T G g σ s g₁ σ₁ s₁):ExP T G l hid g₁ s₁ r e s'→ExP T G l hid g s r e s':=
  fun⟨g',σ',c,B,a,a0,h1,h2,h3⟩=>⟨g',σ',c,B,a,a0,h1,h2.from x,h3⟩
theorem ExP.as{α β:Type}{G l hid g s e s'}{r:R α}{q:R β}(h: ∀c σ',r= .exc c σ'→q= .exc c σ')(x:ExP T G l hid g s r e s'):ExP T G l hid g s q e s':=by
  obtain⟨g',σ',c,B,x,a0,h1,h2,h3,h4,h5,h6⟩:=x
  exact⟨g',σ',c,B,x,a0,h1,h2,h3,h4,h5,h _ _ h6⟩
noncomputable def framesOf(l:List Env):List Addr:=l.filterMap (·.frame)
noncomputable def ExF{G:Gx}{fn:Fn}{n:Nat}{α:Type}(C:Cx T G fn n)(g:Gh)(s:Shared)(r:R α):Value→Shared→Prop:=
  fun e s'=>match C.out with
    |true=> ∃c σ',r= .exc c σ'
    |false=>wpAny (model PW G.w) C.A («leaving» C.env e) (fun _ s''=>ExP T G C.outer (framesOf (C.env::C.outer)) g s r e s'') (fun e' s''=>ExP T G C.outer (framesOf (C.env::C.outer)) g s r e' s'') s'
theorem ExF.trans{α:Type}{G:Gx}{fn:Fn}{n:Nat}{C:Cx T G fn n}{g σ s g₁ σ₁ s₁ e s'}{r:R α}(h:ExF C g₁ s₁ r e s')(x:Step T G g σ s g₁ σ₁ s₁):ExF C g s r e s':=by
  unfold ExF at h ⊢
  split
  · rename_i q;rw [q] at h;exact h
  · rename_i q;rw [q] at h;exact wpAny_mono h (fun _ _ p=>p.trans x) fun _ _ p=>p.trans x
theorem ExF.as{α β:Type}{G:Gx}{fn:Fn}{n:Nat}{C:Cx T G fn n}{g s e s'}{r:R α}{q:R β}(p:ExF C g s r e s')(h: ∀c σ',r= .exc c σ'→q= .exc c σ'):ExF C g s q e s':=by
  unfold ExF at p ⊢
  split
  · rename_i z;rw [z] at p;obtain⟨c,σ',k⟩:=p;exact⟨c,σ',h _ _ k⟩
  · rename_i z;rw [z] at p;exact wpAny_mono p (fun _ _ p=>p.as h) fun _ _ p=>p.as h
structure StepL(T:Tabs)(G:Gx)(L:List Addr)(g:Gh)(σ:Sg)(s:Shared)(g':Gh)(σ':Sg)(s':Shared):Prop where
  st:St T G g' σ' s'
  le:Gh.le g g'
  keep: ∀a o,s.heap.get? a=some o→a∉g.act→a∉L→s'.heap.get? a=some o
  newF: ∀a o,s.heap.get? a=some o→g.F a=none→a∉g.act→g'.F a=none
  newA: ∀a o,s.heap.get? a=some o→a∉g.act→a∉g'.act
  live: ∀a∈L,∀o,s.heap.get? a=some o→ ∃o',s'.heap.get? a=some o'
theorem Step.toL{G:Gx}{L g σ s g' σ' s'}(x:Step T G g σ s g' σ' s')(hL: ∀a∈L,a∉g.act):StepL T G L g σ s g' σ' s':=⟨x.st,x.le,fun a o e n _=>x.keep a o e n,x.newF,x.newA,fun a m o e=>⟨o,x.keep a o e (hL a m)⟩⟩
theorem StepL.trans{G:Gx}{L g σ s g₁ σ₁ s₁ g₂ σ₂ s₂}(x:StepL T G L g σ s g₁ σ₁ s₁)(y:StepL T G L g₁ σ₁ s₁ g₂ σ₂ s₂):StepL T G L g σ s g₂ σ₂ s₂ where
  st:=y.st
  le:=x.le.trans y.le
  keep a o e n m:=y.keep a o (x.keep a o e n m) (x.newA a o e n) m
  newF a o l e n:=by
    by_cases q:a∈L
    · obtain⟨o',l'⟩:=x.live a q o l;exact y.newF a o' l' (x.newF a o l e n) (x.newA a o l n)
    · exact y.newF a o (x.keep a o l n q) (x.newF a o l e n) (x.newA a o l n)
  newA a o l n:=by
    by_cases q:a∈L
    · obtain⟨o',l'⟩:=x.live a q o l;exact y.newA a o' l' (x.newA a o l n)
    · exact y.newA a o (x.keep a o l n q) (x.newA a o l n)
  live a m o e:=let⟨o',e'⟩:=x.live a m o e;y.live a m o' e'
theorem StepL.close{G:Gx}{L g σ s g' σ' s'}(x:StepL T G L g σ s g' σ' s')(h: ∀a∈L,s.heap.get? a=none):Step T G g σ s g' σ' s':=⟨x.st,x.le,fun a o e n=>x.keep a o e n (fun q=>(by rw [h a q] at e;cases e)),x.newF,x.newA⟩
theorem Land.fromL{G:Gx}{L hid g σ s g₁ σ₁ s₁ g' σ' B}(hL: ∀a∈L,a∈hid)(x:StepL T G L g σ s g₁ σ₁ s₁)(y:Land T G hid g₁ s₁.heap g' σ' B):Land T G hid g s.heap g' σ' B where
  st:=y.st
  le:=x.le.trans y.le
  keep a o e n m:=y.keep a o (x.keep a o e n fun q=>m (hL a q)) (x.newA a o e n) m
  newF a o l e n:=by
    by_cases q:a∈L
    · obtain⟨o',l'⟩:=x.live a q o l;exact y.newF a o' l' (x.newF a o l e n) (x.newA a o l n)
    · exact y.newF a o (x.keep a o l n q) (x.newF a o l e n) (x.newA a o l n)
  newA a o l n:=by
    by_cases q:a∈L
    · obtain⟨o',l'⟩:=x.live a q o l;exact y.newA a o' l' (x.newA a o l n)
    · exact y.newA a o (x.keep a o l n q) (x.newA a o l n)
theorem ExP.transL{α:Type}{G:Gx}{L l hid g σ s g₁ σ₁ s₁ e s'}{r:R α}(hL: ∀a∈L,a∈hid)(x:StepL T G L g σ s g₁ σ₁ s₁):ExP T G l hid g₁ s₁ r e s'→ExP T G l hid g s r e s':=
  fun⟨g',σ',c,B,a,a0,h1,h2,h3⟩=>⟨g',σ',c,B,a,a0,h1,h2.fromL hL x,h3⟩
theorem ExF.transL{α:Type}{G:Gx}{fn:Fn}{n:Nat}{C:Cx T G fn n}{g σ s g₁ σ₁ s₁ e s'}{r:R α}(h:ExF C g₁ s₁ r e s')(x:StepL T G C.priv g σ s g₁ σ₁ s₁):ExF C g s r e s':=by
  unfold ExF at h ⊢
  split
  · rename_i q;rw [q] at h;exact h
  · rename_i q;rw [q] at h;exact wpAny_mono h (fun _ _ p=>p.transL (C.hidP q) x) fun _ _ p=>p.transL (C.hidP q) x
theorem ExF.on{α:Type}{G:Gx}{fn:Fn}{n:Nat}{C:Cx T G fn n}{g s e s'}{r:R α}(h:ExP T G C.frs (framesOf C.frs) g s r e s'):ExF C g s r e s':=by
  unfold ExF
  split
  · obtain ⟨g',σ',c,B,x,a0,rfl,h2,h3,h4,h5,h6⟩:=h
    exact⟨c,σ',h6⟩
  · rename_i q
    rw [C.hfrs q] at h
    obtain⟨g',σ',c,B,x,a0,rfl,h2,h3,h4,h5,h6⟩:=h
    exact wpAny_leaves_onW (C.frames.trans (congrArg some (C.hfrs q))) (C.frame q) h3 fun h' k _=>⟨g',σ',c,B,x,a0,rfl,h2,k,h4,h5,h6⟩
noncomputable def Goes{α:Type}(r:R α)(ok:α→Sg→Prop)(ex:Nat→Sg→Prop):Prop:=match r with | .ok a σ=>ok a σ | .exc c σ=>ex c σ | .stuck=>False
section
variable {α β:Type}{ok:β→Sg→Prop}{ex:Nat→Sg→Prop}
theorem goes_bind{r:R α}{f:α→Sg→R β}{ok':α→Sg→Prop}(h:Goes (r.bind f) ok ex)(k: ∀a σ,Goes (f a σ) ok ex→ok' a σ):Goes r ok' ex:=
  match r,h with | .ok a σ,h=>k a σ h | .exc _ _,h=>h | .stuck,h=>h
theorem goes_only{r:R α}{f:α→Sg→R β}{ok':α→Sg→Prop}{ex':Nat→Sg→Prop}(h:Goes (r.only f) ok ex)(k: ∀a σ,Goes (f a σ) ok ex→ok' a σ):Goes r ok' ex':=
  match r,h with | .ok a σ,h=>k a σ h | .exc _ _,h=>h.elim | .stuck,h=>h
theorem goes_opt{o:Option α}{f:α→R β}{P:Prop}(h:Goes (R.opt o f) ok ex)(k: ∀a,o=some a→Goes (f a) ok ex→P):P:=
  match o,h,k with |some a,h,k=>k a rfl h |none,h,_=>h.elim
theorem goes_grd{b:Bool}{r:R β}{P:Prop}(h:Goes (R.grd b r) ok ex)(k:b=true→Goes r ok ex→P):P:=
  match b,h,k with |true,h,k=>k rfl h |false,h,_=>h.elim
theorem goes_mono{r:R β}{ok':β→Sg→Prop}{ex':Nat→Sg→Prop}(h:Goes r ok ex)(k: ∀a σ,ok a σ→ok' a σ)(k': ∀c σ,ex c σ→ex' c σ):Goes r ok' ex':=
  match r,h with | .ok a σ,h=>k a σ h | .exc c σ,h=>k' c σ h | .stuck,h=>h
theorem goes_self{r:R β}(hn:r≠ .stuck)(k: ∀a σ,r= .ok a σ→ok a σ)(k': ∀c σ,r= .exc c σ→ex c σ):Goes r ok ex:=
  match r,hn,k,k' with | .ok a σ,_,k,_=>k a σ rfl | .exc c σ,_,_,k'=>k' c σ rfl | .stuck,hn,_,_=>absurd rfl hn
theorem goes_ne{r:R β}(h:Goes r ok ex):r≠ .stuck:=fun q=>by rw [q] at h;exact h
theorem og_some{b:Bool}{x y:α}{P:Prop}(h:og b x=some y)(k:b=true→x=y→P):P:=
  match b,h,k with |true,h,k=>k rfl (Option.some.inj h)|false,h,_=>nomatch h
theorem bind_some{o:Option α}{f:α→Option β}{y:β}{P:Prop}(h:o.bind f=some y)(k: ∀a,o=some a→f a=some y→P):P:=
  match o,h,k with |some a,h,k=>k a rfl h |none,h,_=>nomatch h
theorem map_some{o:Option α}{f:α→β}{y:β}{P:Prop}(h:o.map f=some y)(k: ∀a,o=some a→f a=y→P):P:=
  match o,h,k with |some a,h,k=>k a rfl (Option.some.inj h)|none,h,_=>nomatch h
theorem cond_some{b:Bool}{x:Option α}{y:α}{P:Prop}(h:cond b x none=some y)(k:b=true→x=some y→P):P:=
  match b,h,k with |true,h,k=>k rfl h |false,h,_=>nomatch h
theorem and_tt{a b:Bool}{P:Prop}(h:(a&&b)=true)(k:a=true→b=true→P):P:=k (Bool.and_eq_true_iff.mp h).1 (Bool.and_eq_true_iff.mp h).2
theorem dec_tt{p:Prop}[Decidable p](h:decide p=true):p:=of_decide_eq_true h
theorem ne_tt{p:Prop}[Decidable p](h:(!(decide p))=true): ¬p:=fun q=>by rw [decide_eq_true q] at h;cases h
theorem not_tt{b:Bool}(h:(!b)=true):b=false:=match b,h with |false,_=>rfl
end
theorem no_some{α:Type}{a:α}{P:Prop}(h:Option.none=some a):P:=nomatch h
theorem asInt_eq{v:V}{i:Int}:v.asInt=some i→v= .int i:=by cases v<;>first |exact no_some |exact fun h=>congrArg V.int (Option.some.inj h)
theorem asBool_eq{v:V}{i:Bool}:v.asBool=some i→v= .bool i:=by cases v<;>first |exact no_some |exact fun h=>congrArg V.bool (Option.some.inj h)
theorem asStr_eq{v:V}{i:Nat}:v.asStr=some i→v= .str i:=by cases v<;>first |exact no_some |exact fun h=>congrArg V.str (Option.some.inj h)
theorem asTup_eq{v:V}{i:List V}:v.asTup=some i→v= .tup i:=by cases v<;>first |exact no_some |exact fun h=>congrArg V.tup (Option.some.inj h)
theorem asLst_eq{v:V}{i:List V}:v.asLst=some i→v= .lst i:=by cases v<;>first |exact no_some |exact fun h=>congrArg V.lst (Option.some.inj h)
theorem asRef_eq{v:V}{i:Bool×Nat}:v.asRef=some i→v= .ref i.1 i.2:=by cases v<;>first |exact no_some |exact fun h=>congrArg (fun p:Bool×Nat=>V.ref p.1 p.2) (Option.some.inj h)
theorem asCls_eq{v:V}{i:Nat}:v.asCls=some i→v= .cls i:=by cases v<;>first |exact no_some |exact fun h=>congrArg V.cls (Option.some.inj h)
theorem no_true{P:Prop}(h:false=true):P:=nomatch h
theorem isNone_eq{v:V}:v.isNone=true→v= .none:=by cases v<;>first |exact no_true |exact fun _=>rfl
theorem asList_eq{m:Cell}{i:List V}:m.asList=some i→m= .list i:=by cases m<;>first |exact no_some |exact fun h=>congrArg Cell.list (Option.some.inj h)
theorem asDict_eq{m:Cell}{i:List Nat×List V}:m.asDict=some i→m= .dict i.1 i.2:=by cases m<;>first |exact no_some |exact fun h=>congrArg (fun p:List Nat×List V=>Cell.dict p.1 p.2) (Option.some.inj h)
theorem asInts_eq{m:Cell}{i:(Int→Option Int)×Nat}:m.asInts=some i→m= .idict i.1 i.2:=by cases m<;>first |exact no_some |exact fun h=>congrArg (fun p:(Int→Option Int)×Nat=>Cell.idict p.1 p.2) (Option.some.inj h)
theorem one_eq{α:Type}{l:List α}{a:α}(h:one l=some a):l= [a] :=match l,h with | [_],h=>by cases h;rfl
theorem lstAt_eq{σ:Sg}{v:V}{p:Bool×Nat×List V}(h:lstAt σ v=some p):v= .ref p.1 p.2.1∧σ.get p.1 p.2.1=some (.list p.2.2):=
  bind_some h fun q hq h=>map_some h fun vs hv h=>bind_some hv fun m hm hv=>by subst h;exact⟨asRef_eq hq,hm.trans (congrArg some (asList_eq hv))⟩
section
variable {G:Gx}{fn:Fn}{n:Nat}
noncomputable abbrev RepV(T:Tabs)(G:Gx):Gh→V→Value→Prop:=fun g v r=>Rep T G.w.params g v r
noncomputable def EW(C:Cx T G fn n)(ρ:List (Option V))(σ:Sg)(e:PySem.Expr)(r:R V):Prop:=
  r≠ .stuck→ ∀g s,St T G g σ s→Fm C g ρ s→wpAny (model PW G.w) C.A (eval e C.env) (OkP T G g σ s (RepV T G) r) (ExF C g s r) s
noncomputable def R.tst:R V→Prop
  | .ok (.bool _) _=>True
  | .exc _ _=>True
  |_=>False
structure AtE(C:Cx T G fn n)(g₀:Gh)(σ₀:Sg)(s₀:Shared)(g:Gh)(σ:Sg)(ρ:List (Option V))(s:Shared):Prop where
  step:Step T G g₀ σ₀ s₀ g σ s
  fm:Fm C g ρ s
theorem AtE.go{C:Cx T G fn n}{g₀ σ₀ s₀ g σ ρ s g' σ' s'}(x:AtE C g₀ σ₀ s₀ g σ ρ s)(y:Step T G g σ s g' σ' s'):AtE C g₀ σ₀ s₀ g' σ' ρ s':=⟨x.step.trans y,x.fm.step y⟩
theorem AtE.st{C:Cx T G fn n}{g₀ σ₀ s₀ g σ ρ s}(x:AtE C g₀ σ₀ s₀ g σ ρ s):St T G g σ s:=x.step.st
noncomputable def OkC(C:Cx T G fn n)(g₀:Gh)(σ₀:Sg)(s₀:Shared)(g:Gh)(ρ:List (Option V))(Q:Value→Shared→Prop):V→Sg→Prop:=
  fun x σ₁=> ∀g₁ s₁ v,AtE C g₀ σ₀ s₀ g₁ σ₁ ρ s₁→Gh.le g g₁→Rep T G.w.params g₁ x v→Q v s₁
noncomputable def OkB(C:Cx T G fn n)(g₀:Gh)(σ₀:Sg)(s₀:Shared)(g:Gh)(ρ:List (Option V))(Q:Bool→Shared→Prop):V→Sg→Prop:=
  fun x σ₁=> ∃b,x= .bool b∧ ∀g₁ s₁,AtE C g₀ σ₀ s₀ g₁ σ₁ ρ s₁→Gh.le g g₁→Q b s₁
noncomputable def OkL(C:Cx T G fn n)(g₀:Gh)(σ₀:Sg)(s₀:Shared)(g:Gh)(ρ:List (Option V))(Q:List Value→Shared→Prop):V→Sg→Prop:=
  fun x σ₁=> ∃vs,x= .tup vs∧ ∀g₁ s₁ rs,AtE C g₀ σ₀ s₀ g₁ σ₁ ρ s₁→Gh.le g g₁→RepL T G.w.params g₁ vs rs→Q rs s₁
noncomputable def ExC(C:Cx T G fn n)(g₀:Gh)(s₀:Shared)(X:Value→Shared→Prop):Nat→Sg→Prop:=
  fun c σ₁=> ∀e s',ExF C g₀ s₀ (.exc c σ₁:R V) e s'→X e s'
noncomputable def EG(C:Cx T G fn n)(K:Nat→List V→Sg→R V)(ρ:List (Option V))(e:Ex):Prop:= ∀{σ g₀ σ₀ s₀ g s Q X},AtE C g₀ σ₀ s₀ g σ ρ s→
  Goes (evalE T K fn ρ e σ) (OkC C g₀ σ₀ s₀ g ρ Q) (ExC C g₀ s₀ X)→wpAny (model PW G.w) C.A (eval (erE T fn e) C.env) Q X s
noncomputable def BG(C:Cx T G fn n)(K:Nat→List V→Sg→R V)(ρ:List (Option V))(e:Ex):Prop:= ∀{σ g₀ σ₀ s₀ g s Q X},AtE C g₀ σ₀ s₀ g σ ρ s→
  Goes (evalE T K fn ρ e σ) (OkB C g₀ σ₀ s₀ g ρ Q) (ExC C g₀ s₀ X)→wpAny (model PW G.w) C.A (isTrue (erE T fn e) C.env (eval (erE T fn e) C.env)) Q X s
noncomputable def LG(C:Cx T G fn n)(K:Nat→List V→Sg→R V)(ρ:List (Option V))(es:List Ex):Prop:= ∀{σ g₀ σ₀ s₀ g s Q X},AtE C g₀ σ₀ s₀ g σ ρ s→ ∀pos,
  Goes (evalEs T K fn ρ es σ) (OkL C g₀ σ₀ s₀ g ρ Q) (ExC C g₀ s₀ X)→wpAny (model PW G.w) C.A (spliced (backTo pos (starEach (erL T fn es) C.env))) Q X s
noncomputable def BW(C:Cx T G fn n)(ρ:List (Option V))(σ:Sg)(e:PySem.Expr)(r:R V):Prop:=
  r.tst→ ∀g s,St T G g σ s→Fm C g ρ s→wpAny (model PW G.w) C.A (isTrue e C.env (eval e C.env)) (fun b s'=> ∃g' σ',Step T G g σ s g' σ' s'∧r= .ok (.bool b) σ') (ExF C g s r) s
noncomputable def LW(C:Cx T G fn n)(ρ:List (Option V))(σ:Sg)(es:List PySem.Expr)(r:R V):Prop:=
  r ≠ .stuck→ ∀g s,St T G g σ s→Fm C g ρ s→ ∀pos,wpAny (model PW G.w) C.A (spliced (backTo pos (starEach es C.env)))
    (fun rs s'=> ∃g' σ' vs,Step T G g σ s g' σ' s'∧RepL T G.w.params g' vs rs∧r= .ok (.tup vs) σ') (ExF C g s r) s
end
end Mine
namespace Mine
noncomputable def noArgs:Arguments:=⟨[],[],none,[],[],none,[]⟩
noncomputable def s_law10:Stmt:= .Assign [.Name (nmT 311) (Z 1018 4 8)] (.ListComp (erE TT f_lc1 e_lc1) [⟨.Name (nmT 216) (Z 1018 54 58),erE TT f_law i_lc1,[],0⟩] {kind:= .function,names:= [(Str.ofString ".0",.local),(nmT 216,.local),(nmT 258,.free),(nmT 112,.free)],isGenerator:=false,isCoroutine:=false,more:= []} (Z 1018 11 71)) (Z 1018 4 71)
noncomputable def s_law12:Stmt:= .If (.BoolOp .Or [erE TT f_law e_law12a,.Compare (.ListComp (erE TT f_lc1 e_lc2) [⟨.Name (nmT 216) (Z 1020 91 95),erE TT f_law i_lc2,[],0⟩] {kind:= .function,names:= [(Str.ofString ".0",.local),(nmT 216,.local),(nmT 258,.free),(nmT 112,.free)],isGenerator:=false,isCoroutine:=false,more:= []} (Z 1020 48 108)) [.NotEq] [erE TT f_law e_law12b] (Z 1020 48 116)] (Z 1020 7 116)) [.Return (some (.Constant (.bool false) 0 (Z 1021 15 20))) (Z 1021 8 20)] [] ⟨1020,4,1021,20⟩
noncomputable def s_law13:Stmt:= .If (.Compare (erE TT f_law e_law13a) [.NotEq] [.BinOp (erE TT f_law e_law13b) .Add (.ListComp (erE TT f_lc3 e_lc3) [⟨.Name (nmT 53) (Z 1022 68 74),erE TT f_law i_lc3,[],0⟩] {kind:= .function,names:= [(Str.ofString ".0",.local),(nmT 53,.local)],isGenerator:=false,isCoroutine:=false,more:= []} (Z 1022 41 91)) (Z 1022 25 91)] (Z 1022 7 91)) [.Return (some (.Constant (.bool false) 0 (Z 1023 15 20))) (Z 1023 8 20)] [] ⟨1022,4,1023,20⟩
noncomputable def sc_lam1:Scope:={kind:= .function,names:= [(nmT 313,.free),(nmT 59,.free),(nmT 64,.globalImplicit)],isGenerator:=false,isCoroutine:=false,more:= []}
noncomputable def sc_lam2:Scope:={kind:= .function,names:= [(nmT 147,.free),(nmT 314,.free),(nmT 28,.free),(nmT 32,.free),(nmT 322,.globalImplicit),(nmT 247,.globalImplicit)],isGenerator:=false,isCoroutine:=false,more:= []}
noncomputable def x_lam1:PySem.Expr:= .Lambda noArgs (erE TT f_lam1 e_lam1) sc_lam1 (Z 1032 0 28)
noncomputable def x_lam2:PySem.Expr:= .Lambda noArgs (erE TT f_lam2 e_lam2) sc_lam2 (Z 1033 0 53)
noncomputable def s_law20:Stmt:= .Return (some (.BoolOp .And [.Call (erE TT f_law e_heard1) [x_lam1] [] ⟨1031,11,1032,30⟩,.Call (erE TT f_law e_heard2) [x_lam2] [] ⟨1032,35,1033,55⟩] ⟨1031,11,1033,55⟩)) ⟨1031,4,1033,55⟩
end Mine
namespace Mine
variable {T:Tabs}{G:Gx}{g:Gh}{σ:Sg}{s:Shared}{A:Around}{X:Value→Shared→Prop}
noncomputable def Pr(T:Tabs)(G:Gx)(g:Gh)(σ:Sg)(s:Shared)(u:V):Value→Shared→Prop:=fun r s'=> ∃g',Step T G g σ s g' σ s'∧Rep T G.w.params g' u r
theorem Pr.toks{u:V}{r:Value}{t:Nat}(hs:St T G g σ s)(h:Rep T G.w.params g u r):Pr T G g σ s u r {s with toks:=t}:=⟨g,.toks hs t,h⟩
theorem Pr.here{u:V}{r:Value}(hs:St T G g σ s)(h:Rep T G.w.params g u r):Pr T G g σ s u r s:=⟨g,.refl hs,h⟩
theorem bits_le{i:Int}{n:Nat}(h:i.natAbs<2 ^ n):Builtin.Int.intBits i≤n:=by
  unfold Builtin.Int.intBits
  split
  · exact Nat.zero_le _
  · rename_i h0
    have hp:i.natAbs≠0:=by simpa using h0
    exact(Nat.log2_lt hp).mpr h
theorem sm_bits{i:Int}(h:sm i=true):Builtin.Int.intBits i≤4000:=bits_le (of_decide_eq_true h)
theorem mulOk{i j:Int}(h:(word i||word j||(sm i&&sm j))=true):IntMulOk i j:=by
  rcases Bool.or_eq_true_iff.mp h with h |h
  · rcases Bool.or_eq_true_iff.mp h with h |h
    · exact .of_left (bits_le (of_decide_eq_true h))
    · exact .of_right (bits_le (of_decide_eq_true h))
  · have a:=sm_bits (Bool.and_eq_true_iff.mp h).1
    have b:=sm_bits (Bool.and_eq_true_iff.mp h).2
    unfold IntMulOk Builtin.Int.intTooBig
    simp
    intro _ _
    rw [bitsLine_eq]
    omega
theorem noPy{i j:Int}(h:sm j=true):Builtin.divisionGoesByPylong i j=false:=by
  refine PyProof.noPylong_of_log2 ?_
  by_cases h0:j.natAbs=0
  · rw [h0];decide
  · exact Nat.lt_of_lt_of_le ((Nat.log2_lt h0).mpr (of_decide_eq_true h)) (by omega)
theorem Pr.num{k l:Int}{t:Nat}(e:some l=some k)(hs:St T G g σ s):Pr T G g σ s (.int k) (.int l s.toks) {s with toks:=t}:=⟨g,.toks hs t,rep_int.mpr ⟨_,congrArg (fun i=>Value.int i _) (Option.some.inj e)⟩⟩
theorem Pr.truth{b c:Bool}(e:some c=some b)(hs:St T G g σ s):Pr T G g σ s (.bool b) (.bool c) s:=⟨g,.refl hs,rep_bool.mpr (congrArg Value.bool (Option.some.inj e))⟩
theorem bin_pow{i j k:Int}{t u:Tok}(e:og (decide (0≤j)&&decide (j≤1000)&&sm i) (i ^ j.toNat)=some k)(hs:St T G g σ s):wpAny (model PW G.w) A (binaryOp .Pow (.int i t) (.int j u)) (Pr T G g σ s (.int k)) X s:=
  og_some e fun h e=>and_tt h fun h h3=>and_tt h fun h1 h2=>pow_int (dec_tt h1) (Int.le_trans (Int.mul_le_mul (Int.ofNat_le.mpr (sm_bits h3)) (dec_tt h2) (dec_tt h1) (by decide)) (by decide)) (.num (congrArg some e) hs)
theorem bin_lsh{i j k:Int}{t u:Tok}(e:og (decide (0≤j)&&decide (j≤100000)&&sm i) (i*2 ^ j.toNat)=some k)(hs:St T G g σ s):wpAny (model PW G.w) A (binaryOp .LShift (.int i t) (.int j u)) (Pr T G g σ s (.int k)) X s:=
  og_some e fun h e=>and_tt h fun h h3=>and_tt h fun h1 h2=>lshift_int (dec_tt h1) (Int.le_trans (Int.add_le_add (Int.ofNat_le.mpr (sm_bits h3)) (dec_tt h2)) (by decide)) (.num (congrArg some e) hs)
theorem binI_rule{op:Operator}{i j k:Int}{t u:Tok}(e:binI op i j=some k)(hs:St T G g σ s):wpAny (model PW G.w) A (binaryOp op (.int i t) (.int j u)) (Pr T G g σ s (.int k)) X s:=
  match op,e with
  | .Add,e=>PySem.P.add_int (.num e hs)
  | .Sub,e=>PySem.P.sub_int (.num e hs)
  | .Mult,e=>og_some e fun h e=>PySem.P.mul_int (.num (congrArg some e) hs) (mulOk h)
  | .Mod,e=>og_some e fun h e=>mod_int' (ne_tt h) (.num (congrArg some e) hs)
  | .Pow,e=>bin_pow e hs
  | .LShift,e=>bin_lsh e hs
  | .RShift,e=>og_some e fun h e=>rshift_int (dec_tt h) (.num (congrArg some e) hs)
  | .BitOr,e=>or_int (.num e hs)
  | .BitXor,e=>xor_int (.num e hs)
  | .BitAnd,e=>and_int (.num e hs)
  | .FloorDiv,e=>og_some e fun h e=>and_tt h fun h1 h2=>floordiv_int (ne_tt h1) (.num (congrArg some e) hs) (.inl (noPy h2))
theorem St.list{vs:List V}{r:Value}(hs:St T G g σ s)(h:Rep T G.w.params g (.lst vs) r): ∃a rs n,r= .ref a∧s.heap.get? a=some {cls:= .type "list",data:= .seq (List.toArray rs) n}∧RepL T G.w.params g vs rs:=by
  obtain⟨a,rs,n,h1,h2,h3⟩:=rep_lst.mp h
  exact⟨a,rs,n,h1,hs.fz _ _ h2,h3⟩
theorem St.tuple{vs:List V}{r:Value}(hs:St T G g σ s)(h:Rep T G.w.params g (.tup vs) r): ∃a rs n,r= .ref a∧s.heap.get? a=some {cls:= .type "tuple",data:= .seq (List.toArray rs) n}∧RepL T G.w.params g vs rs:=by
  obtain⟨a,rs,n,h1,h2,h3⟩:=rep_tup.mp h
  exact⟨a,rs,n,h1,hs.fz _ _ h2,h3⟩
theorem lineN_le:lineN≤sizeLine:=by unfold lineN;rw [sizeLine_eq];omega
theorem Pr.lst{vs:List V}{rs:List Value}{n:Nat}{t:Nat}(hs:St T G g σ s)(h:RepL T G.w.params g vs rs):
    Pr T G g σ s (.lst vs) (.ref s.heap.objs.size) {s with heap:=s.heap.push {cls:= .type "list",data:= .seq (List.toArray rs) n},toks:=t}:=by
  have sp:=Step.push (t:=t) hs (o:={cls:= .type "list",data:= .seq (List.toArray rs) n}) rfl
  exact⟨_,sp,rep_lst.mpr ⟨_,rs,n,rfl,by simp [FH.put],h.mono sp.le⟩⟩
theorem Pr.tup{vs:List V}{rs:List Value}{n:Nat}{t:Nat}(hs:St T G g σ s)(h:RepL T G.w.params g vs rs):
    Pr T G g σ s (.tup vs) (.ref s.heap.objs.size) {s with heap:=s.heap.push {cls:= .type "tuple",data:= .seq (List.toArray rs) n},toks:=t}:=by
  have sp:=Step.push (t:=t) hs (o:={cls:= .type "tuple",data:= .seq (List.toArray rs) n}) rfl
  exact⟨_,sp,rep_tup.mpr ⟨_,rs,n,rfl,by simp [FH.put],h.mono sp.le⟩⟩
theorem isAdd_eq{op:Operator}(h:isAdd op=true):op= .Add:=by cases op<;>first |rfl |cases h
theorem bin_lists{a b:List V}{r q:Value}(hl:a.length+b.length≤lineN)(hs:St T G g σ s)(h₁:Rep T G.w.params g (.lst a) r)(h₂:Rep T G.w.params g (.lst b) q):
    wpAny (model PW G.w) A (binaryOp .Add r q) (Pr T G g σ s (.lst (a++b))) X s:=by
  obtain⟨l,rs,n,rfl,ho,k1⟩:=hs.list h₁
  obtain⟨l',rs',n',rfl,ho',k2⟩:=hs.list h₂
  have hz:rs.toArray.size+rs'.toArray.size≤sizeLine:=by
    rw [List.size_toArray,List.size_toArray,k1.length,k2.length];exact Nat.le_trans hl lineN_le
  refine concat_meets ⟨_,ho,rfl⟩ ⟨_,ho',rfl⟩ noFill_list_add seq_list_add PySem.F.slot_list_add PySem.F.entry_list_add (PySem.F.args_list_add_2 _ _) (list_addW l l' rs.toArray rs'.toArray n n' none none #[] #[] hz) ⟨ho,ho',?_⟩
  rw [List.append_toArray]
  exact Pr.lst (t:=s.toks) hs (k1.app k2)
theorem binV_rule{op:Operator}{v w u:V}{r q:Value}(e:binV op v w=some u)(hs:St T G g σ s)(h₁:Rep T G.w.params g v r)(h₂:Rep T G.w.params g w q):
    wpAny (model PW G.w) A (binaryOp op r q) (Pr T G g σ s u) X s:=by
  cases v with
  | int i=>
    exact bind_some e fun j hj e=>map_some e fun k hk e=>by
      subst e;obtain⟨t,rfl⟩:=h₁;obtain⟨t',rfl⟩:=rep_int.mp (asInt_eq hj▸h₂);exact binI_rule hk hs
  |lst a=>exact bind_some e fun b hb e=>og_some e fun h e=>and_tt h fun h1 h2=>by subst e;cases isAdd_eq h1;exact bin_lists (dec_tt h2) hs h₁ (asLst_eq hb▸h₂)
  |_=>nomatch e
theorem cmpI_rule{op:CmpOp}{i j:Int}{b:Bool}{t u:Tok}(e:cmpI op i j=some b)(hs:St T G g σ s):wpAny (model PW G.w) A (compareOp op (.int i t) (.int j u)) (Pr T G g σ s (.bool b)) X s:=
  match op,e with
  | .Eq,e=>PySem.P.eq_int (.truth e hs)
  | .NotEq,e=>PySem.P.ne_int (.truth e hs)
  | .Lt,e=>PySem.P.lt_int (.truth e hs)
  | .LtE,e=>PySem.P.le_int (.truth e hs)
  | .Gt,e=>PySem.P.gt_int (.truth e hs)
  | .GtE,e=>PySem.P.ge_int (.truth e hs)
theorem strsOf_cons{v:V}{vs:List V}{xs:List Nat}(e:strsOf (v::vs)=some xs): ∃x ys,v= .str x∧xs=x::ys∧strsOf vs=some ys:=
  bind_some e fun x hx e=>map_some e fun ys hy e=>⟨x,ys,asStr_eq hx,e.symm,hy⟩
theorem strsAre{P:Params}: ∀{vs:List V} {rs:List Value} {xs:List Nat},RepL T P g vs rs→strsOf vs=some xs→StrsAre rs (xs.map T.nm)
  | [],_,_,h,e=>by rw [repL_nil.mp h];cases e;exact .nil
  | v::vs,_,_,h,e=>by
    obtain⟨r,rs',rfl,h1,h2⟩:=repL_cons.mp h
    obtain⟨x,ys,rfl,rfl,e'⟩:=strsOf_cons e
    obtain⟨t,rfl⟩:=rep_str.mp h1
    exact .cons _ _ (strsAre h2 e')
theorem intsOf_cons{v:V}{vs:List V}{xs:List Int}(e:intsOf (v::vs)=some xs): ∃x ys,v= .int x∧xs=x::ys∧intsOf vs=some ys:=
  bind_some e fun x hx e=>map_some e fun ys hy e=>⟨x,ys,asInt_eq hx,e.symm,hy⟩
theorem intsAre{P:Params}: ∀{vs:List V} {rs:List Value} {xs:List Int},RepL T P g vs rs→intsOf vs=some xs→IntsAre rs xs
  | [],_,_,h,e=>by rw [repL_nil.mp h];cases e;exact .nil
  | v::vs,_,_,h,e=>by
    obtain⟨r,rs',rfl,h1,h2⟩:=repL_cons.mp h
    obtain⟨x,ys,rfl,rfl,e'⟩:=intsOf_cons e
    obtain⟨t,rfl⟩:=rep_int.mp h1
    exact .cons _ _ (intsAre h2 e')
noncomputable def Inj(T:Tabs):Prop:= ∀x y,T.nm x=T.nm y→x=y
theorem any_nm(hi:Inj T)(x:Nat)(xs:List Nat):(xs.map T.nm).any (· ==T.nm x)=xs.contains x:=by
  induction xs with
  |nil=>rfl
  | cons y ys ih=>
    simp only [List.map_cons,List.any_cons,List.contains_cons,ih]
    congr 1
    rw [Bool.eq_iff_iff,beq_iff_eq,beq_iff_eq]
    exact⟨fun e=>(hi _ _ e).symm,fun e=>by rw [e]⟩
theorem St.cellAt{o:Bool}{k:Nat}{m:Cell}{a:Addr}(hs:St T G g σ s)(e:σ.get o k=some m)(ha:(g.sel o)[k]? =some a):RepM T G.w g s.heap a m:=by
  obtain⟨b,h1,h2⟩:=hs.cell o k m e
  rw [ha] at h1;cases h1;exact h2
theorem St.noSys{a:Addr}(hs:St T G g σ s)(ha:a∈g.act):(a==sysModules)=false:=by
  obtain⟨⟨o,ho⟩,hn⟩:=G.sysm
  have:=hs.base _ _ ho hn
  rw [beq_eq_false_iff_ne]
  rintro rfl
  rw [(hs.off _ ha).1] at this;cases this
theorem isStr(x:Str)(t:Tok):Value.isStrOf x (.str x t)=true:=by simp [Value.isStrOf]
theorem valueAt_some{kvs:List (Str×Value)}{x:Str}:(valueAt kvs x).isSome=(kvs.map (·.1)).any (· ==x):=by
  unfold valueAt
  rw [Option.isSome_map]
  induction kvs with
  |nil=>rfl
  | cons p l ih=>
    simp only [List.find?_cons,List.map_cons,List.any_cons]
    by_cases h:p.1=x
    · simp [h]
    · rw [←ih];simp [h]
noncomputable def CmpP(T:Tabs)(G:Gx)(g:Gh)(σ:Sg)(s:Shared)(A:Around)(X:Value→Shared→Prop)(r q:Value)(op:CmpOp)(b:Bool):Prop:=wpAny (model PW G.w) A (compareOp op r q) (Pr T G g σ s (.bool b)) X s
theorem cmpE_el{P:CmpOp→Bool→Prop}{op:CmpOp}{b c:Bool}(e:cmpE op b=some c)(h1:P .Eq b)(h2:P .NotEq (!b)):P op c:=by
  cases op with
  |Eq=>cases e;exact h1
  |NotEq=>cases e;exact h2
  |_=>exact no_some e
theorem cmpS_el{P:CmpOp→Bool→Prop}{op:CmpOp}{b c:Bool}(e:cmpS op b=some c)(h1:P .Is b)(h2:P .IsNot (!b)):P op c:=by
  cases op with
  |Is=>cases e;exact h1
  |IsNot=>cases e;exact h2
  |_=>exact no_some e
theorem cmpN_el{P:CmpOp→Bool→Prop}{op:CmpOp}{b c:Bool}(e:cmpN op b=some c)(h1:P .In b)(h2:P .NotIn (!b)):P op c:=by
  cases op with
  |In=>cases e;exact h1
  |NotIn=>cases e;exact h2
  |_=>exact no_some e
theorem cmpD_el{P:CmpOp→Bool→Prop}{op:CmpOp}{b c:Bool}(e:cmpD op b=some c)(h1:P .NotEq b):P op c:=by
  cases op with
  |NotEq=>cases e;exact h1
  |_=>exact no_some e
theorem has_list{x:Nat}{vs:List V}{rs:List Value}{a:Addr}{n:Nat}{t:Tok}{b:Bool}(hi:Inj T)(e:hasL x vs=some b)(hs:St T G g σ s)(ho:s.heap.get? a=some {cls:= .type "list",data:= .seq rs.toArray n})(hr:RepL T G.w.params g vs rs):
    CmpP T G g σ s A X (.str (T.nm x) t) (.ref a) .In b∧CmpP T G g σ s A X (.str (T.nm x) t) (.ref a) .NotIn (!b):=
  map_some e fun xs hx e=>by
    have p:=strsAre hr hx
    rw [←any_nm hi] at e
    subst e
    exact⟨in_list_strs ⟨_,ho,rfl,n,rfl⟩ p (.here hs (.bool _)),notin_list_strs ⟨_,ho,rfl,n,rfl⟩ p (.here hs (.bool _))⟩
theorem has_tuple{x:Nat}{vs:List V}{rs:List Value}{a:Addr}{n:Nat}{t:Tok}{b:Bool}(hi:Inj T)(e:hasL x vs=some b)(hs:St T G g σ s)(ho:s.heap.get? a=some {cls:= .type "tuple",data:= .seq rs.toArray n})(hr:RepL T G.w.params g vs rs):
    CmpP T G g σ s A X (.str (T.nm x) t) (.ref a) .In b∧CmpP T G g σ s A X (.str (T.nm x) t) (.ref a) .NotIn (!b):=
  map_some e fun xs hx e=>by
    have p:=strsAre hr hx
    rw [←any_nm hi] at e
    subst e
    exact⟨in_tuple_strs (items:=rs.toArray) ⟨_,ho,rfl,n,rfl⟩ p (.here hs (.bool _)),notin_tuple_strs (items:=rs.toArray) ⟨_,ho,rfl,n,rfl⟩ p (.here hs (.bool _))⟩
theorem has_dict{x:Nat}{ks:List Nat}{vs:List V}{a:Addr}{t:Tok}{b:Bool}(hi:Inj T)(e:some (ks.contains x)=some b)(hs:St T G g σ s)(ha:a∈g.act)(h:RepM T G.w g s.heap a (.sdict ks vs)):
    CmpP T G g σ s A X (.str (T.nm x) t) (.ref a) .In b∧CmpP T G g σ s A X (.str (T.nm x) t) (.ref a) .NotIn (!b):=by
  obtain⟨kvs,hd,hk,hv⟩:=h
  obtain rfl:=Option.some.inj e
  rw [←any_nm hi,←hk,←valueAt_some]
  exact⟨wpAny_in_of (knd:=strKind PW G.w) (k:=T.nm x) (isStr _ t) (hs.noSys ha) hd.mapOf (.toks hs (.bool _)),wpAny_notIn_of (knd:=strKind PW G.w) (k:=T.nm x) (isStr _ t) (hs.noSys ha) hd.mapOf (.toks hs (.bool _))⟩
theorem hasC_rule{x:Nat}{m:Cell}{a:Addr}{t:Tok}{b:Bool}(hi:Inj T)(e:hasC x m=some b)(hs:St T G g σ s)(ha:a∈g.act)(h:RepM T G.w g s.heap a m):
    CmpP T G g σ s A X (.str (T.nm x) t) (.ref a) .In b∧CmpP T G g σ s A X (.str (T.nm x) t) (.ref a) .NotIn (!b):=
  match m,e,h with
  | .list vs,e,⟨rs,n,ho,hr⟩=>has_list hi e hs ho hr
  | .sdict ks vs,e,h=>has_dict hi e hs ha h
theorem hasX_rule{x:Nat}{w:V}{t:Tok}{q:Value}{b:Bool}(hi:Inj T)(e:hasX σ x w=some b)(hs:St T G g σ s)(h₂:Rep T G.w.params g w q):
    CmpP T G g σ s A X (.str (T.nm x) t) q .In b∧CmpP T G g σ s A X (.str (T.nm x) t) q .NotIn (!b):=by
  cases w with
  |ref o k=>obtain⟨a,rfl,ha⟩:=h₂;exact bind_some e fun m hm e=>hasC_rule hi e hs (Gh.sel_mem ha) (hs.cellAt hm ha)
  |tup vs=>obtain⟨a,rs,n,rfl,ho,hr⟩:=hs.tuple h₂;exact has_tuple hi e hs ho hr
  |lst vs=>obtain⟨a,rs,n,rfl,ho,hr⟩:=hs.list h₂;exact has_list hi e hs ho hr
  |_=>nomatch e
theorem eqNil{a b:Addr}{rs:List Value}{n n':Nat}(hu:A.units<cLine)(hs:St T G g σ s)(ha:s.heap.get? a=some {cls:= .type "list",data:= .seq rs.toArray n})(hb:s.heap.get? b=some {cls:= .type "list",data:= .seq (List.toArray []) n'}):
    wpAny (model PW G.w) A (compareOp .Eq (.ref a) (.ref b)) (Pr T G g σ s (.bool rs.isEmpty)) X s∧wpAny (model PW G.w) A (compareOp .NotEq (.ref a) (.ref b)) (Pr T G g σ s (.bool (!rs.isEmpty))) X s:=by
  have la:s.heap.IsList a rs.toArray:=⟨_,ha,rfl,n,rfl⟩
  have lb:s.heap.IsList b (List.toArray []):=⟨_,hb,rfl,n',rfl⟩
  cases rs with
  | nil=>
    exact⟨SeqAt.RcAt.lists (e:=fun _=>true) la lb rfl hu (fun j h1 _=>absurd h1 (Nat.not_lt_zero _)) _ _ _ _ (.here hs (.bool _)),SeqAt.RcNeAt.lists (e:=fun _=>true) la lb rfl hu (fun j h1 _=>absurd h1 (Nat.not_lt_zero _)) _ _ _ _ (.here hs (.bool _))⟩
  | cons r rs=>
    have hne:((r::rs).toArray.size !=(List.toArray ([] :List Value)).size)=true:=by simp
    exact⟨SeqAt.RcAt.lists_lengths la lb hne hu _ _ _ _ (.here hs (.bool _)),SeqAt.RcNeAt.lists_lengths la lb hne hu _ _ _ _ (.here hs (.bool _))⟩
theorem RepL.isEmpty{P:Params}{vs:List V}{rs:List Value}(h:RepL T P g vs rs):rs.isEmpty=vs.isEmpty:=by
  have:=h.length
  cases vs<;>cases rs<;>simp_all
theorem str_list(x y:Str):(x.cps.toList==y.cps.toList)=(x==y):=by
  cases x with |mk x=>cases y with |mk y=>
  rw [Bool.eq_iff_iff,beq_iff_eq,beq_iff_eq]
  simp [Array.toList_inj]
theorem same_one{A:Around}{s:Shared}{P:Params}{g:Gh}{v w:V}{r q:Value}(e:sameV w v=true)(h1:Rep T P g v r)(h2:Rep T P g w q):SeqAt.EqAt A s r q true:=by
  cases v with
  | int i=>
    cases w with
    | int j=>
      obtain⟨t,rfl⟩:=h1;obtain⟨u,rfl⟩:=h2
      have:=SeqAt.EqAt.int_int (A:=A) (s:=s) i t j u
      rwa [show(i==j)=true from e] at this
    |_=>nomatch e
  | str x=>
    cases w with
    | str y=>
      obtain⟨t,rfl⟩:=h1;obtain⟨u,rfl⟩:=h2
      have e':x=y:=eq_of_beq e
      subst e'
      have:=SeqAt.EqAt.str_str (A:=A) (s:=s) (T.nm x) t (T.nm x) u
      rwa [beq_self_eq_true] at this
    |_=>nomatch e
  |_=>nomatch e
theorem same_eq{A:Around}{s:Shared}{P:Params}{g:Gh}: ∀{vs ws:List V} {rs qs:List Value},sameAs vs ws=true→RepL T P g vs rs→RepL T P g ws qs→
    rs.length=qs.length∧ ∀j (h1:j<rs.length) (h2:j<qs.length),SeqAt.EqAt A s rs[j] qs[j] true
  | [],[],_,_,_,h1,h2=>by cases h1;cases h2;exact⟨rfl,fun j h=>absurd h (Nat.not_lt_zero _)⟩
  | v::vs,w::ws,_,_,e,h1,h2=>by
    obtain⟨r,rs,rfl,r1,r2⟩:=h1
    obtain⟨q,qs,rfl,q1,q2⟩:=h2
    refine and_tt e fun e1 e2=>?_
    obtain⟨i1,i2⟩:=same_eq (A:=A) (s:=s) e2 r2 q2
    refine⟨congrArg (· +1) i1,fun j=>?_⟩
    cases j with
    |zero=>exact fun _ _=>same_one e1 r1 q1
    |succ j=>exact fun h1 h2=>i2 j (Nat.lt_of_succ_lt_succ h1) (Nat.lt_of_succ_lt_succ h2)
theorem all_true{n:Nat}:((List.range n).all fun _=>true)=true:=by simp
section
variable {op:CmpOp}{r q:Value}{b:Bool}{w:V}
theorem cmp_str{x:Nat}{t:Tok}(hi:Inj T)(e:cmpV σ op (.str x) w=some b)(hs:St T G g σ s)(h₂:Rep T G.w.params g w q):CmpP T G g σ s A X (.str (T.nm x) t) q op b:=by
  change (match w.asStr with |some y=>cmpE op (x==y)|none=>(hasX σ x w).bind (cmpN op))=some b at e
  cases hw:w.asStr with
  |none=>rw [hw] at e;exact bind_some e fun c hc e=>have p:=hasX_rule hi hc hs h₂;cmpN_el e p.1 p.2
  | some y=>
    rw [hw] at e
    rw [asStr_eq hw] at h₂
    obtain⟨t',rfl⟩:=h₂
    have key:(T.nm x==T.nm y)=(x==y):=by
      rw [Bool.eq_iff_iff,beq_iff_eq,beq_iff_eq]
      exact⟨fun e=>hi _ _ e,fun e=>by rw [e]⟩
    exact cmpE_el e (by rw [←key];exact eq_str (.here hs (.bool _))) (by rw [←key];exact ne_str (.here hs (.bool _)))
theorem cmp_empty{rs qs:List Value}{vs ws:List V}{a a':Addr}{n n':Nat}(hu:A.units<cLine)(hw:ws.isEmpty=true)(e:cmpE op vs.isEmpty=some b)(hs:St T G g σ s)(ho:s.heap.get? a=some {cls:= .type "list",data:= .seq rs.toArray n})(hr:RepL T G.w.params g vs rs)
    (ho':s.heap.get? a'=some {cls:= .type "list",data:= .seq qs.toArray n'}) (hr':RepL T G.w.params g ws qs):CmpP T G g σ s A X (.ref a) (.ref a') op b:=by
  cases List.isEmpty_iff.mp hw
  cases hr'
  rw [←hr.isEmpty] at e
  have p:=eqNil (X:=X) hu hs ho ho'
  exact cmpE_el e p.1 p.2
theorem cmp_lists{rs qs:List Value}{vs ws:List V}{a a':Addr}{n n':Nat}(hu:A.units<cLine)(e:sameAs vs ws=true)(hs:St T G g σ s)(ho:s.heap.get? a=some {cls:= .type "list",data:= .seq rs.toArray n})(hr:RepL T G.w.params g vs rs)
    (ho':s.heap.get? a'=some {cls:= .type "list",data:= .seq qs.toArray n'}) (hr':RepL T G.w.params g ws qs):CmpP T G g σ s A X (.ref a) (.ref a') .NotEq false:=by
  obtain⟨l1,l2⟩:=same_eq (A:=A.in1) (s:=s) e hr hr'
  have:=SeqAt.RcNeAt.lists (A:=A) (s:=s) (e:=fun _=>true) (items:=rs.toArray) (items2:=qs.toArray) ⟨_,ho,rfl,n,rfl⟩ ⟨_,ho',rfl,n',rfl⟩ l1 hu l2
  rw [all_true] at this
  exact this _ _ _ _ (.here hs (.bool _))
theorem cmp_tuples{rs qs:List Value}{vs ws:List V}{a a':Addr}{n n':Nat}(hu:A.units<cLine)(e:sameAs vs ws=true)(hs:St T G g σ s)(ho:s.heap.get? a=some {cls:= .type "tuple",data:= .seq rs.toArray n})(hr:RepL T G.w.params g vs rs)
    (ho':s.heap.get? a'=some {cls:= .type "tuple",data:= .seq qs.toArray n'}) (hr':RepL T G.w.params g ws qs):CmpP T G g σ s A X (.ref a) (.ref a') .NotEq false:=by
  obtain⟨l1,l2⟩:=same_eq (A:=A.in1) (s:=s) e hr hr'
  have:=SeqAt.RcNeAt.tuples (A:=A) (s:=s) (e:=fun _=>true) (items:=rs.toArray) (items2:=qs.toArray) ⟨_,ho,rfl,n,rfl⟩ ⟨_,ho',rfl,n',rfl⟩ hu l2
  rw [all_true,show(rs.toArray.size==qs.toArray.size)=true from beq_iff_eq.mpr l1] at this
  exact this _ _ _ _ (.here hs (.bool _))
theorem cond_el{α:Type}{c:Bool}{x y z:Option α}{P:Prop}(e:cond c x y=z)(h1:c=true→x=z→P)(h2:y=z→P):P:=match c,e with |true,e=>h1 rfl e |false,e=>h2 e
theorem cmpV_rule{v:V}(hi:Inj T)(hu:A.units<cLine)(e:cmpV σ op v w=some b)(hs:St T G g σ s)(h₁:Rep T G.w.params g v r)(h₂:Rep T G.w.params g w q):
    CmpP T G g σ s A X r q op b:=by
  cases v with
  |int i=>exact bind_some e fun j hj e=>by obtain⟨t,rfl⟩:=h₁;obtain⟨t',rfl⟩:=rep_int.mp (asInt_eq hj▸h₂);exact cmpI_rule e hs
  |str x=>obtain⟨t,rfl⟩:=h₁;exact cmp_str hi e hs h₂
  |bool x=>exact bind_some e fun y hy e=>by cases h₁;cases rep_bool.mp (asBool_eq hy▸h₂);exact cmpD_el e (ne_bool (.here hs (.bool _)))
  |none=>exact cond_some e fun hw e=>by cases h₁;cases rep_none.mp (isNone_eq hw▸h₂);exact cmpS_el e (is_none_none (.here hs (.bool _))) (isnot_none_none (.here hs (.bool _)))
  |inst c vs=>exact cond_some e fun hw e=>by obtain⟨C,x,d,es,n,-,rfl,-⟩:=h₁;cases rep_none.mp (isNone_eq hw▸h₂);exact cmpS_el e (is_none_gen (.here hs (.bool _))) (isnot_none_gen (.here hs (.bool _)))
  | lst vs=>
    exact bind_some e fun ws hw e=>by
      obtain⟨a,rs,n,rfl,ho,hr⟩:=hs.list h₁
      obtain⟨a',rs',n',rfl,ho',hr'⟩:=hs.list (asLst_eq hw▸h₂)
      exact cond_el e (fun hw e=>cmp_empty hu hw e hs ho hr ho' hr') fun e=>cond_some e fun h e=>cmpD_el e (cmp_lists hu h hs ho hr ho' hr')
  | tup vs=>
    exact bind_some e fun ws hw e=>cond_some e fun h e=>by
      obtain⟨a,rs,n,rfl,ho,hr⟩:=hs.tuple h₁
      obtain⟨a',rs',n',rfl,ho',hr'⟩:=hs.tuple (asTup_eq hw▸h₂)
      exact cmpD_el e (cmp_tuples hu h hs ho hr ho' hr')
  | ref o k=>
    exact bind_some e fun ws hw e=>cond_some e fun hz e=>bind_some e fun vs hv e=>bind_some hv fun m hm hv=>by
      obtain⟨a,rfl,ha⟩:=h₁
      obtain⟨a',rs',n',rfl,ho',hr'⟩:=hs.list (asLst_eq hw▸h₂)
      have hc:=hs.cellAt hm ha
      rw [asList_eq hv] at hc
      obtain⟨rs,n,ho,hr⟩:=hc
      exact cmp_empty hu hz e hs ho hr ho' hr'
  |_=>nomatch e
end
end Mine
namespace Mine
variable {T:Tabs}{G:Gx}{g:Gh}{σ:Sg}{s:Shared}{A:Around}{X:Value→Shared→Prop}
structure ClsOk(T:Tabs)(K:Frag)(c:Nat)(C:Cls):Prop where
  ga:findIn K (.ref (T.clsAddr c)) "__getattribute__"=some (some (.builtin "object.__getattribute__"))
  gk:findIn K (.ref (T.clsAddr c)) "__getattr__"=some none
  sa:findIn K (.ref (T.clsAddr c)) "__setattr__"=some (some (.builtin "object.__setattr__"))
  over:plainOver K (T.clsAddr c)=true
  hasd:hasDictIn K (T.clsAddr c)=true
  fld: ∀x∈C.names,findIn K (.ref (T.clsAddr c)) (T.nm x)=some none
  met: ∀x f,C.meths.lookup x=some f→findIn K (.ref (T.clsAddr c)) (T.nm x)=some (some (.ref (T.fnAddr f)))∧typeIn K (.ref (T.fnAddr f))=some (.type "function")∧
    findCls K (.ref (T.clsAddr c)) (.type "type") (T.nm x)=some (.val (.ref (T.fnAddr f)))∧C.names.contains x=false
  reads:readsIn K (T.clsAddr c) (.type "type")=true
  gt:specialIn K (.ref (T.clsAddr c)) "__getattribute__"=some (some (.builtin "type.__getattribute__"))
  makes:makesIn K (T.clsAddr c)=true
  keep:keepIn K (.ref (T.clsAddr c))=true
  init:findIn K (.ref (T.clsAddr c)) "__init__"=some (some (.ref (T.fnAddr C.init)))
  initF:typeIn K (.ref (T.fnAddr C.init))=some (.type "function")
theorem Gx.frag(hs:St T G g σ s):G.K.In s.heap:=fun a o e=>hs.fz _ _ (hs.base _ _ (G.inK a o e) fun q=>by rw [q,G.tabK] at e;cases e)
theorem rep_handed{P:Params}{v:V}{r:Value}(h:Rep T P g v r):handedIn r=true:=by
  cases v with
  |none=>rw [rep_none.mp h];rfl
  |bool b=>rw [rep_bool.mp h];rfl
  |int i=>obtain⟨t,rfl⟩:=rep_int.mp h;rfl
  |str x=>obtain⟨t,rfl⟩:=rep_str.mp h;rfl
  |tup vs=>obtain⟨_,_,_,rfl,_⟩:=rep_tup.mp h;rfl
  |lst vs=>obtain⟨_,_,_,rfl,_⟩:=rep_lst.mp h;rfl
  |rng n=>obtain⟨_,_,_,_,rfl,_⟩:=rep_rng.mp h;rfl
  |inst c vs=>obtain⟨_,_,_,_,_,_,rfl,_⟩:=rep_inst.mp h;rfl
  |obj c o k=>obtain⟨_,_,rfl,_⟩:=rep_obj.mp h;rfl
  |ref o k=>obtain⟨_,rfl,_⟩:=rep_ref.mp h;rfl
  |fn f=>rw [rep_fn.mp h];rfl
  |cls c=>rw [rep_cls.mp h];rfl
  | prim p=>
    rw [rep_prim.mp h]
    unfold primVal
    split<;>first |rfl |decide+kernel
theorem isStr_nm(hi:Inj T)(x y:Nat)(t:Tok):(Value.str (T.nm y) t).isStr (T.nm x)=decide (y=x):=by
  show(T.nm y==T.nm x)=_
  by_cases h:y=x
  · subst h;simp
  · rw [beq_eq_false_iff_ne.mpr fun e=>h (hi _ _ e)];simp [h]
theorem getL_cons(hi:Inj T){P:Params}{x k:Nat}{t:Tok}{r:Value}{es:List DictEntry}(hx:k≠x):getL (T.nm x) (⟨PyData.keyHash P (T.nm k),.str (T.nm k) t,r⟩::es)=getL (T.nm x) es:=by
  unfold getL
  rw [List.find?_cons,isStr_nm hi,decide_eq_false hx]
  rfl
theorem repE_len{P:Params}: ∀{ks:List Nat} {vs:List V} {es:List DictEntry},RepE T P g ks vs es→es.length=ks.length
  | [],[],_,h=>by cases h;rfl
  |k::ks,v::vs,_,h=>by obtain⟨r,t,es',rfl,h1,h2⟩:=h;exact congrArg (· +1) (repE_len h2)
theorem repE_plain{P:Params}: ∀{ks:List Nat} {vs:List V} {es:List DictEntry},RepE T P g ks vs es→es.any (·.refKey)=false
  | [],[],_,h=>by cases h;rfl
  |k::ks,v::vs,_,h=>by obtain⟨r,t,es',rfl,h1,h2⟩:=h;exact(List.any_cons ..).trans (repE_plain h2)
theorem repE_get(hi:Inj T){P:Params}{x:Nat}{u:V}: ∀{ks:List Nat} {vs:List V} {es:List DictEntry},RepE T P g ks vs es→getF ks vs x=some u→ ∃r,getL (T.nm x) es=some (some r)∧Rep T P g u r
  | [],[],_,h,e=>no_some e
  | k ::ks,v::vs,_,h,e=>by
    obtain⟨r,t,es',rfl,h1,h2⟩:=h
    by_cases hx:k=x
    · subst hx
      obtain rfl:=Option.some.inj ((if_pos rfl).symm.trans e)
      exact⟨r,by unfold getL;rw [List.find?_cons,isStr_nm hi,decide_eq_true rfl],h1⟩
    · rw [getL_cons hi hx];exact repE_get hi h2 ((if_neg hx).symm.trans e)
theorem repE_no(hi:Inj T){P:Params}{x:Nat}: ∀{ks:List Nat} {vs:List V} {es:List DictEntry},RepE T P g ks vs es→ks.contains x=false→getL (T.nm x) es=some none
  | [],[],_,h,e=>by cases h;rfl
  | k::ks,v::vs,_,h,e=>by
    obtain⟨r,t,es',rfl,h1,h2⟩:=h
    rw [List.contains_cons,Bool.or_eq_false_iff] at e
    rw [getL_cons hi fun q=>(beq_eq_false_iff_ne.mp e.1) q.symm];exact repE_no hi h2 e.2
theorem repE_find(hi:Inj T){P:Params}{x:Nat}{ks:List Nat}{vs:List V}{es:List DictEntry}(h:RepE T P g ks vs es):
    (∀v,getF ks vs x=some v→ ∃r,getL (T.nm x) es=some (some r)∧Rep T P g v r)∧(ks.contains x=false→getL (T.nm x) es=some none)∧es.any (·.refKey)=false∧es.length=ks.length:=
  ⟨fun _ e=>repE_get hi h e,repE_no hi h,repE_plain h,repE_len h⟩
theorem repE_put(hi:Inj T){P:Params}{x:Nat}{v:V}{r:Value}{t:Tok}: ∀{ks:List Nat} {vs:List V} {es:List DictEntry} {p:List Nat×List V},RepE T P g ks vs es→Rep T P g v r→putF ks vs x v=some p→
    RepE T P g p.1 p.2 (putL (T.nm x) (PyData.keyHash P (T.nm x)) (.str (T.nm x) t) r es)
  | [],[],_,_,h,hv,e=>by cases h;cases e;exact⟨r,t,[],rfl,hv,rfl⟩
  | k ::ks,w::vs,_,_,h,hv,e=>by
    obtain⟨q,u,es',rfl,h1,h2⟩:=h
    by_cases hx:k=x
    · subst hx
      obtain rfl:=Option.some.inj ((if_pos rfl).symm.trans e)
      unfold putL
      rw [isStr_nm hi,decide_eq_true rfl]
      exact⟨r,u,es',rfl,hv,h2⟩
    · refine map_some ((if_neg hx).symm.trans e) fun a ha e=>?_
      subst e
      unfold putL
      rw [isStr_nm hi,decide_eq_false hx]
      exact⟨q,u,_,rfl,h1,repE_put hi h2 hv ha⟩
theorem getF_mem{x:Nat}{u:V}: ∀{ks:List Nat} {vs:List V},getF ks vs x=some u→x∈ks
  | k::ks,v::vs,e=>by
    by_cases q:k=x
    · subst q;exact .head _
    · exact .tail _ (getF_mem ((if_neg q).symm.trans e))
theorem attr_go{x c:Nat}{u:V}{expr:Bool}{C:Cls}{a d:Addr}{ks:List Nat}{vs:List V}{es:List DictEntry}{n:Nat}(hi:Inj T)(O:ClsOk T G.K c C)(hs:St T G g σ s)(hx:x∈C.names)(ha:s.heap.get? a=some (instObj (T.clsAddr c) d))(hd:s.heap.get? d=some (dictOf es n))
    (hr:RepE T G.w.params g ks vs es) (hg:getF ks vs x=some u):wpAny (model PW G.w) A (getAttr (.ref a) (T.nm x) expr) (Pr T G g σ s u) X s:=by
  obtain⟨q,hq,hu⟩:=repE_get hi hr hg
  exact get_value (Gx.frag hs) (I:=⟨ha,rfl,rfl,hd⟩) O.ga (findObj_own O.hasd (O.fld x hx) rfl ((lookIn_dict _ _ _).trans hq)) (rep_handed hu) (.toks hs hu)
theorem attr_rule{x:Nat}{v u:V}{r:Value}{expr:Bool}(hi:Inj T)(hc: ∀c C,T.cls c=some C→ClsOk T G.K c C)(e:attrV T σ x v=some u)(hs:St T G g σ s)(h:Rep T G.w.params g v r):
    wpAny (model PW G.w) A (getAttr r (T.nm x) expr) (Pr T G g σ s u) X s:=by
  cases v with
  | inst c vs=>
    exact bind_some e fun C hC e=>by
      obtain⟨C',a,d,es,n,hC',rfl,h1,h2,h3⟩:=h
      obtain rfl:=Option.some.inj (hC.symm.trans hC')
      exact attr_go hi (hc c C hC) hs (getF_mem e) (hs.fz _ _ h1) (hs.fz _ _ h2) h3 e
  | obj c o k=>
    exact bind_some e fun C hC e=>bind_some e fun p hp e=>bind_some hp fun m hm hp=>cond_some e fun hx e=>by
      obtain⟨a,d,rfl,h1,h2⟩:=h
      have hq:=hs.cellAt hm h2
      rw [asDict_eq hp] at hq
      obtain⟨es,n,h3,h4⟩:=hq
      exact attr_go hi (hc c C hC) hs (List.contains_iff_mem.mp hx) (hs.fz _ _ h1) h3 h4 e
  |_=>nomatch e
noncomputable def Tn(T:Tabs)(G:Gx)(g:Gh)(σ σ':Sg)(s:Shared):Shared→Prop:=fun s'=> ∃g',Step T G g σ s g' σ' s'
theorem putF_len{x:Nat}{v:V}: ∀{ks:List Nat} {vs:List V} {p:List Nat×List V},putF ks vs x v=some p→p.1.length≤ks.length+1
  | [],vs,_,e=>og_some e fun _ e=>by subst e;exact Nat.le_refl _
  | k::ks,w::vs,_,e=>by
    by_cases hx:k=x
    · obtain rfl:=Option.some.inj ((if_pos hx).symm.trans e);exact Nat.le_succ _
    · exact map_some ((if_neg hx).symm.trans e) fun a ha e=>by subst e;exact Nat.succ_le_succ (putF_len ha)
theorem putF_free{x:Nat}{v:V}: ∀{ks:List Nat} {vs:List V} {p:List Nat×List V},putF ks vs x v=some p→freeL vs=true→v.free=true→freeL p.2=true
  | [],vs,_,e,_,hv=>og_some e fun _ e=>by subst e;show(v.free&&true)=true;rw [hv];rfl
  | k::ks,w::vs,_,e,h,hv=>by
    refine and_tt h fun h1 h2=>?_
    by_cases hx:k=x
    · obtain rfl:=Option.some.inj ((if_pos hx).symm.trans e);show(v.free&&freeL vs)=true;rw [hv,h2];rfl
    · exact map_some ((if_neg hx).symm.trans e) fun a ha e=>by subst e;show(w.free&&freeL a.2)=true;rw [h1,putF_free ha h2 hv];rfl
theorem cell_free{o:Bool}{k:Nat}{m m':Cell}{p:Bool}(hs:St T G g σ s)(hc:σ.get o k=some m)(hp:(o||p)=true)(h:m.free=true→p=true→m'.free=true):(o||m'.free)=true:=by
  cases o with
  |true=>rfl
  |false=>exact h (hs.free k m hc) (by simpa using hp)
theorem set_go{x c:Nat}{v:V}{o:Bool}{k:Nat}{C:Cls}{a d:Addr}{r:Value}{p q:List Nat×List V}{es:List DictEntry}{n:Nat}(hi:Inj T)(O:ClsOk T G.K c C)(hs:St T G g σ s)(hx:C.names.contains x=true)(hl:p.1.length≤100)
    (hv:Rep T G.w.params g v r) (ha:s.heap.get? a=some (instObj (T.clsAddr c) d)) (h2:(g.sel o)[k]? =some d) (h3:s.heap.get? d=some (dictOf es n)) (h4:RepE T G.w.params g p.1 p.2 es) (hp:putF p.1 p.2 x v=some q)
    (hfr:(o||(Cell.dict q.1 q.2).free)=true):wpAny (model PW G.w) A (PySem.setAttr (.ref a) (T.nm x) r) (fun _=>Tn T G g σ (σ.set o k (.dict q.1 q.2)) s) X s:=by
  have KI:=Gx.frag hs
  have F:=O.fld x (List.contains_iff_mem.mp hx)
  have ht:takerIn G.K (T.clsAddr c) (T.nm x)=some none:=by unfold takerIn;rw [F];rfl
  obtain⟨cd,hcd,hd'⟩:=any_some O.hasd
  have I:InstAt s.heap a (instObj (T.clsAddr c) d) (T.clsAddr c) (some (dictOf es n)):=⟨ha,rfl,rfl,h3⟩
  refine set_plain KI I O.sa (osa_open (s:={s with toks:=s.toks+1}) KI I O.over ht fun b=>?_)
  have E':=repE_put hi (t:=s.toks+1) h4 hv hp
  have D':(s.heap.update d (Obj.putName (T.nm x) (PyData.keyHash G.w.params (T.nm x)) (.str (T.nm x) (s.toks+1)) r)).get? d=some (dictOf (putL (T.nm x) (PyData.keyHash G.w.params (T.nm x)) (.str (T.nm x) (s.toks+1)) r es) (putN (T.nm x) es n)):=by
    rw [Heap.get?_update_self _ h3 (by rw [putName_dict];rfl),putName_dict]
  have hsz:=Nat.le_trans (Nat.le_of_eq (repE_len E')) (Nat.le_trans (putF_len hp) (Nat.succ_le_succ hl))
  refine wpAny_bind (wpAny_pure (wpAny_bind (wpAny_bind (wpAny_loadPart ha (wpAny_bind (looks_clsIn KI hcd _ _ _ _ (fun _ _ e=>e) ?_))))))
  rw [hd']
  refine wpAny_pure (a:=some d) (wpAny_bind (wpAny_pure (wpAny_bind ?_)))
  unfold nsSet
  refine wpAny_bind (wpAny_bind (wpAny_askSetting (wpAny_pure (wpAny_bind (wpAny_mkText (wpAny_bind (wpAny_loadPart h3 ?_)))))))
  have c0:(!es.toArray.any (·.key.isStr (T.nm x))&&es.toArray.any (·.refKey))=false:=by
    rw [←Array.any_toList,←Array.any_toList]
    show(_&&es.any _)=false
    rw [repE_plain h4,Bool.and_false]
  show wpAny _ _ (if aRefKeyMayBeTheName (T.nm x) es.toArray=true then _ else _) _ _ _
  rw [aRefKeyMayBeTheName_at,c0]
  refine wpAny_updatePart h3 ?_
  refine wpAny_bind (wpAny_lookBehind D' (pastItsLine_dict (by rw [List.size_toArray,sizeLine_eq];exact Nat.le_trans hsz (by decide))) ?_)
  exact wpAny_pure ⟨g,Step.turn hs h2 (Heap.SameBut.update ..) ⟨_,_,D',E'⟩ hfr⟩
theorem setAttr_rule{x:Nat}{v w:V}{σ':Sg}{r q:Value}(hi:Inj T)(hc: ∀c C,T.cls c=some C→ClsOk T G.K c C)(e:setAttr T σ x v w=some σ')(hs:St T G g σ s)(hv:Rep T G.w.params g v r)(h:Rep T G.w.params g w q):
    wpAny (model PW G.w) A (PySem.setAttr q (T.nm x) r) (fun _=>Tn T G g σ σ' s) X s:=by
  cases w with
  | obj c o k=>
    exact bind_some e fun C hC e=>bind_some e fun p hp e=>bind_some hp fun m hm hp=>cond_some e fun hx e=>map_some e fun z hz e=>and_tt hx fun hx h3=>and_tt hx fun h1 h2=>by
      subst e
      obtain⟨a,d,rfl,k1,k2⟩:=h
      rw [asDict_eq hp] at hm
      obtain⟨es,n,k3,k4⟩:=hs.cellAt hm k2
      exact set_go hi (hc c C hC) hs h1 (dec_tt h2) hv (hs.fz _ _ k1) k2 k3 k4 hz (cell_free hs hm h3 fun f1 f2=>putF_free hz f1 f2)
  |_=>nomatch e
end Mine
namespace Mine
variable {T:Tabs}{G:Gx}{g:Gh}{σ:Sg}{s:Shared}{A:Around}{X:Value→Shared→Prop}
structure TabOk(T:Tabs):Prop where
  inj:Inj T
  char: ∀x i y,T.char x i=some y→ ∃c,(T.nm x).cps[i]? =some c∧T.nm y=⟨#[c]⟩∧i<1000
  len: ∀x n,T.len x=some n→(T.nm x).length=n∧n<1000
  cut: ∀x i y,T.cut x i=some y→Txt.slice (T.nm x) (some i) none=T.nm y∧(T.nm x).length≤1000
  starts: ∀x y b,T.starts x y=some b→Txt.startswith (T.nm x) (T.nm y)=b
  split0: ∀x xs,T.split0 x=some xs→Txt.words (T.nm x)=xs.map T.nm∧(T.nm x).length≤1000∧(Builtin.Str.spaceWords (T.nm x) ((T.nm x).length+1)).length≤1000
  split1: ∀x y xs,T.split1 x y=some xs→Txt.split (T.nm x) (T.nm y)=xs.map T.nm∧((T.nm y).length==0)=false∧(T.nm x).length≤1000∧
    (Builtin.Str.partsBetween (T.nm x) (Builtin.Str.occurrences (T.nm x) (T.nm y) 0 (T.nm x).length ((T.nm x).length+1)) (T.nm y).length).length≤1000
  empty:T.nm T.empty=""
  nodot: ∀k,(T.nm k==Str.ofString ".0")=false
  init:T.nm T.init="__init__"
theorem valueAt_cons{kvs:List (Str×Value)}{p:Str×Value}{y:Str}(h:p.1≠y):valueAt (p::kvs) y=valueAt kvs y:=by
  unfold valueAt;rw [List.find?_cons,decide_eq_false h]
theorem tab_value(hi:Inj T){P:Params}{x:Nat}{v:V}: ∀{ks:List Nat} {vs:List V} {kvs:List (Str×Value)},kvs.map (·.1)=ks.map T.nm→RepL T P g vs (kvs.map (·.2))→getF ks vs x=some v→ ∃r,valueAt kvs (T.nm x)=some r∧Rep T P g v r
  | k ::ks,w::vs,p::kvs,h,hr,e=>by
    obtain⟨h0,h'⟩:=List.cons.inj h
    obtain⟨r,rs,hrs,h1,h2⟩:=hr
    obtain⟨hr1,hr2⟩:=List.cons.inj hrs
    subst hr1 hr2
    by_cases hx:k=x
    · subst hx
      obtain rfl:=Option.some.inj ((if_pos rfl).symm.trans e)
      exact⟨p.2,by unfold valueAt;rw [List.find?_cons,decide_eq_true h0];rfl,h1⟩
    · rw [valueAt_cons fun q=>hx (hi _ _ (h0.symm.trans q))];exact tab_value hi h' h2 ((if_neg hx).symm.trans e)
theorem atL_some{vs:List V}{i:Int}{u:V}(e:atL vs i=some u):0≤i∧i<2 ^ 63∧vs[i.toNat]? =some u:=
  cond_some e fun h e=>and_tt h fun h1 h2=>⟨dec_tt h1,Int.lt_trans (dec_tt h2) (by decide),e⟩
section
variable {value slice:PySem.Expr}
theorem seqIndex_in{i:Int}{n:Nat}(h0:0≤i)(h:i.toNat<n):seqIndex? i n=some i.toNat:=by
  unfold seqIndex?
  simp only [if_neg (Int.not_lt.mpr h0),decide_eq_true h0,decide_eq_true (show i< (n:Int) by omega),Bool.and_self,if_true]
theorem sub_list{i:Int}{t:Tok}{vs:List V}{rs:List Value}{u:V}{a:Addr}{n:Nat}(hsl: ∀o i,subscripted slice false o i=operate [o,i] (getItem o i))(e:atL vs i=some u)(hs:St T G g σ s)
    (ho:s.heap.get? a=some {cls:= .type "list",data:= .seq rs.toArray n}) (hr:RepL T G.w.params g vs rs):wpAny (model PW G.w) A (subscriptTail value slice (.ref a) (.int i t)) (Pr T G g σ s u) X s:=by
  obtain⟨h0,h1,hx⟩:=atL_some e
  obtain⟨x,hx',hu⟩:=hr.at hx
  have hl:s.heap.IsList a rs.toArray:=⟨_,ho,rfl,n,rfl⟩
  exact tail_any hl.typeIs slot_list_getitem.lookup (wpAny_getItem_list hl h0 h1 ((List.getElem?_toArray ..).trans hx') (.here hs hu)) (hsl _ _)
theorem sub_tuple{i:Int}{t:Tok}{vs:List V}{rs:List Value}{u:V}{a:Addr}{n:Nat}(hsl: ∀o i,subscripted slice false o i=operate [o,i] (getItem o i))(e:atL vs i=some u)(hs:St T G g σ s)
    (ho:s.heap.get? a=some {cls:= .type "tuple",data:= .seq rs.toArray n}) (hr:RepL T G.w.params g vs rs):wpAny (model PW G.w) A (subscriptTail value slice (.ref a) (.int i t)) (Pr T G g σ s u) X s:=by
  obtain⟨h0,h1,hx⟩:=atL_some e
  obtain⟨x,hx',hu⟩:=hr.at hx
  have hlt:i.toNat<rs.length:=(List.getElem?_eq_some_iff.mp hx').1
  exact item_tupleT (j:=i.toNat) (l:=rs) ⟨_,ho,rfl,n,rfl⟩ (Int.le_trans (by decide) h0) h1 (seqIndex_in h0 hlt) hx' (.here hs hu) (hsl _ _)
theorem sub_str{x y:Nat}{i:Int}{t t':Tok}(tk:TabOk T)(hsl: ∀o i,subscripted slice false o i=operate [o,i] (getItem o i))(h0:0≤i)(hy:T.char x i.toNat=some y)(hs:St T G g σ s):
    wpAny (model PW G.w) A (subscriptTail value slice (.str (T.nm x) t) (.int i t')) (Pr T G g σ s (.str y)) X s:=by
  obtain⟨c,hc,he,hl⟩:=tk.char _ _ _ hy
  have hlt:i.toNat< (T.nm x).cps.size:=(Array.getElem?_eq_some_iff.mp hc).1
  refine tail_any (typeIs_str s _ t) PySem.F.slot_str_getitem.lookup (getItem_str (c:=c) ?_ ?_ (by rw [←he];exact .toks hs (.str _ _))) (hsl _ _)
  · simp;omega
  · rw [show seqIndex? i (T.nm x).length=some i.toNat from seqIndex_in h0 hlt];exact hc
theorem subC_rule{m:Cell}{w u:V}{a:Addr}{q:Value}(tk:TabOk T)(hsl: ∀o i,subscripted slice false o i=operate [o,i] (getItem o i))(e:subC w m=some u)(hs:St T G g σ s)(h:RepM T G.w g s.heap a m)(h₂:Rep T G.w.params g w q):
    wpAny (model PW G.w) A (subscriptTail value slice (.ref a) q) (Pr T G g σ s u) X s:=by
  cases m with
  |list vs=>exact bind_some e fun i hi e=>by obtain⟨t,rfl⟩:=rep_int.mp (asInt_eq hi▸h₂);obtain⟨rs,n,ho,hr⟩:=h;exact sub_list hsl e hs ho hr
  | sdict ks vs=>
    exact bind_some e fun x hx e=>by
      obtain⟨t,rfl⟩:=rep_str.mp (asStr_eq hx▸h₂)
      obtain⟨kvs,hd,hk,hv⟩:=h
      obtain⟨q,hq,hu⟩:=tab_value tk.inj hk hv e
      exact tail_any hd.typeIs slot_dict_getitem.lookup (wpAny_getItem_of (knd:=strKind PW G.w) (isStr _ t) hd.mapOf hq (.toks hs hu)) (hsl _ _)
  |_=>exact no_some e
theorem sub_rule{v w u:V}{r q:Value}(tk:TabOk T)(hsl: ∀o i,subscripted slice false o i=operate [o,i] (getItem o i))(e:subV T σ v w=some u)(hs:St T G g σ s)(h₁:Rep T G.w.params g v r)(h₂:Rep T G.w.params g w q):
    wpAny (model PW G.w) A (subscriptTail value slice r q) (Pr T G g σ s u) X s:=by
  cases v with
  |tup vs=>exact bind_some e fun i hi e=>by obtain⟨t,rfl⟩:=rep_int.mp (asInt_eq hi▸h₂);obtain⟨a,rs,n,rfl,ho,hr⟩:=hs.tuple h₁;exact sub_tuple hsl e hs ho hr
  |lst vs=>exact bind_some e fun i hi e=>by obtain⟨t,rfl⟩:=rep_int.mp (asInt_eq hi▸h₂);obtain⟨a,rs,n,rfl,ho,hr⟩:=hs.list h₁;exact sub_list hsl e hs ho hr
  | str x=>
    exact bind_some e fun i hi e=>cond_some e fun h0 e=>map_some e fun y hy e=>by
      subst e
      obtain⟨t,rfl⟩:=h₁;obtain⟨t',rfl⟩:=rep_int.mp (asInt_eq hi▸h₂);exact sub_str tk hsl (dec_tt h0) hy hs
  |ref o k=>exact bind_some e fun m hm e=>by obtain⟨a,rfl,ha⟩:=h₁;exact subC_rule tk hsl e hs (hs.cellAt hm ha) h₂
  |_=>exact no_some e
end
end Mine
namespace Mine
variable {T:Tabs}{G:Gx}{g:Gh}{σ:Sg}{s:Shared}{A:Around}{X:Value→Shared→Prop}
theorem mapSeq_list(f:Array Value→Array Value)(rs:Array Value)(n:Nat): ∃n',Obj.mapSeq f {cls:= .type "list",data:= .seq rs n}={cls:= .type "list",data:= .seq (f rs) n'}:=⟨_,rfl⟩
theorem Tn.list{o:Bool}{k:Nat}{a:Addr}{rs rs':List Value}{n:Nat}{vs':List V}{f:Array Value→Array Value}{t:Nat}(hs:St T G g σ s)(ha:(g.sel o)[k]? =some a)
    (ho:s.heap.get? a=some {cls:= .type "list",data:= .seq (List.toArray rs) n}) (hf:f rs.toArray=rs'.toArray) (hr:RepL T G.w.params g vs' rs') (hfr:(o||freeL vs')=true):
    Tn T G g σ (σ.set o k (.list vs')) s {s with heap:=s.heap.update a (Obj.mapSeq f),toks:=t}:=by
  obtain⟨n',e⟩:=mapSeq_list f rs.toArray n
  exact⟨g,Step.turn hs ha (Heap.SameBut.update ..) ⟨rs',n',by rw [Heap.get?_update_self _ ho (by rw [e];rfl),e,hf],hr⟩ hfr⟩
theorem setItem_at{l:Addr}{items:Array Value}{n:Nat}{k:Int}{t:Tok}{v:Value}{Q:Unit→Shared→Prop}{prog:Program}{w:World}{E:Value→Shared→Prop}(ho:s.heap.get? l=some {cls:= .type "list",data:= .seq items n})
    (h0:0≤k) (hfit:k<2 ^ 63) (hn:k<items.size) (hQ:Q () {s with heap:=s.heap.update l (Obj.mapSeq (·.setIfInBounds k.toNat v))}):wpAny (model prog w) A (setItem (.ref l) (.int k t) v) Q E s:=by
  have hl:s.heap.IsList l items:=⟨_,ho,rfl,n,rfl⟩
  unfold setItem
  try with_reducible refine wpAny_holding ?_
  first |refine wpAny_bind (wpAny_pure ?_)|skip
  refine wpAny_bind (wpAny_sequenceKey hl.typeIs (by decide) ?_)
  refine wpAny_bind (wpAny_callSpecial?_slot (name:=Str.ofString "__setitem__") hl.typeIs slot_list_setitem
    (wpAny_call_entry slot_list_setitem hl.typeIs entry_list_setitem ?_ (args_list_setitem _ _ _)))
  show wpAny _ _ (Builtin.List.listSubscript? (.int k t)>>=_) _ _ s
  refine wpAny_bind (wpAny_listSubscript_int (fitsIndex_of h0 hfit) ?_)
  clear hfit
  obtain⟨j,rfl⟩:=Int.eq_ofNat_of_zero_le h0
  have hj:j<items.size:=by omega
  have hx':items[j]? =some items[j] :=Array.getElem?_eq_getElem hj
  show wpAny _ _ ((seqItemAt l j>>=fun r=>pure (r.map (j, ·)))>>=_) _ _ s
  refine wpAny_bind (wpAny_bind (wpAny_seqItemAt ho rfl (wpAny_pure ?_)))
  rw [hx']
  show wpAny _ _ (setSeqItemAt l j v>>=_) _ _ s
  refine wpAny_bind (wpAny_setSeqItemAt ho rfl ?_)
  first
    |exact wpAny_bind (wpAny_pure (wpAny_pure ⟨.none,rfl,wpAny_pure hQ⟩))
    |exact wpAny_pure ⟨.none,rfl,wpAny_pure hQ⟩
theorem map_same{ks:List (Str×Value)}{y:Str}{r:Value}(h:y∉ks.map (·.1)):(ks.map fun kv=>if kv.1=y then(kv.1,r) else kv)=ks:=by
  induction ks with
  |nil=>rfl
  | cons p l ih=>
    rw [List.map_cons,if_neg fun q:p.1=y=>h (q▸ .head _),ih fun q=>h (.tail _ q)]
theorem any_key{ks:List (Str×Value)}{y:Str}:(ks.any fun kv=>decide (kv.1=y))=true↔y∈ks.map (·.1):=by
  rw [List.any_eq_true,List.mem_map]
  exact⟨fun⟨p,h1,h2⟩=>⟨p,h1,dec_tt h2⟩,fun⟨p,h1,h2⟩=>⟨p,h1,decide_eq_true h2⟩⟩
theorem stored_cons{ks:List (Str×Value)}{p:Str×Value}{y:Str}{r:Value}(h:p.1≠y):stored (p::ks) y r=p::stored ks y r:=by
  unfold stored
  rw [List.any_cons,decide_eq_false h,Bool.false_or]
  by_cases q:(ks.any fun kv=>decide (kv.1=y))=true
  · rw [if_pos q,if_pos q,List.map_cons,if_neg h]
  · rw [if_neg q,if_neg q];rfl
theorem stored_put (hi:Inj T) {P:Params} {x:Nat} {v:V} {r:Value} {ks:List Nat}: ∀{vs:List V} {kvs:List (Str×Value)} {q:List Nat×List V},(kvs.map (·.1)).Nodup→kvs.map (·.1)=ks.map T.nm→RepL T P g vs (kvs.map (·.2))→Rep T P g v r→putF ks vs x v=some q→
    (stored kvs (T.nm x) r).map (·.1)=q.1.map T.nm∧RepL T P g q.2 ((stored kvs (T.nm x) r).map (·.2)):=by
  induction ks with
  | nil=>
    intro vs kvs q _ h hr hv e
    cases kvs with
    |nil=>exact og_some e fun _ e=>by subst e;exact⟨rfl,.cons hv .nil⟩
    |cons p kvs=>cases h
  | cons k ks ih=>
    intro vs kvs q nd h hr hv e
    cases vs with
    |nil=>exact no_some e
    |cons w vs=>
    cases kvs with
    |nil=>cases h
    | cons p kvs=>
      obtain⟨h0,h'⟩:=List.cons.inj h
      obtain⟨q,rs,hrs,h1,h2⟩:=hr
      obtain⟨e1,e2⟩:=List.cons.inj hrs
      subst e1 e2
      obtain⟨n1,n2⟩:=List.nodup_cons.mp nd
      by_cases hx:k=x
      · subst hx
        obtain rfl:=Option.some.inj ((if_pos rfl).symm.trans e)
        have h0:p.1=T.nm k:=h0
        have n1:T.nm k∉kvs.map (·.1):=h0▸n1
        unfold stored
        rw [if_pos (any_key.mpr (h0▸ .head _)),List.map_cons,if_pos h0,map_same n1]
        exact⟨congr (congrArg List.cons h0) h',.cons hv h2⟩
      · refine map_some ((if_neg hx).symm.trans e) fun a ha e=>?_
        subst e
        obtain⟨i1,i2⟩:=ih n2 h' h2 hv ha
        rw [stored_cons fun q=>hx (hi _ _ (h0.symm.trans q))]
        exact⟨congr (congrArg List.cons h0) i1,.cons h1 i2⟩
section
variable {K:Type}[DecidableEq K]{k x:K}{v:Value}
theorem valueAt_hit{p:K×Value}{l:List (K×Value)}(h:p.1=x):valueAt (p::l) x=some p.2:=by unfold valueAt;rw [List.find?_cons,decide_eq_true h];rfl
theorem valueAt_miss{p:K×Value}{l:List (K×Value)}(h:p.1≠x):valueAt (p::l) x=valueAt l x:=by unfold valueAt;rw [List.find?_cons,decide_eq_false h]
theorem valueAt_map: ∀(l:List (K×Value)),x≠k→valueAt (l.map fun kv=>if kv.1=k then(kv.1,v) else kv) x=valueAt l x
  | [],_=>rfl
  | p ::l,h=>by
    rw [List.map_cons]
    by_cases hp:p.1=k
    · have hx:p.1≠x:=fun q=>h (q.symm.trans hp)
      rw [if_pos hp,valueAt_miss hx,valueAt_miss (p:=(p.1,v)) hx,valueAt_map l h]
    · rw [if_neg hp]
      by_cases hx:p.1=x
      · rw [valueAt_hit hx,valueAt_hit hx]
      · rw [valueAt_miss hx,valueAt_miss hx,valueAt_map l h]
theorem valueAt_end: ∀(l:List (K×Value)),x≠k→valueAt (l++ [(k,v)]) x=valueAt l x
  | [],h=>valueAt_miss (p:=(k,v)) (l:= []) h.symm
  | p::l,h=>by
    rw [List.cons_append]
    by_cases hx:p.1=x
    · rw [valueAt_hit hx,valueAt_hit hx]
    · rw [valueAt_miss hx,valueAt_miss hx,valueAt_end l h]
theorem valueAt_new: ∀(l:List (K×Value)),(l.any fun kv=>decide (kv.1=k))=false→valueAt (l++ [(k,v)]) k=some v
  | [],_=>valueAt_hit (p:=(k,v)) (l:= []) rfl
  | p::l,h=>by
    rw [List.any_cons,Bool.or_eq_false_iff] at h
    rw [List.cons_append,valueAt_miss (of_decide_eq_false h.1),valueAt_new l h.2]
theorem valueAt_old: ∀(l:List (K×Value)),(l.any fun kv=>decide (kv.1=k))=true→valueAt (l.map fun kv=>if kv.1=k then(kv.1,v) else kv) k=some v
  | p ::l,h=>by
    rw [List.map_cons]
    by_cases hp:p.1=k
    · rw [if_pos hp,valueAt_hit (p:=(p.1,v)) hp]
    · rw [List.any_cons,decide_eq_false hp,Bool.false_or] at h
      rw [if_neg hp,valueAt_miss hp,valueAt_old l h]
theorem valueAt_stored(kvs:List (K×Value))(k:K)(v:Value)(x:K):valueAt (stored kvs k v) x=if x=k then some v else valueAt kvs x:=by
  unfold stored
  by_cases hx:x=k
  · subst hx
    rw [if_pos rfl]
    cases hb:kvs.any fun kv=>decide (kv.1=x) with
    |true=>rw [if_pos rfl];exact valueAt_old kvs hb
    |false=>rw [if_neg (by decide)];exact valueAt_new kvs hb
  · rw [if_neg hx]
    cases kvs.any fun kv=>decide (kv.1=k) with
    |true=>rw [if_pos rfl];exact valueAt_map kvs hx
    |false=>rw [if_neg (by decide)];exact valueAt_end kvs hx
end
theorem set_free{vs:List V}{v:V}(i:Nat)(h1:freeL vs=true)(h2:v.free=true):freeL (vs.set i v)=true:=freeL_mem.mpr fun w hw=>(List.mem_or_eq_of_mem_set hw).elim (freeL_mem.mp h1 w) fun q=>q▸h2
theorem setC_list{o:Bool}{k:Nat}{a:Addr}{vs:List V}{v:V}{i:Int}{t:Tok}{r:Value}(hc:σ.get o k=some (.list vs))(h0:0≤i)(h1:i<vs.length)(h2:i<lineN)(h3:(o||v.free)=true)(hs:St T G g σ s)(ha:(g.sel o)[k]? =some a)(hr:Rep T G.w.params g v r):
    wpAny (model PW G.w) A (setItem (.ref a) (.int i t) r) (fun _=>Tn T G g σ (σ.set o k (.list (vs.set i.toNat v))) s) X s:=by
  obtain⟨rs,n,ho,hl⟩:=hs.cellAt hc ha
  exact setItem_at ho h0 (Int.lt_trans h2 (by decide)) (by rw [List.size_toArray,hl.length];exact h1) (Tn.list (t:=s.toks) (rs':=rs.set i.toNat r) hs ha ho (List.setIfInBounds_toArray ..) (hl.set _ hr) (cell_free (m':= .list _) hs hc h3 (set_free _)))
theorem setC_ints{o:Bool}{k:Nat}{a:Addr}{f:Int→Option Int}{n:Nat}{i j:Int}{t t':Tok}(hc:σ.get o k=some (.idict f n))(hn:n≤lineN)(hs:St T G g σ s)(ha:(g.sel o)[k]? =some a):
    wpAny (model PW G.w) A (setItem (.ref a) (.int i t) (.int j t')) (fun _=>Tn T G g σ (σ.set o k (.idict (fun a=>if a=i then some j else f a) (n+1))) s) X s:=by
  obtain⟨kvs,hd,hf,hz⟩:=hs.cellAt hc ha
  refine wpAny_setItem_pairs (knd:=intKind PW G.w) (k:=i) (beq_self_eq_true i) hd (fun h' hd' hsb=>?_) (by rw [sizeLine_eq];exact Nat.le_trans (Nat.le_trans hz hn) (by decide))
  refine⟨g,Step.turn hs ha hsb ⟨_,hd',fun k'=>?_,Nat.le_trans (stored_length_le _ _ _) (Nat.succ_le_succ hz)⟩ (Bool.or_true o)⟩
  rw [valueAt_stored]
  show IntVal (if k'=i then some j else f k') _
  by_cases hk:k'=i
  · rw [if_pos hk,if_pos hk];exact⟨_,rfl⟩
  · rw [if_neg hk,if_neg hk];exact hf k'
theorem setC_strs{o:Bool}{k x:Nat}{a:Addr}{ks:List Nat}{vs:List V}{v:V}{t:Tok}{r:Value}{q:List Nat×List V}(hi:Inj T)(hc:σ.get o k=some (.sdict ks vs))(h1:ks.length≤100)(h3:(o||v.free)=true)(hp:putF ks vs x v=some q)(hs:St T G g σ s)(ha:(g.sel o)[k]? =some a)(hr:Rep T G.w.params g v r):
    wpAny (model PW G.w) A (setItem (.ref a) (.str (T.nm x) t) r) (fun _=>Tn T G g σ (σ.set o k (.sdict q.1 q.2)) s) X s:=by
  obtain⟨kvs,hd,hk,hv⟩:=hs.cellAt hc ha
  have hkl:kvs.length=ks.length:=by have:=congrArg List.length hk;rwa [List.length_map,List.length_map] at this
  obtain⟨_,_,_,_,_,_,_,_,nd⟩:=id hd
  refine wpAny_setItem_pairs (knd:=strKind PW G.w) (isStr _ t) hd (fun h' hd' hsb=>?_) (by rw [hkl,sizeLine_eq];exact Nat.le_trans h1 (by decide))
  obtain⟨j1,j2⟩:=stored_put hi nd hk hv hr hp
  exact⟨g,Step.turn hs ha hsb ⟨_,hd',j1,j2⟩ (cell_free (m':= .sdict _ _) hs hc h3 fun f1 f2=>putF_free hp f1 f2)⟩
theorem setSub_rule {u v w:V} {σ':Sg} {r q p:Value} (hi:Inj T) (e:setSub σ w u v=some σ') (hs:St T G g σ s) (h₀:Rep T G.w.params g w p) (h₁:Rep T G.w.params g u q) (h₂:Rep T G.w.params g v r):
    wpAny (model PW G.w) A (setItem p q r) (fun _=>Tn T G g σ σ' s) X s:=
  bind_some e fun z hz e=>map_some e fun m' hm' e=>bind_some hm' fun m hm hm'=>by
    subst e
    obtain⟨a,rfl,ha⟩:=rep_ref.mp (asRef_eq hz▸h₀)
    cases m with
    | list vs=>
      exact bind_some hm' fun i hi' e=>og_some e fun h e=>and_tt h fun h h4=>and_tt h fun h h3=>and_tt h fun h1 h2=>by
        subst e
        obtain⟨t,rfl⟩:=rep_int.mp (asInt_eq hi'▸h₁);exact setC_list hm (dec_tt h1) (dec_tt h2) (dec_tt h3) h4 hs ha h₂
    | idict f n=>
      exact bind_some hm' fun i hi' e=>bind_some e fun j hj e=>og_some e fun h e=>by
        subst e
        obtain⟨t,rfl⟩:=rep_int.mp (asInt_eq hi'▸h₁);obtain⟨t',rfl⟩:=rep_int.mp (asInt_eq hj▸h₂);exact setC_ints hm (dec_tt h) hs ha
    | sdict ks vs=>
      exact bind_some hm' fun x hx e=>cond_some e fun h e=>map_some e fun y hy e=>and_tt h fun h1 h2=>by
        subst e
        obtain⟨t,rfl⟩:=rep_str.mp (asStr_eq hx▸h₁);exact setC_strs hi hm (dec_tt h1) h2 hy hs ha h₂
    |dict ks vs=>exact no_some hm'
end Mine
namespace Mine
variable {T:Tabs}{G:Gx}{g:Gh}{σ:Sg}{s:Shared}{A:Around}{X:Value→Shared→Prop}
theorem repL_one{P:Params}{v:V}{rs:List Value}(h:RepL T P g [v] rs): ∃r,rs= [r] ∧Rep T P g v r:=by
  obtain⟨r,rs',rfl,h1,h2⟩:=repL_cons.mp h
  rw [repL_nil.mp h2];exact⟨r,rfl,h1⟩
theorem repL_two{P:Params}{v w:V}{rs:List Value}(h:RepL T P g [v,w] rs): ∃r q,rs= [r,q] ∧Rep T P g v r∧Rep T P g w q:=by
  obtain⟨r,rs',rfl,h1,h2⟩:=repL_cons.mp h
  obtain⟨q,rfl,h3⟩:=repL_one h2
  exact⟨r,q,rfl,h1,h3⟩
theorem Pr.lstAt{vs:List V}{rs:List Value}{n:Nat}{a:Addr}{s':Shared}(hs:St T G g σ s)(h:RepL T G.w.params g vs rs)(ha:s.heap.get? a=none)(ho:s'.heap.get? a=some {cls:= .type "list",data:= .seq (List.toArray rs) n})
    (k: ∀b o,s.heap.get? b=some o→s'.heap.get? b=some o) (hg:s'.gens=s.gens) (hos:s'.os=s.os):Pr T G g σ s (.lst vs) (.ref a) s':=by
  have sp:=Step.fresh hs ha ho k hg hos
  exact⟨_,sp,rep_lst.mpr ⟨a,rs,n,rfl,by simp [FH.put],h.mono sp.le⟩⟩
theorem Pr.tupAt{vs:List V}{rs:List Value}{n:Nat}{a:Addr}{s':Shared}(hs:St T G g σ s)(h:RepL T G.w.params g vs rs)(ha:s.heap.get? a=none)(ho:s'.heap.get? a=some {cls:= .type "tuple",data:= .seq (List.toArray rs) n})
    (k: ∀b o,s.heap.get? b=some o→s'.heap.get? b=some o) (hg:s'.gens=s.gens) (hos:s'.os=s.os):Pr T G g σ s (.tup vs) (.ref a) s':=by
  have sp:=Step.fresh hs ha ho k hg hos
  exact⟨_,sp,rep_tup.mpr ⟨a,rs,n,rfl,by simp [FH.put],h.mono sp.le⟩⟩
theorem preSum_ints: ∀(xs:List Int),preSum (fun i=>xs.getD i 0) xs.length=xs.sum:=by
  have key: ∀(xs:List Int) (n:Nat),n≤xs.length→preSum (fun i=>xs.getD i 0) n=(xs.take n).sum:=by
    intro xs n
    induction n with
    |zero=>intro _;rfl
    | succ n ih=>
      intro h
      show preSum _ n+_=_
      rw [ih (by omega),List.take_succ,List.sum_append]
      have:xs[n]? =some xs[n] :=List.getElem?_eq_getElem (by omega)
      simp [this]
  intro xs
  rw [key xs _ (Nat.le_refl _),List.take_length]
theorem intsAt{P:Params}: ∀{vs:List V} {rs:List Value} {xs:List Int},RepL T P g vs rs→intsOf vs=some xs→xs.length=rs.length∧ ∀(i:Nat) (v:Value),rs[i]? =some v→ ∃t,v=Value.int (xs.getD i 0) t
  | [],_,_,h,e=>by cases h;cases e;exact⟨rfl,fun i v e=>nomatch e⟩
  | v::vs,_,_,h,e=>by
    obtain⟨r,rs',rfl,h1,h2⟩:=h
    obtain⟨x,ys,rfl,rfl,e'⟩:=intsOf_cons e
    obtain⟨t,rfl⟩:=h1
    obtain⟨i1,i2⟩:=intsAt h2 e'
    refine⟨congrArg (· +1) i1,fun i v=>?_⟩
    cases i with
    |zero=>exact fun e=>⟨t,(Option.some.inj e).symm⟩
    |succ i=>exact i2 i v
section
variable {v u:V}{r:Value}
theorem line63{n:Nat}(h:n≤lineN):(n:Int)<9223372036854775808:=Int.lt_of_le_of_lt (Int.ofNat_le.mpr h) (by decide)
theorem len_list{a:Addr}{qs:List Value}{vs:List V}{n:Nat}(e:og (decide (vs.length≤lineN)) (vs.length:Int)=some k)(hs:St T G g σ s)(ho:s.heap.get? a=some {cls:= .type "list",data:= .seq qs.toArray n})(hr:RepL T G.w.params g vs qs):
    wpAny (model PW G.w) A (PySem.call (.builtin "len") [.ref a]) (Pr T G g σ s (.int k)) X s:=
  og_some e fun h e=>by
    subst e
    rw [←hr.length] at h ⊢
    exact call_len_list (items:=qs.toArray) ⟨_,ho,rfl,n,rfl⟩ (line63 (dec_tt h)) (.toks hs (.int _ _))
theorem len_tup{a:Addr}{qs:List Value}{vs:List V}{n:Nat}(h:vs.length≤lineN)(hs:St T G g σ s)(ho:s.heap.get? a=some {cls:= .type "tuple",data:= .seq qs.toArray n})(hr:RepL T G.w.params g vs qs):
    wpAny (model PW G.w) A (PySem.call (.builtin "len") [.ref a]) (Pr T G g σ s (.int vs.length)) X s:=by
  rw [←hr.length] at h ⊢
  exact len_tuple (items:=qs.toArray) ⟨_,ho,rfl,n,rfl⟩ (line63 h) (.toks hs (.int _ _))
theorem lenC_rule{a:Addr}{m:Cell}{k:Int}(e:lenC m=some k)(hs:St T G g σ s)(ha:a∈g.act)(h:RepM T G.w g s.heap a m):wpAny (model PW G.w) A (PySem.call (.builtin "len") [.ref a]) (Pr T G g σ s (.int k)) X s:=by
  cases m with
  |list vs=>obtain⟨qs,n,ho,hr⟩:=h;exact len_list e hs ho hr
  | sdict ks vs=>
    exact og_some e fun hl e=>by
      subst e
      obtain⟨kvs,hd,hk,hv⟩:=h
      have hkl:kvs.length=ks.length:=by have:=congrArg List.length hk;rwa [List.length_map,List.length_map] at this
      rw [←hkl] at hl ⊢
      exact call_len_dict (hs.noSys ha) hd (Int.lt_of_le_of_lt (Int.ofNat_le.mpr (dec_tt hl)) (by decide)) (.toks hs (.int _ _))
  |_=>exact no_some e
theorem pLen_rule(tk:TabOk T)(e:pLen T σ v=some u)(hs:St T G g σ s)(h:Rep T G.w.params g v r):wpAny (model PW G.w) A (PySem.call (.builtin "len") [r]) (Pr T G g σ s u) X s:=by
  cases v with
  | str x=>
    exact map_some e fun n hn e=>by
      subst e
      obtain⟨t,rfl⟩:=h
      obtain⟨k1,k2⟩:=tk.len _ _ hn
      rw [←k1]
      exact PySem.P.len_str (by rw [k1];omega) (.toks hs (.int _ _))
  |ref o k=>exact map_some e fun i hi e=>bind_some hi fun m hm hi=>by subst e;obtain⟨a,rfl,ha⟩:=h;exact lenC_rule hi hs (Gh.sel_mem ha) (hs.cellAt hm ha)
  |lst vs=>exact og_some e fun hl e=>by subst e;obtain⟨a,qs,n,rfl,ho,hr⟩:=hs.list h;exact len_list (by rw [hl];rfl) hs ho hr
  |tup vs=>exact og_some e fun hl e=>by subst e;obtain⟨a,qs,n,rfl,ho,hr⟩:=hs.tuple h;exact len_tup (dec_tt hl) hs ho hr
  |_=>exact no_some e
theorem pRange_rule(e:pRange v=some u)(hs:St T G g σ s)(h:Rep T G.w.params g v r):wpAny (model PW G.w) A (PySem.call (.type "range") [r]) (Pr T G g σ s u) X s:=
  bind_some e fun i hi e=>og_some e fun _ e=>by
    subst e
    obtain⟨t,rfl⟩:=rep_int.mp (asInt_eq hi▸h)
    have sp:=Step.push (t:=s.toks+1+1) hs (o:={cls:= .type "range",data:= .fields #[.int 0 s.toks,.int i t,.int 1 (s.toks+1)]}) rfl
    exact call_range_1 ⟨_,sp,rep_rng.mpr ⟨s.heap.objs.size,s.toks,t,s.toks+1,rfl,if_pos rfl⟩⟩
theorem pAbs_rule(e:pAbs v=some u)(hs:St T G g σ s)(h:Rep T G.w.params g v r):wpAny (model PW G.w) A (PySem.call (.builtin "abs") [r]) (Pr T G g σ s u) X s:=
  map_some e fun i hi e=>by
    subst e
    obtain⟨t,rfl⟩:=rep_int.mp (asInt_eq hi▸h)
    refine call_abs_int fun u tk=>?_
    have:(if i<0 then -i else i)=(i.natAbs:Int):=by split<;>omega
    rw [this];exact .toks hs (.int _ _)
theorem pInt_rule(e:pInt v=some u)(hs:St T G g σ s)(h:Rep T G.w.params g v r):wpAny (model PW G.w) A (PySem.call (.type "int") [r]) (Pr T G g σ s u) X s:=by
  cases v with
  |int i=>cases e;obtain⟨t,rfl⟩:=h;exact call_int_int (.here hs (.int _ _))
  |bool b=>cases e;cases h;exact call_int_bool (.toks hs (.int _ _))
  |_=>exact no_some e
theorem pSum_rule(hh:A.handled=none)(e:pSum v=some u)(hs:St T G g σ s)(h:Rep T G.w.params g v r):wpAny (model PW G.w) A (PySem.call (.builtin "sum") [r]) (Pr T G g σ s u) X s:=
  map_some e fun xs hx e=>bind_some hx fun vs hv hx=>by
    subst e
    obtain⟨a,qs,n,rfl,ho,hr⟩:=hs.list (asLst_eq hv▸h)
    obtain⟨i1,i2⟩:=intsAt hr hx
    have hl:s.heap.IsList a qs.toArray:=⟨_,ho,rfl,n,rfl⟩
    have hne:a≠s.heap.objs.size:=Nat.ne_of_lt (Heap.lt_size ho)
    refine call_sum_walkG (wpAny_pyIter_list hl ⟨_,_,_,_,_,_,fun i=>xs.getD i 0,rfl,Walks.list (prog:=PW) (w:=G.w) (A:=A.in1) hh s.heap.objs.size a hne qs.toArray,?_,?_,fun i v hv=>i2 i v ((List.getElem?_toArray ..).symm.trans hv),fun h' tk t' k=>?_⟩)
    · exact⟨⟨_,Heap.get?_push_size _ rfl,rfl,rfl⟩,hl.at fun o e=>Heap.get?_push_of_some _ e⟩
    · intro b hb
      show b< (s.heap.push _).objs.size
      rw [Heap.size_push]
      rcases List.mem_cons.mp hb with rfl |hb
      · exact Nat.lt_succ_self _
      · rw [List.mem_singleton.mp hb];exact Nat.lt_succ_of_lt (Heap.lt_size ho)
    · rw [show qs.toArray.size=xs.length from i1.symm,preSum_ints]
      exact⟨g,Step.grow hs (fun b o e=>k b o (fun m=>Nat.ne_of_lt (Heap.lt_size e) (List.mem_singleton.mp m)) (Heap.get?_push_of_some _ e)) rfl rfl,.int _ _⟩
theorem pList_rule(e:pList v=some u)(hs:St T G g σ s)(h:Rep T G.w.params g v r):wpAny (model PW G.w) A (PySem.call (.type "list") [r]) (Pr T G g σ s u) X s:=
  bind_some e fun vs hv e=>og_some e fun hl e=>by
    subst e
    obtain⟨a,qs,n,rfl,ho,hr⟩:=hs.tuple (asTup_eq hv▸h)
    exact call_list_seq a (.inr rfl) ho rfl rfl (fun h' c' k hD=> .lstAt hs hr (none_size _) hD k rfl rfl) (by rw [List.size_toArray,hr.length];exact Nat.le_trans (dec_tt hl) lineN_le)
theorem pTuple_rule(e:pTuple v=some u)(hs:St T G g σ s)(h:Rep T G.w.params g v r):wpAny (model PW G.w) A (PySem.call (.type "tuple") [r]) (Pr T G g σ s u) X s:=
  bind_some e fun vs hv e=>og_some e fun hl e=>by
    subst e
    obtain⟨a,qs,n,rfl,ho,hr⟩:=hs.list (asLst_eq hv▸h)
    refine call_tuple_list (items:=qs.toArray) ⟨_,ho,rfl,n,rfl⟩ (fun h' k=>?_) (by rw [List.size_toArray,hr.length];exact Nat.le_trans (dec_tt hl) lineN_le)
    have hn:s.heap.get? h'.objs.size=none:=by
      cases q:s.heap.get? h'.objs.size with
      |none=>rfl
      |some o=>exact absurd (Heap.lt_size (k _ _ q)) (Nat.lt_irrefl _)
    exact .tupAt hs hr hn (Heap.get?_push_size _ rfl) (fun b o e=>Heap.get?_push_of_some _ (k _ _ e)) rfl rfl
theorem prim_rule{p:Nat}{vs:List V}{rs:List Value}(tk:TabOk T)(hh:A.handled=none)(e:primV T σ p vs=some u)(hs:St T G g σ s)(h:RepL T G.w.params g vs rs):
    wpAny (model PW G.w) A (PySem.call (primVal p) rs) (Pr T G g σ s u) X s:=
  bind_some e fun v hv e=>by
    obtain⟨r,rfl,h1⟩:=repL_one (one_eq hv▸h)
    exact match p,e with
    |0,e=>pLen_rule tk e hs h1
    |1,e=>pRange_rule e hs h1
    |2,e=>pAbs_rule e hs h1
    |3,e=>pInt_rule e hs h1
    |4,e=>pSum_rule hh e hs h1
    |5,e=>pList_rule e hs h1
    |6,e=>pTuple_rule e hs h1
    |_+7,e=>no_some e
end
noncomputable def BM.id:BM→String
  | .append=>"list.append" | .reverse=>"list.reverse" | .remove=>"list.remove" | .index=>"list.index" | .split0=>"str.split" | .split1=>"str.split" | .starts=>"str.startswith" | .get=>"dict.get"
noncomputable def BM.type:BM→String
  | .append=>"list" | .reverse=>"list" | .remove=>"list" | .index=>"list" | .split0=>"str" | .split1=>"str" | .starts=>"str" | .get=>"dict"
theorem BM.slot: ∀m:BM,Slot m.type m.name m.id
  | .append=>PySem.F.slot_list_append | .reverse=>PySem.F.slot_list_reverse | .remove=>PySem.F.slot_list_remove | .index=>PySem.F.slot_list_index
  | .split0=>PySem.F.slot_str_split | .split1=>PySem.F.slot_str_split | .starts=>PySem.F.slot_str_startswith | .get=>PySem.F.slot_dict_get
theorem BM.plain: ∀m:BM,PlainAttrs m.type
  | .append=>PySem.F.plainAttrs_list | .reverse=>PySem.F.plainAttrs_list | .remove=>PySem.F.plainAttrs_list | .index=>PySem.F.plainAttrs_list
  | .split0=>PySem.F.plainAttrs_str | .split1=>PySem.F.plainAttrs_str | .starts=>PySem.F.plainAttrs_str | .get=>PySem.F.plainAttrs_dict
theorem BM.desc: ∀m:BM,typeOf (.builtin m.id)=pure (.type "method_descriptor")
  | .append=>PySem.F.type_list_append | .reverse=>PySem.F.type_list_reverse | .remove=>PySem.F.type_list_remove | .index=>PySem.F.type_list_index
  | .split0=>PySem.F.type_str_split | .split1=>PySem.F.type_str_split | .starts=>PySem.F.type_str_startswith | .get=>PySem.F.type_dict_get
noncomputable def BM.Self(m:BM)(s:Shared)(r:Value):Prop:=s.TypeIs r m.type∧ ∀a,r= .ref a→ ∃ob,s.heap.get? a=some ob∧ob.dict=none
noncomputable def Ps(T:Tabs)(G:Gx)(g:Gh)(σ σ':Sg)(s:Shared)(u:V):Value→Shared→Prop:=fun r s'=> ∃g',Step T G g σ s g' σ' s'∧Rep T G.w.params g' u r
theorem Ps.none{σ':Sg}{s':Shared}(h:Tn T G g σ σ' s s'):Ps T G g σ σ' s .none .none s':=let⟨g',h⟩:=h;⟨g',h,.none⟩
theorem words_repl{l:List (Str×Tok)}{xs:List Nat}{P:Params}(h:l.map (·.1)=xs.map T.nm):RepL T P g (xs.map .str) (strValues l):=by
  induction l generalizing xs with
  | nil=>cases xs with
    |nil=>exact .nil
    |cons _ _=>simp at h
  | cons p l ih=>cases xs with
    |nil=>simp at h
    | cons x xs=>
      simp only [List.map_cons,List.cons.injEq] at h
      refine .cons ?_ (ih h.2)
      exact rep_str.mpr ⟨p.2,by show Value.str p.1 p.2=_;rw [h.1]⟩
theorem bm_index(hi:Inj T){x:Nat}{xs:List Nat}(h:xs.contains x=true):(xs.map T.nm).idxOf (T.nm x)=xs.idxOf x:=by
  clear h
  induction xs with
  |nil=>rfl
  | cons y ys ih=>
    simp only [List.map_cons,List.idxOf_cons,ih]
    have:(T.nm y==T.nm x)=(y==x):=by
      rw [Bool.eq_iff_iff,beq_iff_eq,beq_iff_eq];exact⟨fun e=>hi _ _ e,fun e=>by rw [e]⟩
    rw [this]
theorem strs_len{P:Params}: ∀{vs:List V} {rs:List Value} {xs:List Nat},RepL T P g vs rs→strsOf vs=some xs→rs.length=xs.length
  | [],_,_,h,e=>by cases h;cases e;rfl
  | v::vs,_,_,h,e=>by
    obtain⟨r,rs',rfl,h1,h2⟩:=h
    obtain⟨y,ys,rfl,rfl,e'⟩:=strsOf_cons e
    exact congrArg (· +1) (strs_len h2 e')
theorem nm_beq(hi:Inj T)(x y:Nat):(T.nm y==T.nm x)=(y==x):=by
  rw [Bool.eq_iff_iff,beq_iff_eq,beq_iff_eq];exact⟨fun e=>hi _ _ e,fun e=>by rw [e]⟩
theorem strs_at{P:Params}(hi:Inj T){x:Nat}: ∀{vs:List V} {rs:List Value} {xs:List Nat},RepL T P g vs rs→strsOf vs=some xs→ ∀(m:Nat) (h1:m<rs.length) (h2:m<xs.length),isStrOf (T.nm x) rs[m] =(xs[m] ==x)
  | [],_,_,h,e=>by cases h;exact fun m h1=>absurd h1 (Nat.not_lt_zero _)
  | v::vs,_,_,h,e=>by
    obtain⟨r,rs',rfl,h1,h2⟩:=h
    obtain⟨y,ys,rfl,rfl,e'⟩:=strsOf_cons e
    obtain⟨t,rfl⟩:=h1
    intro m
    cases m with
    |zero=>exact fun _ _=>nm_beq hi x y
    |succ m=>exact fun h3 h4=>strs_at hi h2 e' m (Nat.lt_of_succ_lt_succ h3) (Nat.lt_of_succ_lt_succ h4)
theorem first_at{P:Params}(hi:Inj T){vs:List V}{rs:List Value}{xs:List Nat}{x:Nat}(h:RepL T P g vs rs)(e:strsOf vs=some xs)(hx:xs.contains x=true):
    ∃hj:xs.idxOf x<rs.toArray.size,isStrOf (T.nm x) rs.toArray[xs.idxOf x] =true∧ ∀m (hm:m<rs.toArray.size),m<xs.idxOf x→isStrOf (T.nm x) rs.toArray[m] =false:=by
  have hl:=strs_len h e
  have hat:=strs_at (x:=x) hi h e
  have hj:xs.idxOf x<xs.length:=List.idxOf_lt_length_iff.mpr (List.contains_iff_mem.mp hx)
  have hj':xs.idxOf x<rs.length:=hl.symm▸hj
  refine⟨hj',(hat _ hj' hj).trans (beq_iff_eq.mpr (List.getElem_idxOf hj)),fun m hm hlt=>(hat m hm (Nat.lt_trans hlt hj)).trans ?_⟩
  have:=List.not_of_lt_findIdx (p:=(· ==x)) (xs:=xs) hlt
  simpa using this
theorem strs_all{P:Params}: ∀{vs:List V} {rs:List Value} {xs:List Nat},RepL T P g vs rs→strsOf vs=some xs→RepL T P g (xs.map .str) rs
  | [],_,_,h,e=>by cases e;exact h
  | v::vs,_,_,h,e=>by
    obtain⟨r,rs',rfl,h1,h2⟩:=h
    obtain⟨y,ys,rfl,rfl,e'⟩:=strsOf_cons e
    exact .cons h1 (strs_all h2 e')
theorem erase_at{P:Params}{x:Nat}: ∀{vs:List V} {rs:List Value} {xs:List Nat},RepL T P g vs rs→strsOf vs=some xs→xs.contains x=true→RepL T P g ((xs.erase x).map .str) (rs.eraseIdx (xs.idxOf x))
  | [],_,_,_,e,hx=>by cases e;cases hx
  | v ::vs,_,_,h,e,hx=>by
    obtain⟨r,rs',rfl,h1,h2⟩:=h
    obtain⟨y,ys,rfl,rfl,e'⟩:=strsOf_cons e
    by_cases hy:y=x
    · subst hy
      rw [List.erase_cons_head,List.idxOf_cons_self,List.eraseIdx_cons_zero]
      exact strs_all h2 e'
    · have hb:(y==x)=false:=beq_eq_false_iff_ne.mpr hy
      rw [List.contains_cons,beq_eq_false_iff_ne.mpr (Ne.symm hy),Bool.false_or] at hx
      rw [List.erase_cons_tail (by rw [hb];decide),List.idxOf_cons,hb]
      exact .cons h1 (erase_at h2 e' hx)
section
variable {v u:V}{ws:List V}{σ':Sg}{r:Value}{rs:List Value}
theorem strs_free(xs:List Nat):freeL (xs.map V.str)=true:=freeL_mem.mpr fun w hw=>by obtain⟨y,_,rfl⟩:=List.mem_map.mp hw;rfl
theorem rev_free{vs:List V}(h:freeL vs=true):freeL vs.reverse=true:=freeL_mem.mpr fun w hw=>freeL_mem.mp h w (List.mem_reverse.mp hw)
theorem app_free{vs:List V}{w:V}(h:freeL vs=true)(k:w.free=true):freeL (vs++ [w])=true:=by rw [freeL_app,h];exact(Bool.and_true _).trans k
theorem list_at{p:Bool×Nat×List V}(e:lstAt σ v=some p)(hs:St T G g σ s)(h:Rep T G.w.params g v r){P:Prop}
    (k: ∀a qs n,r= .ref a→σ.get p.1 p.2.1=some (.list p.2.2)→(g.sel p.1)[p.2.1]? =some a→s.heap.get? a=some {cls:= .type "list",data:= .seq (List.toArray qs) n}→RepL T G.w.params g p.2.2 qs→P):P:=by
  obtain⟨e1,e2⟩:=lstAt_eq e
  obtain⟨a,hr,ha⟩:=rep_ref.mp (e1▸h)
  obtain⟨qs,n,ho,hq⟩:=hs.cellAt e2 ha
  exact k a qs n hr e2 ha ho hq
theorem append_rule(e:mAppend σ v ws=some (u,σ'))(hs:St T G g σ s)(h₁:Rep T G.w.params g v r)(h₂:RepL T G.w.params g ws rs):wpAny (model PW G.w) A (PySem.call (.builtin "list.append") (r::rs)) (Ps T G g σ σ' s u) X s:=
  bind_some e fun p hp e=>bind_some e fun w hw e=>og_some e fun h e=>and_tt h fun hl hf=>list_at hp hs h₁ fun a qs n hr hc ha ho hq=>by
    cases e;cases hr
    obtain⟨q,rfl,hw⟩:=repL_one (one_eq hw▸h₂)
    exact call_meets PySem.F.slot_list_append ⟨_,ho,rfl⟩ PySem.F.entry_list_append (PySem.F.args_list_append_2 _ _) (AutoListH.list_append_list_val_0 a qs.toArray n q (by rw [List.size_toArray,hq.length];exact Nat.le_of_lt (Nat.lt_of_lt_of_le (dec_tt hl) lineN_le))) ⟨ho,.none (Tn.list hs ha ho (rs':=qs++ [q]) (List.push_toArray ..) (hq.app (.cons hw .nil)) (cell_free (m':= .list _) hs hc hf app_free))⟩
theorem reverse_rule(e:mReverse σ v ws=some (u,σ'))(hs:St T G g σ s)(h₁:Rep T G.w.params g v r)(h₂:RepL T G.w.params g ws rs):wpAny (model PW G.w) A (PySem.call (.builtin "list.reverse") (r::rs)) (Ps T G g σ σ' s u) X s:=
  bind_some e fun p hp e=>og_some e fun h e=>and_tt h fun hw hl=>list_at hp hs h₁ fun a qs n hr hc ha ho hq=>by
    cases e;cases hr
    cases List.isEmpty_iff.mp hw
    cases h₂
    exact call_meets PySem.F.slot_list_reverse ⟨_,ho,rfl⟩ PySem.F.entry_list_reverse (PySem.F.args_list_reverse_1 _) (AutoListH.list_reverse_list_0 a qs.toArray n (by rw [List.size_toArray,hq.length];exact Nat.le_trans (dec_tt hl) lineN_le)) ⟨ho,.none (Tn.list hs ha ho (rs':=qs.reverse) (List.reverse_toArray ..) hq.rev (cell_free (m':= .list _) (p:=true) hs hc (Bool.or_true _) fun h1 _=>rev_free h1))⟩
theorem remove_rule(tk:TabOk T)(e:mRemove σ v ws=some (u,σ'))(hs:St T G g σ s)(h₁:Rep T G.w.params g v r)(h₂:RepL T G.w.params g ws rs):wpAny (model PW G.w) A (PySem.call (.builtin "list.remove") (r::rs)) (Ps T G g σ σ' s u) X s:=
  bind_some e fun p hp e=>bind_some e fun x hx e=>bind_some hx fun w hw hx=>bind_some e fun xs hxs e=>og_some e fun h e=>and_tt h fun hi hl=>list_at hp hs h₁ fun a qs n hr hc ha ho hq=>by
    cases e;cases hr
    obtain⟨q,rfl,hq'⟩:=repL_one (one_eq hw▸h₂)
    obtain⟨t,rfl⟩:=rep_str.mp (asStr_eq hx▸hq')
    obtain⟨hj,hit,hno⟩:=first_at tk.inj hq hxs hi
    refine call_meets PySem.F.slot_list_remove ⟨_,ho,rfl⟩ PySem.F.entry_list_remove (PySem.F.args_list_remove_2 _ _)
      (MeetsSeq.list_remove a qs.toArray n (.str (T.nm x) t) (isStrOf (T.nm x)) (fun y hy=>eq_isStrOf (T.nm x) t (strsAre hq hxs) y (by simpa using hy)) _ hj hit hno (by rw [List.size_toArray,strs_len hq hxs];exact Nat.le_trans (dec_tt hl) lineN_le)) ⟨ho,?_⟩
    refine .none (Tn.list (t:=s.toks) hs ha ho (rs':=qs.eraseIdx (xs.idxOf x)) ?_ (erase_at hq hxs hi) (by rw [strs_free];exact Bool.or_true _))
    have hj':xs.idxOf x<qs.length:=hj
    simp [Array.eraseIdxIfInBounds,hj']
theorem index_rule(tk:TabOk T)(e:mIndex σ v ws=some (u,σ'))(hs:St T G g σ s)(h₁:Rep T G.w.params g v r)(h₂:RepL T G.w.params g ws rs):wpAny (model PW G.w) A (PySem.call (.builtin "list.index") (r::rs)) (Ps T G g σ σ' s u) X s:=
  bind_some e fun xs hxs e=>bind_some hxs fun vs hv hxs=>bind_some e fun x hx e=>bind_some hx fun w hw hx=>og_some e fun h e=>and_tt h fun hi hl=>by
    cases e
    obtain⟨a,qs,n,rfl,ho,hr⟩:=hs.list (asLst_eq hv▸h₁)
    obtain⟨q,rfl,hq'⟩:=repL_one (one_eq hw▸h₂)
    obtain⟨t,rfl⟩:=rep_str.mp (asStr_eq hx▸hq')
    obtain⟨hj,hit,hno⟩:=first_at tk.inj hr hxs hi
    exact call_meets PySem.F.slot_list_index ⟨_,ho,rfl⟩ PySem.F.entry_list_index (PySem.F.args_list_index_2 _ _)
      (MeetsSeq.list_index a qs.toArray n (.str (T.nm x) t) (isStrOf (T.nm x)) (fun y hy=>eq_isStrOf (T.nm x) t (strsAre hr hxs) y (by simpa using hy)) _ hj (Int.lt_of_le_of_lt (Int.ofNat_le.mpr (Nat.le_trans List.idxOf_le_length (dec_tt hl))) (by decide)) hit hno) ⟨ho,Pr.toks hs (.int _ _)⟩
theorem split0_rule(tk:TabOk T)(e:mSplit0 T σ v ws=some (u,σ'))(hs:St T G g σ s)(h₁:Rep T G.w.params g v r)(h₂:RepL T G.w.params g ws rs):wpAny (model PW G.w) A (PySem.call (.builtin "str.split") (r::rs)) (Ps T G g σ σ' s u) X s:=
  cond_some e fun hw e=>map_some e fun xs hx e=>bind_some hx fun x hv hx=>by
    cases e
    cases List.isEmpty_iff.mp hw
    cases h₂
    obtain⟨t,rfl⟩:=rep_str.mp (asStr_eq hv▸h₁)
    obtain⟨k1,k2,k3⟩:=tk.split0 _ _ hx
    refine call_meets PySem.F.slot_str_split (typeIs_str _ _ _) PySem.F.entry_str_split (PySem.F.args_str_split_1 _) (meets_str_split_space _ t (by rw [sizeLine_eq];exact Nat.le_trans k2 (by decide)) (by rw [sizeLine_eq];exact Nat.le_trans k3 (by decide))) ?_
    unfold Txt.words at k1
    split
    · rename_i hw
      rw [if_pos hw] at k1
      exact Pr.lst (rs:=strValues [(_,t)]) (t:=s.toks) hs (words_repl k1)
    · rename_i hw
      rw [if_neg hw] at k1
      rw [strsFrom_eq]
      exact Pr.lst hs (words_repl ((numbered_texts _ _).trans k1))
theorem split1_go{x y:Nat}{t t':Tok}{xs:List Nat}(tk:TabOk T)(hx:T.split1 x y=some xs)(hs:St T G g σ s):wpAny (model PW G.w) A (PySem.call (.builtin "str.split") [.str (T.nm x) t,.str (T.nm y) t']) (Ps T G g σ σ s (.lst (xs.map .str))) X s:=by
  obtain⟨k1,k0,k2,k3⟩:=tk.split1 _ _ _ hx
  unfold Txt.split at k1
  split at k1
  · rename_i h1
    exact call_meets PySem.F.slot_str_split (typeIs_str _ _ _) PySem.F.entry_str_split (PySem.F.args_str_split_2 _ _) (meets_str_split_cannot_occur _ _ t t' h1) (Pr.lst (rs:=strValues [(_,t)]) (t:=s.toks) hs (words_repl k1))
  · rename_i h1
    rw [Bool.not_eq_true] at h1
    split at k1
    · rename_i h2
      exact call_meets PySem.F.slot_str_split (typeIs_str _ _ _) PySem.F.entry_str_split (PySem.F.args_str_split_2 _ _) (meets_str_split_not_found _ _ t t' h1 k0 h2) (Pr.lst (rs:=strValues [(_,t)]) (t:=s.toks) hs (words_repl k1))
    · rename_i h2
      rw [Bool.not_eq_true] at h2
      refine call_meets PySem.F.slot_str_split (typeIs_str _ _ _) PySem.F.entry_str_split (PySem.F.args_str_split_2 _ _) (meets_str_split_sep _ _ t t' h1 k0 h2 (by rw [sizeLine_eq];exact Nat.le_trans k2 (by decide)) (by rw [sizeLine_eq];exact Nat.le_trans k3 (by decide))) ?_
      rw [strsFrom_eq]
      exact Pr.lst hs (words_repl ((numbered_texts _ _).trans k1))
theorem split1_rule(tk:TabOk T)(e:mSplit1 T σ v ws=some (u,σ'))(hs:St T G g σ s)(h₁:Rep T G.w.params g v r)(h₂:RepL T G.w.params g ws rs):wpAny (model PW G.w) A (PySem.call (.builtin "str.split") (r::rs)) (Ps T G g σ σ' s u) X s:=
  bind_some e fun x hx e=>bind_some e fun y hy e=>bind_some hy fun w hw hy=>map_some e fun xs hxs e=>by
    cases e
    obtain⟨t,rfl⟩:=rep_str.mp (asStr_eq hx▸h₁)
    obtain⟨q,rfl,hq⟩:=repL_one (one_eq hw▸h₂)
    obtain⟨t',rfl⟩:=rep_str.mp (asStr_eq hy▸hq)
    exact split1_go tk hxs hs
theorem starts_rule(tk:TabOk T)(e:mStarts T σ v ws=some (u,σ'))(hs:St T G g σ s)(h₁:Rep T G.w.params g v r)(h₂:RepL T G.w.params g ws rs):wpAny (model PW G.w) A (PySem.call (.builtin "str.startswith") (r::rs)) (Ps T G g σ σ' s u) X s:=
  bind_some e fun x hx e=>bind_some e fun y hy e=>bind_some hy fun w hw hy=>map_some e fun b hb e=>by
    cases e
    obtain⟨t,rfl⟩:=rep_str.mp (asStr_eq hx▸h₁)
    obtain⟨q,rfl,hq⟩:=repL_one (one_eq hw▸h₂)
    obtain⟨t',rfl⟩:=rep_str.mp (asStr_eq hy▸hq)
    exact SC.startswith (by rw [tk.starts _ _ _ hb];exact Pr.here hs (.bool _))
theorem get_val{o:Option Int}{d:Int}{t:Tok}{q:Option Value}(h:IntVal o q)(hs:St T G g σ s){tk:Nat}:Ps T G g σ σ s (.int (o.getD d)) (q.getD (.int d t)) {s with toks:=tk}:=
  Pr.toks hs (match o,q,h with |some _,some _,⟨u,rfl⟩=> .int _ _ |none,none,_=> .int _ _)
theorem get_rule (e:mGet σ v ws=some (u,σ')) (hs:St T G g σ s) (h₁:Rep T G.w.params g v r) (h₂:RepL T G.w.params g ws rs):wpAny (model PW G.w) A (PySem.call (.builtin "dict.get") (r::rs)) (Ps T G g σ σ' s u) X s:=
  bind_some e fun f hf e=>bind_some hf fun p hp hf=>bind_some hf fun m hm hf=>by
    cases ws with
    |nil=>exact no_some e
    | cons w ws=>
      exact bind_some e fun i hi e=>map_some e fun d hd e=>bind_some hd fun w' hw hd=>by
        cases e
        obtain⟨q,rs,rfl,hq,h₃⟩:=h₂
        obtain⟨q',rfl,hq'⟩:=repL_one (one_eq hw▸h₃)
        obtain⟨t,rfl⟩:=rep_int.mp (asInt_eq hi▸hq)
        obtain⟨t',rfl⟩:=rep_int.mp (asInt_eq hd▸hq')
        obtain⟨a,rfl,ha⟩:=rep_ref.mp (asRef_eq hp▸h₁)
        obtain⟨kvs,hd,hf,hz⟩:=(asInts_eq hf▸hs.cellAt hm ha:RepM T G.w g s.heap a (.idict f.1 f.2))
        exact call_meetsIn PySem.F.slot_dict_get hd.typeIs PySem.F.entry_dict_get (PySem.F.args_dict_get_3 _ _ _) (meets_dict_get_default (intKind PW G.w) a (key:= .int i t) (k:=i) (beq_self_eq_true i) (hs.noSys (Gh.sel_mem ha)) (.int d t')) ⟨_,hd.mapOf,get_val (hf i) hs⟩
theorem bm_rule{m:BM}(tk:TabOk T)(e:bmV T σ m v ws=some (u,σ'))(hs:St T G g σ s)(h₁:Rep T G.w.params g v r)(h₂:RepL T G.w.params g ws rs):
    wpAny (model PW G.w) A (PySem.call (.builtin m.id) (r::rs)) (Ps T G g σ σ' s u) X s:=
  match m,e with
  | .append,e=>append_rule e hs h₁ h₂
  | .reverse,e=>reverse_rule e hs h₁ h₂
  | .remove,e=>remove_rule tk e hs h₁ h₂
  | .index,e=>index_rule tk e hs h₁ h₂
  | .split0,e=>split0_rule tk e hs h₁ h₂
  | .split1,e=>split1_rule tk e hs h₁ h₂
  | .starts,e=>starts_rule tk e hs h₁ h₂
  | .get,e=>get_rule e hs h₁ h₂
end
end Mine
namespace Mine
structure Okay(T:Tabs)(K:Frag):Prop where
  tab:TabOk T
  int:GloOk T K T.int (.prim 3)
  cls: ∀c C,T.cls c=some C→ClsOk T K c C
section
variable {T:Tabs}{G:Gx}{fn:Fn}{n:Nat}{C:Cx T G fn n}{ρ:List (Option V)}{K:Nat→List V→Sg→R V}
noncomputable abbrev SE(C:Cx T G fn n)(K:Nat→List V→Sg→R V)(ρ:List (Option V))(e:Ex):Prop:= ∀σ,EW C ρ σ (erE T fn e) (evalE T K fn ρ e σ)
noncomputable abbrev SB(C:Cx T G fn n)(K:Nat→List V→Sg→R V)(ρ:List (Option V))(e:Ex):Prop:= ∀σ,BW C ρ σ (erE T fn e) (evalE T K fn ρ e σ)
noncomputable abbrev SL(C:Cx T G fn n)(K:Nat→List V→Sg→R V)(ρ:List (Option V))(es:List Ex):Prop:= ∀σ,LW C ρ σ (erL T fn es) (evalEs T K fn ρ es σ)
theorem EW.use{σ:Sg}{e:PySem.Expr}{r:R V}(h:EW C ρ σ e r)(hn:r≠ .stuck){g s}(hs:St T G g σ s)(hf:Fm C g ρ s){Q X:Value→Shared→Prop}
    (k: ∀v x σ₁ g₁ s₁,r= .ok x σ₁→Step T G g σ s g₁ σ₁ s₁→Rep T G.w.params g₁ x v→Q v s₁) (kx: ∀e s',ExF C g s r e s'→X e s'):wpAny (model PW G.w) C.A (eval e C.env) Q X s:=
  wpAny_mono (h hn g s hs hf) (fun v s₁ p=>let⟨g₁,σ₁,x,a,b,c⟩:=p;k v x σ₁ g₁ s₁ c a b) kx
theorem BW.use{σ:Sg}{e:PySem.Expr}{r:R V}(h:BW C ρ σ e r)(hn:r.tst){g s}(hs:St T G g σ s)(hf:Fm C g ρ s){Q:Bool→Shared→Prop}{X:Value→Shared→Prop}
    (k: ∀b σ₁ g₁ s₁,r= .ok (.bool b) σ₁→Step T G g σ s g₁ σ₁ s₁→Q b s₁) (kx: ∀e s',ExF C g s r e s'→X e s'):wpAny (model PW G.w) C.A (isTrue e C.env (eval e C.env)) Q X s:=
  wpAny_mono (h hn g s hs hf) (fun b s₁ p=>let⟨g₁,σ₁,a,c⟩:=p;k b σ₁ g₁ s₁ c a) kx
theorem LW.use{σ:Sg}{es:List PySem.Expr}{r:R V}(h:LW C ρ σ es r)(hn:r≠ .stuck){g s}(hs:St T G g σ s)(hf:Fm C g ρ s){pos:Pos}{Q:List Value→Shared→Prop}{X:Value→Shared→Prop}
    (k: ∀rs vs σ₁ g₁ s₁,r= .ok (.tup vs) σ₁→Step T G g σ s g₁ σ₁ s₁→RepL T G.w.params g₁ vs rs→Q rs s₁) (kx: ∀e s',ExF C g s r e s'→X e s'):wpAny (model PW G.w) C.A (spliced (backTo pos (starEach es C.env))) Q X s:=
  wpAny_mono (h hn g s hs hf pos) (fun v s₁ p=>let⟨g₁,σ₁,x,a,b,c⟩:=p;k v x σ₁ g₁ s₁ c a b) kx
theorem OkP.of{g σ s}{u:V}{σ':Sg}{r:Value}{s':Shared}(h:Ps T G g σ σ' s u r s'):OkP T G g σ s (RepV T G) (.ok u σ') r s':=let⟨g',a,b⟩:=h;⟨g',σ',u,a,b,rfl⟩
theorem tst_ne{r:R V}(h:r.tst):r≠ .stuck:=by rintro rfl;exact h
theorem exf_eq{α β:Type}{g s e s' c σ'}{r:R β}(p:ExF C g s (.exc c σ':R α) e s')(q:r= .exc c σ'):ExF C g s r e s':=p.as fun _ _ h=>by cases h;exact q
theorem EG.old{e:Ex}(h:EG C K ρ e):SE C K ρ e:=fun σ hn g s hs hf=>
  h ⟨.refl hs,hf⟩ (goes_self hn (fun x σ₁ q g₁ s₁ v A _ r=>⟨g₁,σ₁,x,A.step,r,q⟩) fun c σ₁ q e s' p=>exf_eq p q)
theorem BG.old{e:Ex}(h:BG C K ρ e):SB C K ρ e:=fun σ ht g s hs hf=>
  h ⟨.refl hs,hf⟩ (goes_self (tst_ne ht) (fun x σ₁ q=>by
    rw [q] at ht
    cases x with
    |bool b=>exact⟨b,rfl,fun g₁ s₁ A _=>⟨g₁,σ₁,A.step,q⟩⟩
    |_=>exact ht.elim) fun c σ₁ q e s' p=>exf_eq p q)
noncomputable def TupR(r:R V):Prop:=match r with | .ok x _=> ∃vs,x= .tup vs |_=>True
theorem tupR_bind{α:Type}{r:R α}{f:α→Sg→R V}(h: ∀a σ,TupR (f a σ)):TupR (r.bind f):=match r with | .ok a σ=>h a σ | .exc _ _=>trivial | .stuck=>trivial
theorem tupR_opt{α:Type}{o:Option α}{f:α→R V}(h: ∀a,TupR (f a)):TupR (R.opt o f):=match o with |some a=>h a |none=>trivial
theorem es_tup(es:List Ex)(σ:Sg):TupR (evalEs T K fn ρ es σ):=match es with
  | [] =>⟨[],rfl⟩
  |e::es=>tupR_bind fun v σ=>tupR_bind fun u σ=>tupR_opt fun vs=>⟨v::vs,rfl⟩
theorem LG.old{es:List Ex}(h:LG C K ρ es):SL C K ρ es:=fun σ hn g s hs hf pos=>
  h ⟨.refl hs,hf⟩ pos (goes_self hn (fun x σ₁ q=>by
    have t:=es_tup (T:=T) (K:=K) (fn:=fn) (ρ:=ρ) es σ
    rw [q] at t
    obtain⟨vs,rfl⟩:=t
    exact⟨vs,rfl,fun g₁ s₁ rs A _ r=>⟨g₁,σ₁,vs,A.step,r,q⟩⟩) fun c σ₁ q e s' p=>exf_eq p q)
section
variable {g₀ g g':Gh}{σ₀ σ σ₁:Sg}{s₀ s:Shared}{Q:Value→Shared→Prop}{u:V}
theorem AtE.pr(x:AtE C g₀ σ₀ s₀ g σ ρ s)(le:Gh.le g' g)(h:OkC C g₀ σ₀ s₀ g' ρ Q u σ₁)(v:Value)(s':Shared)(p:Ps T G g σ σ₁ s u v s'):Q v s':=
  let⟨g₁,st,r⟩:=p;h g₁ s' v (x.go st) (le.trans st.le) r
end
theorem EG.now{e:Ex}{σ g₀ σ₀ s₀ g s Q}{u:V}{σ₁:Sg}{v:Value}{s':Shared}(A:AtE C g₀ σ₀ s₀ g σ ρ s)(h:OkC C g₀ σ₀ s₀ g ρ Q u σ₁)(p:Ps T G g σ σ₁ s u v s'):Q v s':=A.pr (.refl g) h v s' p
theorem hold_rule{i:Nat}{p:Pos}{r:Value}{g:Gh}{s:Shared}{m:Str→Option Value}{Q X:Value→Shared→Prop}(hf:Fm C g ρ s)(hi:i<fn.ns.length)(hN:s.heap.Ns C.env.locals m)(hr:Holds C s.heap m i r)(fin:Q r s):
    wpAny (model PW G.w) C.A (eval (.Name (nmOf T fn.ns i) p) C.env) Q X s:=by
  unfold Holds at hr
  cases hc:C.cel i with
  |none=>rw [hc] at hr;exact wpAny_Name (wpAny_loadName_local C.kind (C.loc i hi hc) hN hr fin) (C.nodbg _)
  | some p=>
    obtain⟨o,a⟩:=p
    rw [hc] at hr
    obtain⟨k1,k2⟩:=C.cll i o a hi hc
    cases o with
    |true=>exact wpAny_Name (wpAny_loadName_cell C.kind k1 k2 hr fin) (C.nodbg _)
    |false=>exact wpAny_Name (wpAny_loadName_free C.kind k1 k2 hr fin (C.nocd _)) (C.nodbg _)
theorem ew_loc{i p}:EG C K ρ (.loc i p):=fun A h=>goes_opt h fun v hv h=>bind_some hv fun w hw hv=>by
  obtain⟨m,hN,hl,hL⟩:=A.fm.loc
  have hv:w=some v:=hv
  subst hv
  obtain⟨r,hr,hrep⟩:=hL i v hw
  exact hold_rule A.fm (hl▸(List.getElem?_eq_some_iff.mp hw).1) hN hr (h _ _ _ A (.refl _) hrep)
theorem glob_rule{i:Nat}{p:Pos}{v:V}{g:Gh}{σ:Sg}{s:Shared}{Q X:Value→Shared→Prop}(hs:St T G g σ s)(hv:fn.gv[i]? =some v)(k: ∀r,Rep T G.w.params g v r→Q r s):
    wpAny (model PW G.w) C.A (eval (.Name (nmOf T fn.gs i) p) C.env) Q X s:=by
  obtain⟨hk,r,hr,hrep⟩:=C.glo i v hv
  have KI:=Gx.frag hs
  refine Name_function_global C.kind hk ?_ (C.nodbg _)
  unfold loadGlobal
  rw [C.glob]
  rcases hr with hr |⟨h1,h2,h3⟩
  · exact wpAny_bind ((looks_nsIn KI hr).here (wpAny_pure (k r (hrep _ _))))
  · refine wpAny_bind ((looks_nsIn KI h1).here ?_)
    rw [C.blt]
    obtain⟨o,es,ep,ho,q⟩:=G.nb
    refine wpAny_bind (wpAny_nsGet (m:=G.mb) ⟨o,es,ep,hs.fz _ _ (hs.base _ _ ho G.offb),q⟩ ?_)
    rw [show G.mb (nmOf T fn.gs i)=some r from(G.keyed _ h3).trans h2]
    exact wpAny_pure (k r (hrep _ _))
theorem ew_glob{i p}:EG C K ρ (.glob i p):=fun A h=>goes_opt h fun v hv h=>glob_rule A.st hv fun r hr=>h _ _ _ A (.refl _) hr
theorem ew_int{i k p}:EG C K ρ (.int i k p):=fun A h=>wpAny_Constant_int (A.pr (.refl _) h _ _ (Pr.toks A.st (.int _ _)))
theorem ew_str{i k p}:EG C K ρ (.str i k p):=fun A h=>Constant_str (A.pr (.refl _) h _ _ (Pr.toks A.st (.str _ _)))
theorem ew_bool{i k p}:EG C K ρ (.bool i k p):=fun A h=>wpAny_Constant_bool (A.pr (.refl _) h _ _ (Pr.here A.st (.bool _)))
theorem ew_none{k p}:EG C K ρ (.none k p):=fun A h=>wpAny_Constant_none (A.pr (.refl _) h _ _ (Pr.here A.st .none))
theorem ew_bin{op a b p}(ha:EG C K ρ a)(hb:EG C K ρ b):EG C K ρ (.bin op a b p):=fun A h=>
  wpAny_BinOp (ha A (goes_bind h fun _ _ h _ _ _ A le r=>hb A (goes_bind h fun _ _ h _ _ _ A le₂ r₂=>goes_opt h fun _ hu h=>wpAny_mono (binV_rule hu A.st (r.mono le₂) r₂) (A.pr (le.trans le₂) h) fun _ _ x=>x)))
theorem ew_neg{a p}(ha:EG C K ρ a):EG C K ρ (.neg a p):=fun A h=>
  wpAny_UnaryOp (ha A (goes_bind h fun _ _ h _ _ _ A le r=>goes_opt h fun _ hi h=>by
    obtain⟨t,rfl⟩:=rep_int.mp (asInt_eq hi▸r)
    exact PySem.P.neg_int (A.pr le h _ _ (Pr.toks A.st (.int _ _)))))
theorem ew_not{a p}(ha:EG C K ρ a):EG C K ρ (.not a p):=fun A h=>
  wpAny_UnaryOp (ha A (goes_bind h fun _ _ h _ _ _ A le r=>goes_opt h fun _ hi h=>by
    obtain rfl:=rep_bool.mp (asBool_eq hi▸r)
    exact not_value (wpAny_truthy_bool (A.pr le h _ _ (Pr.here A.st (.bool _))))))
theorem er_marks(op:CmpOp)(e:Ex):behindInMarks op (erE T fn e)=false:=by cases e<;>rfl
theorem Cx.room(C:Cx T G fn n):C.A.units<cLine:=by have:=C.units;rw [cLine_is];omega
theorem ew_cmp{op a b p}(O:Okay T G.K)(ha:EG C K ρ a)(hb:EG C K ρ b):EG C K ρ (.cmp op a b p):=fun A h=>
  wpAny_Compare1 (ha A (goes_bind h fun _ _ h _ _ _ A le r=>hb A (goes_bind h fun _ _ h _ _ _ A le₂ r₂=>goes_opt h fun _ hu h=>wpAny_mono (cmpV_rule O.tab.inj C.room hu A.st (r.mono le₂) r₂) (A.pr (le.trans le₂) h) fun _ _ x=>x))) (er_marks op b)
theorem AtE.tst{g₀ g g' σ₀ σ s₀ s}{Q:Bool→Shared→Prop}{X:Value→Shared→Prop}{u:Bool}{B:Around}(x:AtE C g₀ σ₀ s₀ g σ ρ s)(le:Gh.le g' g)(h:OkB C g₀ σ₀ s₀ g' ρ Q (.bool u) σ)(v:Value)(s':Shared)(p:Pr T G g σ s (.bool u) v s'):wpAny (model PW G.w) B (truthy v) Q X s':=by
  obtain⟨g₁,st,r⟩:=p
  obtain rfl:=rep_bool.mp r
  obtain⟨b,e,k⟩:=h
  cases e
  exact wpAny_truthy_bool (k g₁ s' (x.go st) (le.trans st.le))
theorem bw_cmp{op a b p}(O:Okay T G.K)(ha:EG C K ρ a)(hb:EG C K ρ b):BG C K ρ (.cmp op a b p):=fun A h=>
  wpAny_isTrue_Compare1 (ha A (goes_bind h fun _ _ h _ _ _ A le r=>hb A (goes_bind h fun _ _ h _ _ _ A le₂ r₂=>goes_opt h fun _ hu h=>wpAny_mono (cmpV_rule O.tab.inj C.room hu A.st (r.mono le₂) r₂) (A.tst (le.trans le₂) h) fun _ _ x=>x))) (er_marks op b)
theorem goes_bool{α:Type}{r:R V}{F:Sg→Bool→R α}{ok:α→Sg→Prop}{ex:Nat→Sg→Prop}{P:Bool→Sg→Prop}(h:Goes (r.bind fun v σ=>R.opt v.asBool (F σ)) ok ex)(k: ∀b σ,Goes (F σ b) ok ex→P b σ):Goes r (fun x σ=> ∃b,x= .bool b∧P b σ) ex:=
  goes_bind h fun _ σ h=>goes_opt h fun b hb h=>⟨b,asBool_eq hb,k b σ h⟩
theorem bw_not{a p}(ha:BG C K ρ a):BG C K ρ (.not a p):=fun A h=>
  wpAny_isTrue_Not (ha A (goes_bool h fun b σ h _ _ A le=>by obtain⟨b',e,k⟩:=h;cases e;exact k _ _ A le))
theorem bw_val{e:Ex}(h:EG C K ρ e)
    (he:isTrue (erE T fn e) C.env (eval (erE T fn e) C.env)=(do let v ←eval (erE T fn e) C.env;standAt (erE T fn e).pos;holding [v] (truthy v))):BG C K ρ e:=fun A k=>
  wpAny_isTrue_value (h A (goes_mono k (fun _ _ ⟨_,q,k⟩ _ _ _ A le r=>by subst q;obtain rfl:=rep_bool.mp r;exact wpAny_truthy_bool (k _ _ A le)) fun _ _ x=>x)) he
theorem goes_cond{β:Type}{P:Bool→Prop}{b:Bool}{x y:R β}{ok:β→Sg→Prop}{ex:Nat→Sg→Prop}(h:Goes (cond b x y) ok ex)(k1:Goes x ok ex→P true)(k2:Goes y ok ex→P false):P b:=match b,h with |true,h=>k1 h |false,h=>k2 h
theorem okc_le{r:R V}{g₀ g g' σ₀ s₀ Q}{ex:Nat→Sg→Prop}(h:Goes r (OkC C g₀ σ₀ s₀ g ρ Q) ex)(le:Gh.le g g'):Goes r (OkC C g₀ σ₀ s₀ g' ρ Q) ex:=goes_mono h (fun _ _ h _ _ _ A l=>h _ _ _ A (le.trans l)) fun _ _ x=>x
theorem okb_le{r:R V}{g₀ g g' σ₀ s₀ Q}{ex:Nat→Sg→Prop}(h:Goes r (OkB C g₀ σ₀ s₀ g ρ Q) ex)(le:Gh.le g g'):Goes r (OkB C g₀ σ₀ s₀ g' ρ Q) ex:=goes_mono h (fun _ _ ⟨b,e,k⟩=>⟨b,e,fun _ _ A l=>k _ _ A (le.trans l)⟩) fun _ _ x=>x
theorem ew_ite{t a b p}(ht:BG C K ρ t)(ha:EG C K ρ a)(hb:EG C K ρ b):EG C K ρ (.ite t a b p):=fun A h=>
  wpAny_IfExp (ht A (goes_bool h fun c _ h _ _ A le=>goes_cond (P:=fun c=>if c=true then _ else _) h (fun h=>ha A (okc_le h le)) fun h=>hb A (okc_le h le)))
theorem bw_ite{t a b p}(ht:BG C K ρ t)(ha:BG C K ρ a)(hb:BG C K ρ b):BG C K ρ (.ite t a b p):=fun A h=>by
  show wpAny _ _ (isTrue (erE T fn t) C.env (eval (erE T fn t) C.env)>>=fun c=>if c=true then isTrue (erE T fn a) C.env (eval (erE T fn a) C.env) else isTrue (erE T fn b) C.env (eval (erE T fn b) C.env)) _ _ _
  exact wpAny_bind (ht A (goes_bool h fun c _ h _ _ A le=>by
    cases c with
    |true=>exact ha A (okb_le h le)
    |false=>exact hb A (okb_le h le)))
end
end Mine
end
section
open PySem PySem.Calls PySem.W PyProof.Rows
set_option maxRecDepth 100000
namespace Mine
section
variable {T:Tabs}{G:Gx}{fn:Fn}{n:Nat}{C:Cx T G fn n}{ρ:List (Option V)}{K:Nat→List V→Sg→R V}
theorem er_marks2(op op':CmpOp)(b c:Ex):lastMarks [op,op'] [erE T fn b,erE T fn c] =false:=by
  show behindInMarks op' (erE T fn c)=false
  exact er_marks op' c
theorem link_rule{op:CmpOp}{i j:Int}{u:Bool}{t t':Tok}{A B:Around}{g₀ σ₀ s₀ g σ s}{X:Value→Shared→Prop}{P:Value→Bool→Shared→Prop}(hc:cmpI op i j=some u)(x:AtE C g₀ σ₀ s₀ g σ ρ s)
    (k: ∀g₁ s₁,AtE C g₀ σ₀ s₀ g₁ σ ρ s₁→Gh.le g g₁→P (.bool u) u s₁):wpAny (model PW G.w) A (compareOp op (.int i t) (.int j t')) (fun c s₂=>wpAny (model PW G.w) B (truthy c) (P c) X s₂) X s:=
  wpAny_mono (cmpI_rule hc x.st) (fun v s₁ ⟨g₁,st,r⟩=>by obtain rfl:=rep_bool.mp r;exact wpAny_truthy_bool (k g₁ s₁ (x.go st) st.le)) fun _ _ x=>x
theorem ew_cmp2 {op op' a b c p} (ha:EG C K ρ a) (hb:EG C K ρ b) (hc:EG C K ρ c):EG C K ρ (.cmp2 op op' a b c p):=fun{_ _ _ _ _ _ Q _} A h=>
  Compare_chain (rs:= []) (ha A (goes_bind h fun _ _ h _ _ _ A le r=>chain_link (hb A (goes_bind h fun _ _ h _ _ _ A le₂ r₂=>goes_opt h fun i hi h=>goes_opt h fun j hj h=>goes_opt h fun d hd h=>by
    obtain⟨t,rfl⟩:=rep_int.mp (asInt_eq hi▸r)
    obtain⟨t',rfl⟩:=rep_int.mp (asInt_eq hj▸r₂)
    exact link_rule (P:=fun c d s=>if d=true then _ else Q c s) hd A fun _ s₃ A le₃=>goes_cond (P:=fun d=>if d=true then _ else Q (.bool d) s₃) h
      (fun h=>chain_last (hc A (goes_bind h fun _ _ h _ _ _ A le₄ r₄=>goes_opt h fun k hk h=>goes_opt h fun d hd h=>by
        obtain⟨t,rfl⟩:=rep_int.mp (asInt_eq hk▸r₄)
        exact wpAny_mono (cmpI_rule hd A.st) (A.pr (((le.trans le₂).trans le₃).trans le₄) h) fun _ _ x=>x)))
      fun h=>A.pr ((le.trans le₂).trans le₃) h _ _ (Pr.here A.st (.bool _)))))) (er_marks2 op op' b c)
theorem bw_cmp2 {op op' a b c p} (ha:EG C K ρ a) (hb:EG C K ρ b) (hc:EG C K ρ c):BG C K ρ (.cmp2 op op' a b c p):=fun A h=>
  isTrue_chain (rs:= []) (ha A (goes_bind h fun _ _ h _ _ _ A le r=>test_link (hb A (goes_bind h fun _ _ h _ _ _ A le₂ r₂=>goes_opt h fun i hi h=>goes_opt h fun j hj h=>goes_opt h fun d hd h=>by
    obtain⟨t,rfl⟩:=rep_int.mp (asInt_eq hi▸r)
    obtain⟨t',rfl⟩:=rep_int.mp (asInt_eq hj▸r₂)
    exact link_rule (P:=fun _ d s=>if d=true then _ else _) hd A fun _ _ A le₃=>goes_cond (P:=fun d=>if d=true then _ else _) h
      (fun h=>test_last (hc A (goes_bind h fun _ _ h _ _ _ A le₄ r₄=>goes_opt h fun k hk h=>goes_opt h fun d hd h=>by
        obtain⟨t,rfl⟩:=rep_int.mp (asInt_eq hk▸r₄)
        exact wpAny_mono (cmpI_rule hd A.st) (A.tst (((le.trans le₂).trans le₃).trans le₄) h) fun _ _ x=>x)))
      fun⟨b,e,k⟩=>by cases e;exact k _ _ A ((le.trans le₂).trans le₃))))) (er_marks2 op op' b c)
noncomputable def AG(C:Cx T G fn n)(K:Nat→List V→Sg→R V)(ρ:List (Option V))(es:List Ex):Prop:= ∀{σ g₀ σ₀ s₀ g s Q X},AtE C g₀ σ₀ s₀ g σ ρ s→
  Goes (evalAnd T K fn ρ es σ) (OkB C g₀ σ₀ s₀ g ρ Q) (ExC C g₀ s₀ X)→wpAny (model PW G.w) C.A (allTrue .And (erL T fn es) C.env) Q X s
noncomputable def OG(C:Cx T G fn n)(K:Nat→List V→Sg→R V)(ρ:List (Option V))(es:List Ex):Prop:= ∀{σ g₀ σ₀ s₀ g s Q X},AtE C g₀ σ₀ s₀ g σ ρ s→
  Goes (evalOr T K fn ρ es σ) (OkB C g₀ σ₀ s₀ g ρ Q) (ExC C g₀ s₀ X)→wpAny (model PW G.w) C.A (allTrue .Or (erL T fn es) C.env) Q X s
theorem aw_nil:AG C K ρ [] :=fun A ⟨b,e,k⟩=>wpAny_allTrue_And_nil (by cases e;exact k _ _ A (.refl _))
theorem ow_nil:OG C K ρ [] :=fun A ⟨b,e,k⟩=>wpAny_allTrue_Or_nil (by cases e;exact k _ _ A (.refl _))
theorem aw_cons{e:Ex}{es:List Ex}(h:BG C K ρ e)(hr:AG C K ρ es):AG C K ρ (e::es):=fun A k=>
  wpAny_allTrue_And_cons (h A (goes_bool k fun b _ k _ _ A le=>goes_cond (P:=fun b=>if b=true then _ else _) k (fun k=>hr A (okb_le k le)) fun⟨b,e,k⟩=>by cases e;exact k _ _ A le))
theorem ow_cons{e:Ex}{es:List Ex}(h:BG C K ρ e)(hr:OG C K ρ es):OG C K ρ (e::es):=fun A k=>
  wpAny_allTrue_Or_cons (h A (goes_bool k fun b _ k _ _ A le=>goes_cond (P:=fun b=>if b=true then _ else _) k (fun⟨b,e,k⟩=>by cases e;exact k _ _ A le) fun k=>hr A (okb_le k le)))
theorem bw_and{es p}(h:AG C K ρ es):BG C K ρ (.and es p):=fun A k=>goes_grd k fun _ k=>wpAny_isTrue_BoolOp (h A k)
theorem bw_or{es p}(h:OG C K ρ es):BG C K ρ (.or es p):=fun A k=>goes_grd k fun _ k=>wpAny_isTrue_BoolOp (h A k)
noncomputable def AV(C:Cx T G fn n)(K:Nat→List V→Sg→R V)(ρ:List (Option V))(es:List Ex):Prop:= ∀{σ g₀ σ₀ s₀ g s Q X},AtE C g₀ σ₀ s₀ g σ ρ s→ ∀pos,
  Goes (evalAnd T K fn ρ es σ) (OkC C g₀ σ₀ s₀ g ρ Q) (ExC C g₀ s₀ X)→wpAny (model PW G.w) C.A (boolOp pos .And (evalEach (erL T fn es) C.env)) Q X s
noncomputable def OV(C:Cx T G fn n)(K:Nat→List V→Sg→R V)(ρ:List (Option V))(es:List Ex):Prop:= ∀{σ g₀ σ₀ s₀ g s Q X},AtE C g₀ σ₀ s₀ g σ ρ s→ ∀pos,
  Goes (evalOr T K fn ρ es σ) (OkC C g₀ σ₀ s₀ g ρ Q) (ExC C g₀ s₀ X)→wpAny (model PW G.w) C.A (boolOp pos .Or (evalEach (erL T fn es) C.env)) Q X s
theorem av_one{e:Ex}(h:EG C K ρ e):AV C K ρ [e] :=fun A pos k=>by
  show wpAny _ _ (eval (erE T fn e) C.env) _ _ _
  exact h A (goes_bind k fun _ _ k _ _ _ A le r=>goes_opt k fun b hb k=>goes_cond (P:=fun c=>b=c→_) k (fun k q=>k _ _ _ A le (q▸asBool_eq hb▸r)) (fun k q=>k _ _ _ A le (q▸asBool_eq hb▸r)) rfl)
theorem ov_one{e:Ex}(h:EG C K ρ e):OV C K ρ [e] :=fun A pos k=>by
  show wpAny _ _ (eval (erE T fn e) C.env) _ _ _
  exact h A (goes_bind k fun _ _ k _ _ _ A le r=>goes_opt k fun b hb k=>goes_cond (P:=fun c=>b=c→_) k (fun k q=>k _ _ _ A le (q▸asBool_eq hb▸r)) (fun k q=>k _ _ _ A le (q▸asBool_eq hb▸r)) rfl)
set_option backward.match.sparseCases true in
theorem av_cons{e e':Ex}{es:List Ex}(h:EG C K ρ e)(hr:AV C K ρ (e'::es)):AV C K ρ (e::e'::es):=fun A pos k=>by
  show wpAny _ _ (do
    let v ←eval (erE T fn e) C.env
    standAt pos
    let t ←holding [v] (truthy v)
    match BoolOp.And,t with
    | .And,false | .Or,true=>pure v
    |_,_=>boolOp pos .And (evalEach (erL T fn (e'::es)) C.env)) _ _ _
  exact wpAny_bind (h A (goes_bind k fun _ _ k _ _ _ A le r=>goes_opt k fun b hb k=>by
    obtain rfl:=rep_bool.mp (asBool_eq hb▸r)
    refine wpAny_bind (wpAny_standAt (wpAny_bind (wpAny_holding (wpAny_truthy_bool ?_))))
    cases b with
    |true=>exact hr A pos (okc_le k le)
    |false=>exact wpAny_pure (k _ _ _ A le (.bool _))))
set_option backward.match.sparseCases true in
theorem ov_cons{e e':Ex}{es:List Ex}(h:EG C K ρ e)(hr:OV C K ρ (e'::es)):OV C K ρ (e::e'::es):=fun A pos k=>by
  show wpAny _ _ (do
    let v ←eval (erE T fn e) C.env
    standAt pos
    let t ←holding [v] (truthy v)
    match BoolOp.Or,t with
    | .And,false | .Or,true=>pure v
    |_,_=>boolOp pos .Or (evalEach (erL T fn (e'::es)) C.env)) _ _ _
  exact wpAny_bind (h A (goes_bind k fun _ _ k _ _ _ A le r=>goes_opt k fun b hb k=>by
    obtain rfl:=rep_bool.mp (asBool_eq hb▸r)
    refine wpAny_bind (wpAny_standAt (wpAny_bind (wpAny_holding (wpAny_truthy_bool ?_))))
    cases b with
    |false=>exact hr A pos (okc_le k le)
    |true=>exact wpAny_pure (k _ _ _ A le (.bool _))))
theorem ew_and{es p}(h:es≠ [] →AV C K ρ es):EG C K ρ (.and es p):=fun A k=>goes_grd k fun he k=>h (fun q=>by rw [q] at he;cases he) A p k
theorem ew_or{es p}(h:es≠ [] →OV C K ρ es):EG C K ρ (.or es p):=fun A k=>goes_grd k fun he k=>h (fun q=>by rw [q] at he;cases he) A p k
theorem er_star(e:Ex)(es:List PySem.Expr)(env:Env):starEach (erE T fn e::es) env=(false,eval (erE T fn e) env)::starEach es env:=by cases e<;>rfl
theorem goes_tup{α:Type}{r:R V}{F:Sg→List V→R α}{ok:α→Sg→Prop}{ex:Nat→Sg→Prop}{P:List V→Sg→Prop}(h:Goes (r.bind fun v σ=>R.opt v.asTup (F σ)) ok ex)(k: ∀b σ,Goes (F σ b) ok ex→P b σ):Goes r (fun x σ=> ∃b,x= .tup b∧P b σ) ex:=
  goes_bind h fun _ σ h=>goes_opt h fun b hb h=>⟨b,asTup_eq hb,k b σ h⟩
theorem lw_nil:LG C K ρ [] :=fun A _ ⟨_,e,k⟩=>args_nil (by cases e;exact k _ _ _ A (.refl _) .nil)
theorem lw_cons{e:Ex}{es:List Ex}(h:EG C K ρ e)(hr:LG C K ρ es):LG C K ρ (e::es):=fun A pos k=>
  args_cons (h A (goes_bind k fun _ _ k _ _ _ A le r=>hr A pos (goes_tup k fun _ _ ⟨_,e,k⟩ _ _ _ A le₂ r₂=>by cases e;exact k _ _ _ A (le.trans le₂) (.cons (r.mono le₂) r₂)))) (er_star e _ _)
theorem len_in{P:Params}{g:Gh}{vs:List V}{rs:List Value}(r:RepL T P g vs rs)(h:vs.length≤lineN):rs.length≤sizeLine:=by rw [r.length];exact Nat.le_trans h lineN_le
theorem ew_tup{es k p}(h:LG C K ρ es):EG C K ρ (.tup es k p):=fun A k=>
  wpAny_Tuple (h A _ (goes_tup k fun _ _ k _ s₁ _ A le r=>goes_grd k fun hl k=>⟨len_in r (dec_tt hl),A.pr le k _ _ (Pr.tup (t:=s₁.toks) A.st r)⟩))
theorem ew_lst{es p}(h:LG C K ρ es):EG C K ρ (.lst es p):=fun A k=>
  wpAny_List (h A _ (goes_tup k fun _ _ k _ s₁ _ A le r=>goes_grd k fun hl k=>⟨len_in r (dec_tt hl),A.pr le k _ _ (Pr.lst (t:=s₁.toks) A.st r)⟩))
theorem Ps.new{g:Gh}{σ:Sg}{s:Shared}(hs:St T G g σ s)(o:Bool){ob:Obj}{m:Cell}{t:Nat}(hm:RepM T G.w g (s.heap.push ob) s.heap.objs.size m)(hfr:(o||m.free)=true):
    Ps T G g σ (σ.new o m) s (.ref o (σ.nxt o)) (.ref s.heap.objs.size) {s with heap:=s.heap.push ob,toks:=t}:=by
  obtain⟨a,b⟩:=Step.made (t:=t) hs o hm hfr
  exact⟨_,a,rep_ref.mpr ⟨_,rfl,b⟩⟩
theorem ew_lstM{o es p}(h:LG C K ρ es):EG C K ρ (.lstM o es p):=fun A k=>
  wpAny_List (h A _ (goes_tup k fun vs _ k _ s₁ rs A le r=>goes_grd k fun hl k=>and_tt hl fun h1 h2=>⟨len_in r (dec_tt h1),A.pr le k _ _ (Ps.new (t:=s₁.toks) (m:= .list vs) (ob:={cls:= .type "list",data:= .seq rs.toArray}) A.st o ⟨rs,0,Heap.get?_push_size _ rfl,r⟩ h2)⟩))
theorem ew_dictI{o p}:EG C K ρ (.dictI o p):=fun{_ _ _ _ _ s _ _} A k=>
  wpAny_Dict_empty (A.pr (.refl _) k _ _ (Ps.new (t:=s.toks) (m:= .idict (fun _=>none) 0) (ob:={cls:= .type "dict",data:= .dict #[]}) A.st o ⟨[],.new _,fun k=>trivial,Nat.le_refl _⟩ (Bool.or_true o)))
theorem ew_attr{a x p}(O:Okay T G.K)(ha:EG C K ρ a)(hbase:attributeBase (erE T fn a) (T.nm x) C.env (eval (erE T fn a) C.env)=eval (erE T fn a) C.env):EG C K ρ (.attr a x p):=fun A h=>by
  show wpAny _ _ (do
    let o ←attributeBase (erE T fn a) (T.nm x) C.env (eval (erE T fn a) C.env)
    standAt p.atName
    let r ←holding [o] (getAttr o (T.nm x) true)
    letTemporaryGo (erE T fn a) o r
    pure r) _ _ _
  rw [hbase]
  exact wpAny_bind (ha A (goes_bind h fun _ _ h _ _ _ A le r=>goes_opt h fun _ hu h=>
    wpAny_bind (wpAny_standAt (wpAny_bind (wpAny_holding (wpAny_mono (attr_rule O.tab.inj O.cls hu A.st r) (fun v s₂ p=>wpAny_bind (wpAny_letTemporaryGo (wpAny_pure (A.pr le h _ _ p)))) fun _ _ x=>x))))))
theorem er_sub(e:Ex)(o i:Value):subscripted (erE T fn e) false o i=operate [o,i] (getItem o i):=by cases e<;>rfl
theorem ew_sub{a b p}(O:Okay T G.K)(ha:EG C K ρ a)(hb:EG C K ρ b):EG C K ρ (.sub a b p):=fun A h=>
  Subscript_ (ha A (goes_bind h fun _ _ h _ _ _ A le r=>hb A (goes_bind h fun _ _ h _ _ _ A le₂ r₂=>goes_opt h fun _ hu h=>wpAny_mono (sub_rule O.tab (er_sub b) hu A.st (r.mono le₂) r₂) (A.pr (le.trans le₂) h) fun _ _ x=>x)))
end
end Mine
end
section
open PySem PySem.Calls PySem.W PyProof.Rows
set_option maxRecDepth 100000
set_option backward.match.sparseCases false
set_option genInjectivity false
set_option genSizeOf false
namespace Mine
section
variable {T:Tabs}{G:Gx}{fn:Fn}{n:Nat}{C:Cx T G fn n}{ρ:List (Option V)}{K:Nat→List V→Sg→R V}
theorem flat_repl(r:Value): ∀(k:Nat) (acc:List Value),List.foldl (fun x1 x2=>x1++x2) acc.toArray (List.replicate k #[r])=(acc++List.replicate k r).toArray:=by
  intro k
  induction k with
  |zero=>intro acc;simp
  | succ k ih=>
    intro acc
    rw [List.replicate_succ,List.foldl_cons,show acc.toArray++ #[r] =(acc++ [r]).toArray by simp,ih,List.replicate_succ,List.append_assoc]
    rfl
theorem repl_free{v:V}{k:Nat}{o:Bool}(h:(o||v.free)=true):(o||(Cell.list (List.replicate k v)).free)=true:=by
  cases o with
  |true=>rfl
  |false=>exact freeL_mem.mpr fun w hw=>by rw [List.eq_of_mem_replicate hw];exact h
theorem mul_rule {o:Bool} {v:V} {i:Int} {t:Tok} {q:Value} {g:Gh} {σ:Sg} {s:Shared} {A:Around} {X:Value→Shared→Prop} (hs:St T G g σ s) (h0:0≤i) (h1:i≤1000) (hf:(o||v.free)=true) (h:Rep T G.w.params g (.lst [v]) q):
    wpAny (model PW G.w) A (binaryOp .Mult q (.int i t)) (Ps T G g σ (σ.new o (.list (List.replicate i.toNat v))) s (.ref o (σ.nxt o))) X s:=by
  obtain⟨l,rs,m,rfl,ho,hr⟩:=hs.list h
  obtain⟨r,rfl,hr1⟩:=repL_one hr
  have hz1:(#[r] :Array Value).size*i.toNat=i.toNat:=Nat.one_mul _
  have hn:i.toNat≤1000:=Int.toNat_le.mpr h1
  refine wpAny_binaryOp_repeat_ref (T:="list") (U:="int") (by decide) ⟨_,ho,rfl⟩ (fun s'=>typeIs_int s' i t) noFill_list_mul PySem.F.fills_int_mul PySem.F.slot_int_rmul repeat_list PySem.F.slot_int_index.lookup
    (call_meets PySem.F.slot_int_rmul (typeIs_int s i t) PySem.F.entry_int_rmul (PySem.F.args_int_rmul_2 _ _) (int___rmul___int_list i t l #[r] m)
      ⟨ho,rfl,⟨_,ho,rfl⟩,call_meets PySem.F.slot_list_mul ⟨_,ho,rfl⟩ PySem.F.entry_list_mul (PySem.F.args_list_mul_2 _ _)
        (AutoListH.list___mul___list_int_3 l #[r] m i t (by simp [Builtin.List.listFitsIndex];omega) (by rw [hz1];omega) (by rw [hz1];simp [Builtin.List.listTooLong,sizeLine];omega))
        ⟨ho,?_⟩⟩)
  refine Ps.new (t:=s.toks) (m:= .list (List.replicate i.toNat v)) hs o ⟨List.replicate i.toNat r,0,?_,.repl _ hr1⟩ (repl_free hf)
  rw [Heap.get?_push_size _ rfl,←List.nil_append (List.replicate i.toNat r),←flat_repl r i.toNat []]
  congr 2
theorem ew_mulM{o a b p}(ha:EG C K ρ a)(hb:EG C K ρ b):EG C K ρ (.mulM o a b p):=fun A h=>
  wpAny_BinOp (ha A (goes_bind h fun _ _ h _ _ _ A le r=>hb A (goes_bind h fun _ _ h _ _ _ A le₂ r₂=>goes_opt h fun v hv h=>bind_some hv fun vs hvs hv=>goes_opt h fun i hi h=>goes_grd h fun hl h=>and_tt hl fun hl h3=>and_tt hl fun h1 h2=>by
    obtain⟨t,rfl⟩:=rep_int.mp (asInt_eq hi▸r₂)
    have r:=asLst_eq hvs▸r.mono le₂
    rw [one_eq hv] at r
    exact wpAny_mono (mul_rule A.st (dec_tt h1) (dec_tt h2) h3 r) (A.pr (le.trans le₂) h) fun _ _ x=>x)))
theorem ew_slcTo{a h q p}(ha:EG C K ρ a)(hh:EG C K ρ h):EG C K ρ (.slcTo a h q p):=fun A h=>
  Subscript_ (ha A (goes_bind h fun _ _ h _ _ _ A le r=>wpAny_Slice (wpAny_pure (hh A (goes_bind h fun _ _ h _ s₂ _ A le₂ r₂=>goes_opt h fun vs hvs h=>goes_opt h fun i hi h=>goes_grd h fun hl h=>and_tt hl fun h1 h2=>by
    refine wpAny_pure ?_
    obtain⟨t,rfl⟩:=rep_int.mp (asInt_eq hi▸r₂)
    obtain⟨l,rs,m,rfl,ho,hr⟩:=A.st.list (asLst_eq hvs▸r.mono le₂)
    have hl':s₂.heap.IsList l rs.toArray:=⟨_,ho,rfl,m,rfl⟩
    have ei:((i.toNat:Nat):Int)=i:=Int.toNat_of_nonneg (dec_tt h1)
    refine tail_any (Heap.IsList.typeIs (s:={s₂ with heap:=s₂.heap.push {cls:= .type "slice",data:= .fields #[.none,.int i t,.none]} }) (hl'.push _)) list_getitem_lookup
      (wpAny_getItem_list_slice (lo:=none) (hi:=some i) (hl'.push _) (Heap.IsSliceOf.new ..) .none (.int i t) .none (by simp) ?_ (len_in hr (dec_tt h2))) rfl
    rw [show slicePick rs.toArray none (some i) none=(rs.take i.toNat).toArray from ei▸slicePick_upto' rs.toArray i.toNat]
    have s1:=Step.grow (s':={s₂ with heap:=s₂.heap.push {cls:= .type "slice",data:= .fields #[.none,.int i t,.none]} }) A.st (fun _ _ e=>Heap.get?_push_of_some _ e) rfl rfl
    exact(A.go s1).pr (le.trans le₂) h _ _ (Pr.lst (t:=s₂.toks) s1.st (hr.take i.toNat)))))))
theorem RepL.drop{P:Params}{g:Gh}: ∀{vs:List V} {rs:List Value} (k:Nat),RepL T P g vs rs→RepL T P g (vs.drop k) (rs.drop k)
  | [],_,_,h=>by rw [repL_nil.mp h];simp only [List.drop_nil];exact .nil
  |_::_,_,0,h=>h
  |_::_,_,k+1,h=>by obtain⟨r,rs',rfl,_,h2⟩:=repL_cons.mp h;exact RepL.drop k h2
theorem cutC_rule{o:Bool}{k:Nat}{l:Addr}{i:Int}{t:Tok}{vs:List V}{value slice:PySem.Expr}{g:Gh}{σ:Sg}{s:Shared}{B:Around}{X:Value→Shared→Prop}(hs:St T G g σ s)(h0:0≤i)(hc:σ.get o k=some (.list vs))(hl:vs.length≤lineN)(ha:(g.sel o)[k]? =some l)
    (hsl:subscripted slice false (.ref l) (.ref s.heap.objs.size)=operate [.ref s.heap.objs.size,.ref l] (getItem (.ref l) (.ref s.heap.objs.size))):
    wpAny (model PW G.w) B (subscriptTail value slice (.ref l) (.ref s.heap.objs.size)) (Pr T G g σ s (.lst (vs.drop i.toNat))) X {s with heap:=s.heap.push {cls:= .type "slice",data:= .fields #[.int i t,.none,.none]} }:=by
  obtain⟨rs,m,ho,hr⟩:=hs.cellAt hc ha
  have hl':s.heap.IsList l rs.toArray:=⟨_,ho,rfl,m,rfl⟩
  have ei:((i.toNat:Nat):Int)=i:=Int.toNat_of_nonneg h0
  refine tail_any (Heap.IsList.typeIs (s:={s with heap:=s.heap.push {cls:= .type "slice",data:= .fields #[.int i t,.none,.none]} }) (hl'.push _)) list_getitem_lookup
    (wpAny_getItem_list_slice (lo:=some i) (hi:=none) (hl'.push _) (Heap.IsSliceOf.new ..) (.int i t) .none .none (by simp) ?_ (len_in hr hl)) hsl
  rw [show slicePick rs.toArray (some i) none none=(rs.drop i.toNat).toArray from ei▸slicePick_from' rs.toArray i.toNat]
  have s1:=Step.grow (s':={s with heap:=s.heap.push {cls:= .type "slice",data:= .fields #[.int i t,.none,.none]} }) hs (fun _ _ e=>Heap.get?_push_of_some _ e) rfl rfl
  obtain⟨g',st,r⟩:=Pr.lst (t:=s.toks) s1.st (hr.drop i.toNat)
  exact⟨g',s1.trans st,r⟩
theorem cutS_rule{x y:Nat}{i:Int}{t t':Tok}{value slice:PySem.Expr}{g:Gh}{σ:Sg}{s:Shared}{B:Around}{X:Value→Shared→Prop}(tk:TabOk T)(hs:St T G g σ s)(h0:0≤i)(hy:T.cut x i.toNat=some y)
    (hsl:subscripted slice false (.str (T.nm x) t') (.ref s.heap.objs.size)=operate [.ref s.heap.objs.size,.str (T.nm x) t'] (getItem (.str (T.nm x) t') (.ref s.heap.objs.size))):
    wpAny (model PW G.w) B (subscriptTail value slice (.str (T.nm x) t') (.ref s.heap.objs.size)) (Pr T G g σ s (.str y)) X {s with heap:=s.heap.push {cls:= .type "slice",data:= .fields #[.int i t,.none,.none]} }:=by
  obtain⟨h1,h2⟩:=tk.cut _ _ _ hy
  have ei:((i.toNat:Nat):Int)=i:=Int.toNat_of_nonneg h0
  have B:=SBH.sliceItem_sn (prog:=PW) (w:=G.w) (A:=B) (E:=X) (s:=s) (x:=T.nm x) (t:=t') (i:=i) (ui:=t) (P:=fun h=> ∀b o,s.heap.get? b=some o→h.get? b=some o)
    (Q:=Pr T G g σ s (.str y)) (fun h ob k b o e=>Heap.get?_push_of_some _ (k b o e)) (fun _ _ e=>e)
    (fun h' t' k kp=>by
      rw [←ei,h1]
      exact⟨g,Step.grow (s':={s with heap:=h',toks:=k}) hs kp rfl rfl,.str _ _⟩) (by rw [sizeLine_eq];exact Nat.le_trans h2 (by decide))
  obtain⟨T',id,b1,b2,b3⟩:=B
  exact tail_any b2 b1 b3 hsl
theorem ew_slcOn {a l q p} (O:Okay T G.K) (ha:EG C K ρ a) (hh:EG C K ρ l):EG C K ρ (.slcOn a l q p):=fun A h=>
  Subscript_ (ha A (goes_bind h fun v _ h _ _ _ A le r=>wpAny_Slice (hh A (goes_bind h fun _ _ h _ s₂ _ A le₂ r₂=>goes_opt h fun i hi h=>goes_grd h fun hl h=>goes_opt h fun u hu h=>by
    refine wpAny_pure (wpAny_pure ?_)
    obtain⟨t,rfl⟩:=rep_int.mp (asInt_eq hi▸r₂)
    cases v with
    |str x=>exact map_some hu fun y hy e=>by subst e;obtain⟨t',rfl⟩:=r;exact wpAny_mono (cutS_rule O.tab A.st (dec_tt hl) hy rfl) (A.pr (le.trans le₂) h) fun _ _ x=>x
    | ref o k=>
      exact bind_some hu fun vs hvs e=>bind_some hvs fun m hm hvs=>og_some e fun hn e=>by
        subst e
        obtain⟨l,rfl,hm'⟩:=rep_ref.mp (r.mono le₂)
        rw [asList_eq hvs] at hm
        exact wpAny_mono (cutC_rule A.st (dec_tt hl) hm (dec_tt hn) hm' rfl) (A.pr (le.trans le₂) h) fun _ _ x=>x
    |_=>exact no_some hu))))
noncomputable def cV:Ex→V | .int i _ _=> .int i | .str x _ _=> .str x |_=> .none
theorem const_ev{e:Ex}{σ:Sg}:isC e=true→evalE T K fn ρ e σ= .ok (cV e) σ:=by cases e<;>first |exact no_true |exact fun _=>rfl
theorem const_evs: ∀{es:List Ex} {σ:Sg},es.all isC=true→evalEs T K fn ρ es σ= .ok (.tup (es.map cV)) σ
  | [],_,_=>rfl
  | e::es,σ,h=>and_tt h fun h1 h2=>by
    show(evalE T K fn ρ e σ).bind _=_
    rw [const_ev h1]
    show(evalEs T K fn ρ es σ).bind _=_
    rw [const_evs h2];rfl
theorem const_free: ∀{es:List Ex},es.all isC=true→freeL (es.map cV)=true
  | [],_=>rfl
  | e::es,h=>and_tt h fun h1 h2=>by
    show((cV e).free&&freeL (es.map cV))=true
    rw [const_free h2,Bool.and_true]
    revert h1
    cases e<;>first |exact no_true |exact fun _=>rfl
theorem const_rule{A:Around}{env:Env}{g:Gh}{s:Shared}{e:Ex}{X Q:Value→Shared→Prop}:isC e=true→(∀r t,Rep T G.w.params g (cV e) r→Q r {s with toks:=t})→wpAny (model PW G.w) A (eval (erE T fn e) env) Q X s:=by
  cases e with
  |int i=>exact fun _ k=>wpAny_Constant_int (k _ _ (.int _ _))
  |str x=>exact fun _ k=>Constant_str (k _ _ (.str _ _))
  |_=>exact no_true
noncomputable def PairsP(T:Tabs)(G:Gx)(g:Gh)(s:Shared)(ks:List Str)(vs:List V)(ps:List (Value×Value))(s₁:Shared):Prop:=
  ∃t,s₁={s with toks:=t}∧ ∃kvs,Carries (PySem.strKind PW G.w) ps kvs∧kvs.map (·.1)=ks∧RepL T G.w.params g vs (kvs.map (·.2))
theorem const_pairs{A:Around}{env:Env}{p:Pos}{g:Gh}{X:Value→Shared→Prop}(xs:List (Nat×Nat×Pos)): ∀(es:List Ex) (s:Shared),es.all isC=true→xs.length=es.length→
    wpAny (model PW G.w) A (evalPairs (pairTrees (erKeys T xs) (erL T fn es) env p)) (PairsP T G g s ((xs.map (·.1)).map T.nm) (es.map cV)) X s:=by
  induction xs with
  | nil=>
    intro es s _ hl
    cases List.length_eq_zero_iff.mp hl.symm
    exact wpAny_pure ⟨s.toks,rfl,[],trivial,rfl,.nil⟩
  | cons x xs ih=>
    intro es s hc hl
    obtain⟨e,es,rfl⟩:=List.exists_cons_of_length_eq_add_one hl.symm
    refine and_tt hc fun hc1 hc2=>?_
    show wpAny _ _ (do
      let kv ←eval (.Constant (.str (T.nm x.1)) x.2.1 x.2.2) env
      let vv ←holding [kv] (do let x ←eval (erE T fn e) env;standAt p;pure x)
      return (kv,vv)::(←holding [kv,vv] (evalPairs (pairTrees (erKeys T xs) (erL T fn es) env p)))) _ _ _
    refine wpAny_bind (Constant_str (wpAny_bind (wpAny_holding (wpAny_bind (const_rule (g:=g) hc1 fun r t hr=>wpAny_bind (wpAny_standAt (wpAny_pure (wpAny_bind (wpAny_holding (wpAny_mono (ih es _ hc2 (Nat.succ.inj hl)) (fun ps s₂ q=>?_) fun _ _ x=>x))))))))))
    obtain⟨t',hs₂,kvs,k1,k2,k3⟩:=q
    exact wpAny_pure ⟨t',hs₂,(T.nm x.1,r)::kvs,⟨isStr _ s.toks,rfl,k1⟩,congrArg (T.nm x.1:: ·) k2,.cons hr k3⟩
theorem er_keys(xs:List (Nat×Nat×Pos)):(erKeys T xs).all (·.isSome)=true∧(erKeys T xs).length=xs.length:=by
  unfold erKeys
  exact⟨by simp,by simp⟩
theorem er_len: ∀(es:List Ex),(erL T fn es).length=es.length
  | [] =>rfl
  |_::es=>by show(erL T fn es).length+1=_;rw [er_len es];rfl
theorem dict_rule{o:Bool}{x:Nat×Nat×Pos}{xs:List (Nat×Nat×Pos)}{es:List Ex}{p:Pos}{B:Around}{env:Env}{X:Value→Shared→Prop}{g:Gh}{σ:Sg}{s:Shared}(O:Okay T G.K)(hs:St T G g σ s)(h4:es.all isC=true)(h1:(x::xs).length=es.length)(h2:(x::xs).length≤15)(h3:((x::xs).map (·.1)).Nodup):
    wpAny (model PW G.w) B (eval (.Dict (erKeys T (x::xs)) (erL T fn es) p) env) (Ps T G g σ (σ.new o (.sdict ((x::xs).map (·.1)) (es.map cV))) s (.ref o (σ.nxt o))) X s:=by
  refine wpAny_Dict_walk (knd:=PySem.strKind PW G.w) (er_keys _).1 (by rw [(er_keys _).2,er_len,h1]) (List.cons_ne_nil _ _) (by rw [(er_keys _).2];exact h2) ?_
  refine wpAny_mono (const_pairs (g:=g) (x::xs) es _ h4 h1) (fun ps s₁ q=>?_) fun _ _ x=>x
  obtain⟨t,rfl,kvs,k1,k2,k3⟩:=q
  have nd:(kvs.map (·.1)).Nodup:=by
    rw [k2]
    exact List.Pairwise.map _ (fun a b hab e=>hab (O.tab.inj _ _ e)) h3
  refine⟨kvs,k1,.new _,fun h' hd hsb=>?_⟩
  rw [merged_nil_of_nodup _ nd] at hd
  obtain⟨st,at_⟩:=Step.cellAt (m:= .sdict ((x::xs).map (·.1)) (es.map cV)) (s':={s with heap:=h',toks:=t+ps.length}) hs o (none_size _) (fun b o' e=>(hsb.2 b (Nat.ne_of_lt (Heap.lt_size e))).trans (Heap.get?_push_of_some _ e)) ⟨kvs,hd,k2,k3⟩ (by rw [show Cell.free (.sdict ((x::xs).map (·.1)) (es.map cV))=true from const_free h4];exact Bool.or_true o) rfl rfl
  exact⟨_,st,rep_ref.mpr ⟨_,rfl,at_⟩⟩
theorem ew_dictS{o xs es p}(O:Okay T G.K):EG C K ρ (.dictS o xs es p):=fun{_ _ _ _ _ s _ _} A h=>goes_grd h fun h4 h=>by
  rw [const_evs h4] at h
  exact goes_grd h fun hl h=>and_tt hl fun hl h3=>and_tt hl fun h1 h2=>by
    have h1:(es.map cV).length=xs.length:=dec_tt h1
    have h2:=dec_tt h2
    rw [h1] at h2
    rw [List.length_map] at h1
    cases xs with
    | nil=>
      cases List.length_eq_zero_iff.mp h1
      exact wpAny_Dict_empty (A.pr (.refl _) h _ _ (Ps.new (t:=s.toks) (m:= .sdict [] []) (ob:={cls:= .type "dict",data:= .dict #[]}) A.st o ⟨[],.new _,rfl,.nil⟩ (Bool.or_true o)))
    |cons x xs=>exact wpAny_mono (dict_rule O A.st h4 h1.symm h2 (dec_tt h3)) (A.pr (.refl _) h) fun _ _ x=>x
end
end Mine
namespace Mine
section
variable {T:Tabs}{G:Gx}{fn:Fn}{n:Nat}{C:Cx T G fn n}{ρ:List (Option V)}{K:Nat→List V→Sg→R V}
noncomputable def OkR(T:Tabs)(G:Gx)(g:Gh)(σ:Sg)(s:Shared)(Q:Value→Shared→Prop):V→Sg→Prop:=fun x σ₁=> ∀g₁ s₁ v,Step T G g σ s g₁ σ₁ s₁→Rep T G.w.params g₁ x v→Q v s₁
noncomputable def ExR(T:Tabs)(G:Gx)(l:List Env)(g:Gh)(s:Shared)(X:Value→Shared→Prop):Nat→Sg→Prop:=fun c σ₁=> ∀e s',ExP T G l (framesOf l) g s (.exc c σ₁:R V) e s'→X e s'
noncomputable def CodeP(Q X:Value→Shared→Prop)(q:Result)(s':Shared):Prop:=match q with
  | .ok f=>match f with | .ret v=>Q v s' |_=>False
  | .error e=>X e s'
noncomputable def RPost(T:Tabs)(G:Gx)(l:List Env)(g:Gh)(σ:Sg)(s:Shared)(r:R V):Result→Shared→Prop:=CodeP (OkP T G g σ s (RepV T G) r) (ExP T G l (framesOf l) g s r)
structure AOk(A:Around)(outer:List Env)(n:Nat):Prop where
  frames:A.frames=some outer
  handled:A.handled=none
  depth:A.depth+2*n≤801
  units:A.units+8*n≤805
noncomputable def CW(T:Tabs)(G:Gx)(n:Nat)(f:Nat)(vs:List V)(σ:Sg)(r:R V):Prop:=
  r≠ .stuck→ ∀A outer g s rs,AOk A outer n→Off G outer g s→St T G g σ s→RepL T G.w.params g vs rs→codeAny (model PW G.w) A (.call (.ref (T.fnAddr f)) ⟨rs,[]⟩) (RPost T G outer g σ s r) s
structure KOk(T:Tabs)(G:Gx)(n:Nat)(K:Nat→List V→Sg→R V):Prop where
  run: ∀f vs σ,CW T G n f vs σ (K f vs σ)
  keep: ∀f vs σ,K f vs σ≠ .stuck→keepIn G.K (.ref (T.fnAddr f))=true
theorem codeP_mono{Q X Q' X':Value→Shared→Prop}{q:Result}{s':Shared}(z:CodeP Q X q s')(h: ∀v,Q v s'→Q' v s')(k: ∀e,X e s'→X' e s'):CodeP Q' X' q s':=by
  cases q with
  |error e=>exact k e z
  |ok f=>cases f<;>first |exact h _ z |exact z
theorem KOk.goes(KO:KOk T G n K){f:Nat}{vs:List V}{σ:Sg}{Q X:Value→Shared→Prop}{A:Around}{outer:List Env}{g:Gh}{s:Shared}{rs:List Value}(h:Goes (K f vs σ) (OkR T G g σ s Q) (ExR T G outer g s X))
    (hA:AOk A outer n) (hO:Off G outer g s) (hs:St T G g σ s) (hr:RepL T G.w.params g vs rs):codeAny (model PW G.w) A (.call (.ref (T.fnAddr f)) ⟨rs,[]⟩) (CodeP Q X) s:=
  codeAny_mono (KO.run f vs σ (goes_ne h) A outer g s rs hA hO hs hr) fun q s' z=>codeP_mono z
    (fun v z=>by obtain⟨g',σ',x,a,b,e⟩:=z;rw [e] at h;exact h _ _ _ a b)
    (fun e z=>by obtain⟨g',σ',c,B,x,a0,h1,h2,h3,h4,h5,h6⟩:=z;rw [h6] at h;exact h _ _ ⟨g',σ',c,B,x,a0,h1,h2,h3,h4,h5,rfl⟩)
theorem St.enter{g:Gh}{σ:Sg}{s:Shared}(h:St T G g σ s):St T G ⟨g.F,g.φ,[]⟩ ⟨σ.rw,[]⟩ s:=by
  have nd:=List.nodup_append.mp h.nd
  refine⟨⟨h.fz,fun o k m e=>?_,h.lrw,rfl,by show(g.φ++ []).Nodup;rw [List.append_nil];exact nd.1,fun a m=>h.off a ?_,h.base,h.tabs,h.free⟩,h.gens,h.os⟩
  · cases o with
    |true=>exact no_some e
    | false=>
      obtain⟨a,h1,h2⟩:=h.cell false k m e
      refine⟨a,h1,?_⟩
      have fr:=h.free k m e
      cases m with
      |list vs=>obtain⟨rs,n,e1,e2⟩:=h2;exact⟨rs,n,e1,e2.free _ fr⟩
      |dict ks vs=>obtain⟨es,n,e1,e2⟩:=h2;exact⟨es,n,e1,e2.free _ _ fr⟩
      |sdict ks vs=>obtain⟨kvs,e1,e2,e3⟩:=h2;exact⟨kvs,e1,e2,e3.free _ fr⟩
      |idict f n=>exact h2
  · have m':a∈g.φ++ [] :=m
    rw [List.append_nil] at m'
    exact List.mem_append_left _ m'
theorem Off.enter{l:List Env}{g:Gh}{s:Shared}(h:Off G l g s):Off G l ⟨g.F,g.φ,[]⟩ s:=
  ⟨h.frames,fun a m=>⟨(h.off a m).1,fun q=>(h.off a m).2 (by have q':a∈g.φ++ [] :=q;rw [List.append_nil] at q';exact List.mem_append_left _ q')⟩⟩
noncomputable def Gh.freeze(g:Gh)(h:Heap)(ψ:List Addr):Gh:=⟨fun a=>if a∈g.ψ then h.get? a else g.F a,g.φ,ψ⟩
theorem Gh.freeze_le{g:Gh}{σ:Sg}{h:Heap}{ψ:List Addr}(x:StH T G g σ h):FH.le g.F (g.freeze h ψ).F:=fun a o e=>by
  show(if a∈g.ψ then h.get? a else g.F a)=some o
  by_cases m:a∈g.ψ
  · rw [if_pos m];exact x.fz _ _ e
  · rw [if_neg m];exact e
theorem Step.leave {g:Gh} {σ:Sg} {s:Shared} {g':Gh} {σ':Sg} {s':Shared} (h:St T G g σ s) (x:Step T G ⟨g.F,g.φ,[]⟩ ⟨σ.rw,[]⟩ s g' σ' s'):
    Step T G g σ s (g'.freeze s'.heap g.ψ) ⟨σ'.rw,σ.own⟩ s':=by
  have nd:=List.nodup_append.mp h.nd
  have nd':=List.nodup_append.mp x.st.nd
  have old: ∀a∈g.ψ,a∉g'.act:=fun a m=>by
    obtain⟨o,e⟩:=(h.off a (List.mem_append_right _ m)).2.2
    exact x.newA a o e fun q=>by
      have q':a∈g.φ++ [] :=q
      rw [List.append_nil] at q'
      exact nd.2.2 a q' a m rfl
  have notφ: ∀a,a∉g.act→a∉(⟨g.F,g.φ,[]⟩:Gh).act:=fun a m q=>m (by have q':a∈g.φ++ [] :=q;rw [List.append_nil] at q';exact List.mem_append_left _ q')
  have le:=Gh.freeze_le (ψ:=g.ψ) x.st.toStH
  have leG:Gh.le g (g'.freeze s'.heap g.ψ):=⟨x.le.F.trans le,fun k a e=>x.le.φ k a e,fun _ _ e=>e⟩
  have frF: ∀a,a∉g'.ψ→(g'.freeze s'.heap g.ψ).F a=g'.F a:=fun a m=>if_neg m
  refine⟨⟨⟨fun a o e=>?_,fun o k m e=>?_,x.st.lrw,h.lown,?_,fun a m=>?_,fun a o e ht=>le _ _ (x.st.base a o e ht),x.st.tabs,x.st.free⟩,x.st.gens,x.st.os⟩,leG,fun a o e m=>x.keep a o e (notφ a m),fun a o l e m=>?_,fun a o l m=>?_⟩
  · change (if a∈g'.ψ then s'.heap.get? a else g'.F a)=some o at e
    by_cases m:a∈g'.ψ
    · rw [if_pos m] at e;exact e
    · rw [if_neg m] at e;exact x.st.fz _ _ e
  · cases o with
    | true=>
      obtain⟨a,h1,h2⟩:=h.cell true k m e
      have ha:a∈g.ψ:=List.mem_of_getElem? h1
      refine⟨a,h1,h2.mono leG fun o' e'=>x.keep a o' e' fun q=>?_⟩
      have q':a∈g.φ++ [] :=q
      rw [List.append_nil] at q'
      exact nd.2.2 a q' a ha rfl
    | false=>
      obtain⟨a,h1,h2⟩:=x.st.cell false k m e
      refine⟨a,h1,?_⟩
      have fr:=x.st.free k m e
      have go: ∀{vs rs},freeL vs=true→RepL T G.w.params g' vs rs→RepL T G.w.params (g'.freeze s'.heap g.ψ) vs rs:=fun{vs rs} f r=>
        RepL.free (F:=(g'.freeze s'.heap g.ψ).F) (φ:=g'.φ) (ψ:=g'.ψ) vs f (r.mono (g':=⟨_,g'.φ,g'.ψ⟩) ⟨le,fun _ _ e=>e,fun _ _ e=>e⟩)
      cases m with
      |list vs=>obtain⟨rs,n,e1,e2⟩:=h2;exact⟨rs,n,e1,go fr e2⟩
      | dict ks vs=>
        obtain⟨es,n,e1,e2⟩:=h2
        exact⟨es,n,e1,RepE.free (F:=(g'.freeze s'.heap g.ψ).F) (φ:=g'.φ) (ψ:=g'.ψ) ks vs fr (e2.mono (g':=⟨_,g'.φ,g'.ψ⟩) ⟨le,fun _ _ e=>e,fun _ _ e=>e⟩)⟩
      |sdict ks vs=>obtain⟨kvs,e1,e2,e3⟩:=h2;exact⟨kvs,e1,e2,go fr e3⟩
      |idict f n=>exact h2
  · refine List.nodup_append.mpr ⟨nd'.1,nd.2.1,fun a m b mb e=>?_⟩
    subst e
    exact old a mb (List.mem_append_left _ m)
  · rcases List.mem_append.mp m with m |m
    · obtain ⟨p,q,r⟩:=x.st.off a (List.mem_append_left _ m)
      exact⟨(frF a fun q=>nd'.2.2 a m a q rfl).trans p,q,r⟩
    · obtain ⟨p,q,o,r⟩:=h.off a (List.mem_append_right _ m)
      have no:a∉(⟨g.F,g.φ,[]⟩:Gh).act:=fun q=>by
        have q':a∈g.φ++ [] :=q
        rw [List.append_nil] at q'
        exact nd.2.2 a q' a m rfl
      exact⟨(frF a fun q=>old a m (List.mem_append_right _ q)).trans (x.newF a o r p no),q,o,x.keep a o r no⟩
  · have no:=notφ a m
    exact(frF a fun q=>x.newA a o l no (List.mem_append_right _ q)).trans (x.newF a o l e no)
  · have no:=notφ a m
    intro q
    rcases List.mem_append.mp q with q |q
    · exact x.newA a o l no (List.mem_append_left _ q)
    · exact m (List.mem_append_right _ q)
theorem Rep.leave{g':Gh}{s':Shared}{ψ:List Addr}{σ':Sg}(x:St T G g' σ' s'){v:V}{r:Value}(f:v.free=true)(h:Rep T G.w.params g' v r):Rep T G.w.params (g'.freeze s'.heap ψ) v r:=
  Rep.free (F:=(g'.freeze s'.heap ψ).F) (φ:=g'.φ) (ψ:=g'.ψ) v f (h.mono (g':=⟨_,g'.φ,g'.ψ⟩) ⟨Gh.freeze_le x.toStH,fun _ _ e=>e,fun _ _ e=>e⟩)
theorem RepL.leave{g':Gh}{s':Shared}{ψ:List Addr}{σ':Sg}(x:St T G g' σ' s'){vs:List V}{rs:List Value}(f:freeL vs=true)(h:RepL T G.w.params g' vs rs):RepL T G.w.params (g'.freeze s'.heap ψ) vs rs:=
  RepL.free (F:=(g'.freeze s'.heap ψ).F) (φ:=g'.φ) (ψ:=g'.ψ) vs f (h.mono (g':=⟨_,g'.φ,g'.ψ⟩) ⟨Gh.freeze_le x.toStH,fun _ _ e=>e,fun _ _ e=>e⟩)
theorem Gh.freeze_at{g':Gh}{h:Heap}{ψ:List Addr}{k:Nat}{a:Addr}(e:g'.ψ[k]? =some a):(g'.freeze h ψ).F a=h.get? a:=if_pos (List.mem_of_getElem? e)
theorem frz1_rule {g':Gh} {s':Shared} {ψ:List Addr} {σ':Sg} (x:St T G g' σ' s') {v w:V} {r:Value} (e:frz1 σ'.own v=some w) (h:Rep T G.w.params g' v r):Rep T G.w.params (g'.freeze s'.heap ψ) w r:=by
  have plain: ∀{v:V},Rep T G.w.params g' v r→og v.free v=some w→Rep T G.w.params (g'.freeze s'.heap ψ) w r:=fun h e=>og_some e fun hf e=>by subst e;exact h.leave x hf
  cases v with
  | ref o k=>
    cases o with
    |false=>obtain rfl:=Option.some.inj e;exact h.leave x rfl
    | true=>
      exact bind_some e fun vs hv e=>bind_some hv fun m hm hv=>og_some e fun hf e=>by
        subst e
        obtain⟨a,rfl,ha⟩:=h
        obtain⟨rs,n,ho,hr⟩:=(asList_eq hv▸x.cellAt (o:=true) hm ha:RepM T G.w g' s'.heap a (.list vs))
        exact rep_lst.mpr ⟨a,rs,n,rfl,(Gh.freeze_at (show g'.ψ[k]? =some a from ha)).trans ho,hr.leave x hf⟩
  |_=>exact plain h e
theorem frzL_rule{g':Gh}{s':Shared}{ψ:List Addr}{σ':Sg}(x:St T G g' σ' s'): ∀{vs ws:List V} {rs:List Value},frzL σ'.own vs=some ws→RepL T G.w.params g' vs rs→RepL T G.w.params (g'.freeze s'.heap ψ) ws rs
  | [],_,_,e,h=>by cases e;exact h
  | v::vs,_,_,e,h=>bind_some e fun w hw e=>map_some e fun ws hws e=>by
    subst e
    obtain⟨r,rs,rfl,h1,h2⟩:=h
    exact .cons (frz1_rule x hw h1) (frzL_rule x hws h2)
theorem frz_rule{g':Gh}{s':Shared}{ψ:List Addr}{σ':Sg}(x:St T G g' σ' s'){v w:V}{r:Value}(e:frz σ'.own v=some w)(h:Rep T G.w.params g' v r):Rep T G.w.params (g'.freeze s'.heap ψ) w r:=by
  unfold frz at e
  cases hv:v.asTup with
  |none=>rw [hv] at e;exact frz1_rule x e h
  | some vs=>
    rw [hv] at e
    exact map_some e fun ws hws e=>by
      subst e
      obtain⟨a,rs,n,rfl,ho,hr⟩:=rep_tup.mp (asTup_eq hv▸h)
      exact rep_tup.mpr ⟨a,rs,n,rfl,Gh.freeze_le x.toStH _ _ ho,frzL_rule x hws hr⟩
theorem AOk.under{A:Around}{outer:List Env}{n:Nat}{Cc:Addr}{vals:List Value}(h:A.frames=some outer)(hh:A.handled=none)(hd:A.depth+2*n+1≤801)(hu:A.units+8*n+1≤805):
    AOk (A.under (.builtin "type.__call__" ⟨.ref Cc::vals,[]⟩)) outer n:=
  ⟨by simp only [Around.under];rw [pushEnvs_eq,h];rfl,hh,by rw [depth_under_make];omega,by rw [units_under_make];omega⟩
theorem new_obj{g:Gh}{σ:Sg}{s:Shared}(hs:St T G g σ s)(o:Bool)(c:Nat): ∃g',Step T G g σ s g' (σ.new o (.dict [] [])) {s with heap:=(s.heap.push emptyDict).push (instObj (T.clsAddr c) s.heap.objs.size)}∧
    (g'.sel o)[σ.nxt o]? =some s.heap.objs.size∧g'.F (s.heap.objs.size+1)=some (instObj (T.clsAddr c) s.heap.objs.size):=by
  obtain⟨s1,at1⟩:=Step.made (ob:=emptyDict) (m:= .dict [] []) (t:=s.toks) hs o ⟨[],0,Heap.get?_push_size _ rfl,rfl⟩ (Bool.or_true o)
  have s2:=Step.push (t:=s.toks) (o:=instObj (T.clsAddr c) s.heap.objs.size) s1.st rfl
  refine⟨_,s1.trans s2,by cases o<;>exact at1,if_pos (Heap.size_push ..).symm⟩
theorem frozen_made{g g':Gh}{σ σ':Sg}{s s':Shared}{c:Nat}{C:Cls}{m:Cell}{vs:List V}(hC:T.cls c=some C)(hs:St T G g σ s)(st:Step T G ⟨g.F,g.φ,[]⟩ ⟨σ.rw,[]⟩ s g' σ' s')(hx:g'.F (s.heap.objs.size+1)=some (instObj (T.clsAddr c) s.heap.objs.size))
    (hd:g'.ψ[0]? =some s.heap.objs.size) (hm:σ'.own.head? =some m) (e:m= .dict C.names vs) (hw:freeL vs=true):Rep T G.w.params (g'.freeze s'.heap g.ψ) (.inst c vs) (.ref (s.heap.objs.size+1)):=by
  subst e
  obtain⟨es,k,h1,h2⟩:=st.st.cellAt (o:=true) (k:=0) (m:= .dict C.names vs) ((List.head?_eq_getElem? (l:=σ'.own)).symm.trans hm) hd
  exact rep_inst.mpr ⟨C,_,_,es,k,hC,rfl,Gh.freeze_le st.st.toStH _ _ hx,(Gh.freeze_at hd).trans h1,RepE.free (φ:=g'.φ) (ψ:=g'.ψ) C.names vs hw (h2.mono (g':=⟨_,g'.φ,g'.ψ⟩) ⟨Gh.freeze_le (ψ:=g.ψ) st.st.toStH,fun _ _ e=>e,fun _ _ e=>e⟩)⟩
section
variable {A:Around}{outer:List Env}{c:Nat}{vs:List V}{σ:Sg}{g:Gh}{s:Shared}{rs:List Value}{Q X:Value→Shared→Prop}
theorem construct_frz {C:Cls} (KO:KOk T G n K) (hC:T.cls c=some C) (hA:AOk A outer n) (ho:Off G outer g s) (hs:St T G g σ s) (hr:RepL T G.w.params g vs rs)
    (h:Goes (R.grd (freeL vs) ((K C.init (.obj c true 0::vs) ⟨σ.rw,[.dict [] []]⟩).only (nowFrz C.names c σ.own))) (OkR T G g σ s Q) (ExR T G outer g s X)):
    codeAny (model PW G.w) A (.call (.ref (T.fnAddr C.init)) ⟨.ref (s.heap.objs.size+1)::rs,[]⟩) (InitBack (s.heap.objs.size+1) (CodeP Q X)) {s with heap:=(s.heap.push emptyDict).push (instObj (T.clsAddr c) s.heap.objs.size)}:=
  goes_grd h fun hfr h=>by
    obtain⟨g1,s1,at1,hx⟩:=new_obj hs.enter true c
    refine codeAny_mono (KO.goes (Q:=fun v s'=>v= .none∧Q (.ref (s.heap.objs.size+1)) s') (X:=X) (goes_only h fun v σ₁ h g₂ s₂ r st rv=>?_) hA (ho.enter.step s1) s1.st
      (.cons (rep_obj.mpr ⟨_,_,rfl,hx,at1⟩) ((RepL.free (F:=g.F) (φ:=g.φ) (ψ:=g.ψ) vs hfr hr).mono s1.le))) fun q s' z=>?_
    · exact goes_grd h fun hv h=>goes_opt h fun p hp h=>bind_some hp fun m hm hp=>goes_grd h fun hl h=>and_tt hl fun h1 h2=>by
        have stt:=s1.trans st
        have e1:p.1=C.names:=dec_tt h1
        exact⟨rep_none.mp (isNone_eq hv▸rv),h _ _ _ (Step.leave hs stt) (frozen_made hC hs stt (st.le.F _ _ hx) (st.le.ψ _ _ at1) hm (e1▸asDict_eq hp) h2)⟩
    · cases q with
      |error e=>exact z
      |ok f=>cases f<;>exact z
theorem construct_new{C:Cls}(KO:KOk T G n K)(hA:AOk A outer n)(ho:Off G outer g s)(hs:St T G g σ s)(hr:RepL T G.w.params g vs rs)
    (h:Goes ((K C.init (.obj c false σ.rw.length::vs) ⟨σ.rw++ [.dict [] []],σ.own⟩).only fun v σ'=>R.grd v.isNone (.ok (.obj c false σ.rw.length) σ')) (OkR T G g σ s Q) (ExR T G outer g s X)):
    codeAny (model PW G.w) A (.call (.ref (T.fnAddr C.init)) ⟨.ref (s.heap.objs.size+1)::rs,[]⟩) (InitBack (s.heap.objs.size+1) (CodeP Q X)) {s with heap:=(s.heap.push emptyDict).push (instObj (T.clsAddr c) s.heap.objs.size)}:=by
  obtain⟨g1,s1,at1,hx⟩:=new_obj hs false c
  have ro:=rep_obj (T:=T) (P:=G.w.params)|>.mpr ⟨_,_,rfl,hx,at1⟩
  refine codeAny_mono (KO.goes (Q:=fun v s'=>v= .none∧Q (.ref (s.heap.objs.size+1)) s') (X:=X) (goes_only h fun v σ₁ h g₂ s₂ r st rv=>goes_grd h fun hv h=>⟨rep_none.mp (isNone_eq hv▸rv),h _ _ _ (s1.trans st) (ro.mono st.le)⟩) hA (ho.step s1) s1.st
    (.cons ro (hr.mono s1.le))) fun q s' z=>?_
  cases q with
  |error e=>exact z
  |ok f=>cases f<;>exact z
theorem construct_rule(O:Okay T G.K)(KO:KOk T G n K)(h:Goes (construct T K c vs σ) (OkR T G g σ s Q) (ExR T G outer g s X))
    (hf:A.frames=some outer) (hh:A.handled=none) (hd:A.depth+2*n+1≤801) (hu:A.units+8*n+1≤805) (ho:Off G outer g s) (hs:St T G g σ s) (hr:RepL T G.w.params g vs rs):
    codeAny (model PW G.w) A (.call (.ref (T.clsAddr c)) ⟨rs,[]⟩) (CodeP Q X) s:=goes_opt h fun C hC h=>by
  have OC:=O.cls c C hC
  have KI:=Gx.frag hs
  have hA:=AOk.under (Cc:=T.clsAddr c) (vals:=rs) hf hh hd hu
  refine make_core (makes_of KI OC.makes) (looks_findIn KI OC.init) (fun self=>bind_fn KI self OC.initF) (.inl rfl) ?_
  exact goes_cond (P:=fun _=>_) h (construct_frz KO hC hA ho hs hr) (construct_new KO hA ho hs hr)
end
end
end Mine
namespace Mine
section
variable {T:Tabs}{G:Gx}{fn:Fn}{n:Nat}{C:Cx T G fn n}{ρ:List (Option V)}{K:Nat→List V→Sg→R V}
theorem Cx.ok(C:Cx T G fn n):AOk C.A C.frs n:=⟨C.frames,C.handled,by have:=C.depth;omega,by have:=C.units;omega⟩
theorem er_plain(env:Env)(pos:Pos): ∀es:List Ex,(backTo pos (starEach (erL T fn es) env)).any (·.1)=false
  | [] =>rfl
  | e::es=>by
    show(backTo pos (starEach (erE T fn e::erL T fn es) env)).any (·.1)=false
    rw [er_star]
    show(false||(backTo pos (starEach (erL T fn es) env)).any (·.1))=false
    rw [er_plain env pos es];rfl
theorem er_star_len(env:Env): ∀es:List Ex,(starEach (erL T fn es) env).length=es.length
  | [] =>rfl
  | e::es=>by
    show(starEach (erE T fn e::erL T fn es) env).length=_
    rw [er_star,List.length_cons,er_star_len env es,List.length_cons]
theorem evalArgs_any{M:Model}{A:Around}{E:Value→Shared→Prop}{s:Shared}{f:Value}{trees:List (Bool×Sem Value)}{Q:Args→Shared→Prop}(hp:trees.any (·.1)=false)
    (h:wpAny M A (spliced trees) (fun vs s'=>Q ⟨vs,[]⟩ s') E s):wpAny M A (evalArgs f true trees []) Q E s:=by
  cases trees with
  | nil=>
    unfold evalArgs
    show wpAny M A (spliced [] >>=_) Q E s
    refine wpAny_bind (wpAny_mono h (fun vs s' h'=>wpAny_bind (wpAny_pure ?_)) fun _ _ x=>x)
    refine wpAny_holding ?_
    exact wpAny_bind (wpAny_pure (wpAny_bind (wpAny_pure (wpAny_pure h'))))
  | cons x rest=>
    obtain⟨b,t⟩:=x
    have hb:b=false:=by cases b<;>simp_all
    subst hb
    exact evalArgs_plain h
noncomputable def KeepOk(M:Model)(f:Value)(h:Heap):Prop:= ∃k,(k=Keeper.frame∨k=Keeper.machine∨k=Keeper.boundFrame)∧Looks M h (keeperOf f) k
theorem call_with{C:CxS T G fn}{pos:Pos}{f:Value}{first:List Value}{es:List Ex}{s:Shared}{Q X:Value→Shared→Prop}
    (h:wpAny (model PW G.w) C.A (spliced (backTo pos (starEach (erL T fn es) C.env))) (fun vs s₁=>KeepOk (model PW G.w) f s₁.heap∧wpAny (model PW G.w) C.A (PySem.call f (first++vs)) Q X s₁) X s):
    wpAny (model PW G.w) C.A (callWith pos f first (backTo pos (starEach (erL T fn es) C.env)) []) Q X s:=
  callWith_of (P:=KeepOk (model PW G.w) f) (by rw [er_plain];rfl) (fun h p=>p) (evalArgs_any (er_plain _ _ _) h)
theorem keep_fn{f:Nat}{g:Gh}{s:Shared}(KO:KOk T G n K){vs:List V}{σ σ':Sg}{ok:V→Sg→Prop}{ex:Nat→Sg→Prop}(h:Goes (K f vs σ') ok ex)(hs:St T G g σ s):KeepOk (model PW G.w) (.ref (T.fnAddr f)) s.heap:=by
  obtain⟨k,a,b⟩:=looks_keep (M:=model PW G.w) (KO.keep f vs σ' (goes_ne h)) (Gx.frag hs)
  exact⟨k,a.elim .inl fun e=> .inr (.inl e),b⟩
section
variable {g₀ g g':Gh}{σ₀ σ:Sg}{s₀ s:Shared}{ρ:List (Option V)}{Q X:Value→Shared→Prop}{vs:List V}{rs:List Value}
theorem at_call{r:R V}(A:AtE C g₀ σ₀ s₀ g σ ρ s)(le:Gh.le g' g)(h:Goes r (OkC C g₀ σ₀ s₀ g' ρ Q) (ExC C g₀ s₀ X)):Goes r (OkR T G g σ s Q) (ExR T G C.frs g s X):=
  goes_mono h (fun _ _ h _ _ _ st r=>h _ _ _ (A.go st) (le.trans st.le) r) fun _ _ h _ _ z=>h _ _ (ExF.trans (ExF.on z) A.step)
theorem fn_rule{f:Nat}(KO:KOk T G n K)(A:AtE C g₀ σ₀ s₀ g σ ρ s)(le:Gh.le g' g)(h:Goes (K f vs σ) (OkC C g₀ σ₀ s₀ g' ρ Q) (ExC C g₀ s₀ X))(hr:RepL T G.w.params g vs rs):
    wpAny (model PW G.w) C.A (PySem.call (.ref (T.fnAddr f)) rs) Q X s:=
  wpAny_call (codeAny_mono (KO.goes (at_call A le h) C.ok A.fm.off A.st hr) fun q s' z=>by cases q with |error e=>exact z |ok f=>cases f<;>exact z)
theorem prim_keep(M:Model)(p:Nat)(h:Heap):KeepOk M (primVal p) h:=⟨.machine,.inr (.inl rfl),by unfold primVal;split<;>exact Looks.of_pure rfl⟩
theorem callV_rule{v:V}{r:Value}(O:Okay T G.K)(KO:KOk T G n K)(A:AtE C g₀ σ₀ s₀ g σ ρ s)(le:Gh.le g' g)(h:Goes (callV T K v vs σ) (OkC C g₀ σ₀ s₀ g' ρ Q) (ExC C g₀ s₀ X))(hv:Rep T G.w.params g v r)(hr:RepL T G.w.params g vs rs):
    KeepOk (model PW G.w) r s.heap∧wpAny (model PW G.w) C.A (PySem.call r rs) Q X s:=by
  cases v with
  |fn f=>cases hv;exact⟨keep_fn KO h A.st,fn_rule KO A le h hr⟩
  | cls c=>
    cases hv
    refine⟨goes_opt h fun Cl hC _=>?_,wpAny_call (codeAny_mono (construct_rule O KO (at_call A le h) C.frames C.handled (by have:=C.depth;omega) (by have:=C.units;omega) A.fm.off A.st hr) fun q s' z=>by cases q with |error e=>exact z |ok f=>cases f<;>exact z)⟩
    obtain⟨k,a,b⟩:=looks_keep (M:=model PW G.w) (O.cls c Cl hC).keep (Gx.frag A.st)
    exact⟨k,a.elim .inl fun e=> .inr (.inl e),b⟩
  |prim p=>cases hv;exact⟨prim_keep _ _ _,goes_opt h fun u hp h=>wpAny_mono (prim_rule O.tab C.handled hp A.st hr) (A.pr le h) fun _ _ x=>x⟩
  |_=>exact h.elim
end
theorem isN_call{f:Ex}{es:List Ex}{p:Pos}:isN f=true→eval (erE T fn (.call f es p)) C.env=(do callWith p (←eval (erE T fn f) C.env) [] (backTo p (starEach (erL T fn es) C.env)) (backToKw p (keywordEach [] C.env))):=by
  cases f<;>first |exact fun _=>rfl |exact no_true
theorem ew_call{f es p}(O:Okay T G.K)(KO:KOk T G n K)(hf0:EG C K ρ f)(hes:LG C K ρ es):EG C K ρ (.call f es p):=fun A h=>goes_grd h fun hN h=>by
  rw [isN_call hN]
  exact wpAny_bind (hf0 A (goes_bind h fun _ _ h _ _ _ A le r=>call_with (hes A _ (goes_tup h fun _ _ h _ _ _ A le₂ r₂=>callV_rule O KO A (le.trans le₂) h (r.mono le₂) r₂))))
theorem er_base(C:CxS T G fn)(a:Ex)(name:Str):attributeBase (erE T fn a) name C.env (eval (erE T fn a) C.env)=eval (erE T fn a) C.env:=by
  have key: ∀(id:Str) (q p:Pos) (t:Sem Value),attributeBase (.Call (.Name id q) [] [] p) name C.env t=t:=fun id q p t=>by
    unfold attributeBase
    have:(id !="super"||name=="__class__"||C.env.kindOf "super" !=some .globalImplicit||C.env.kindOf "__class__" !=some .free)=true:=by
      have h3:(C.env.kindOf "super" !=some .globalImplicit)=true:=by simpa using C.nosup
      rw [h3];simp
    simp only [this,if_true]
  cases a<;>try rfl
  rename_i f es p
  cases f<;>try rfl
  all_goals
    cases es with
    |nil=>exact key _ _ _ _
    |cons=>rfl
theorem er_form(es:List Ex)(env:Env)(p:Pos)(h:es.length<29):methodCallForm ((erL T fn es).length+([] :List Keyword).length) (backTo p (starEach (erL T fn es) env)) (backToKw p (keywordEach [] env))=true:=by
  have h1:(backTo p (starEach (erL T fn es) env)).all (!·.1)=true:=by
    rw [List.all_eq_true]
    intro x hx
    have:=er_plain (T:=T) (fn:=fn) env p es
    rw [List.any_eq_false] at this
    simpa using this x hx
  unfold methodCallForm
  rw [h1,er_len]
  show(true&&true&&decide (es.length+0+0<30))=true
  simp;omega
theorem meth_open{C:CxS T G fn}{a:Ex}{name:Str}{es:List Ex}{q p:Pos}{s:Shared}{Q X:Value→Shared→Prop}(hl:es.length<29)
    (h:wpAny (model PW G.w) C.A (eval (erE T fn a) C.env) (fun ov s₁=>wpAny (model PW G.w) C.A (getMethod ov name (do return (←importBound (erE T fn a) C.env).getD true))
      (fun fx s₂=>wpAny (model PW G.w) C.A (callWith p fx.1 fx.2 (backTo p (starEach (erL T fn es) C.env)) []) Q X s₂) X s₁) X s):
    wpAny (model PW G.w) C.A (eval (.Call (.Attribute (erE T fn a) name (onLine q p)) (erL T fn es) [] p) C.env) Q X s:=by
  rw [arm_eval_Call,er_base C]
  refine wpAny_bind (wpAny_mono h (fun ov s₁ h₁=>wpAny_bind (wpAny_standAt ?_)) fun _ _ x=>x)
  unfold methodCall
  rw [er_form es C.env p hl]
  have hpos:methodCallPos true (erE T fn a) C.env (onLine q p) p=pure p:=by
    unfold methodCallPos onLine
    simp
  refine wpAny_bind (wpAny_holding ?_)
  refine wpAny_mono (show wpAny _ _ (calleeOf true (erE T fn a) C.env ov name) _ _ _ from h₁) (fun fx s₂ h₂=>?_) fun _ _ x=>x
  exact wpAny_bind (wpAny_of_eq hpos h₂)
theorem getF_not{x:Nat}{Cl:Cls}{c:Nat}{f:Nat}(O:ClsOk T G.K c Cl)(h:Cl.meths.lookup x=some f):Cl.names.contains x=false:=(O.met x f h).2.2.2
theorem inst_meth{x c f:Nat}{Cl:Cls}{a d:Addr}{ks:List Nat}{vs:List V}{es:List DictEntry}{m:Nat}{v:V}{σ:Sg}{g:Gh}{s:Shared}{A:Around}{pl:Sem Bool}{X:Value→Shared→Prop}(O:Okay T G.K)(hC:T.cls c=some Cl)(hm:Cl.meths.lookup x=some f)(hs:St T G g σ s)
    (h1:s.heap.get? a=some (instObj (T.clsAddr c) d)) (h2:s.heap.get? d=some (dictOf es m)) (h3:RepE T G.w.params g ks vs es) (hk:ks.contains x=false) (h:Rep T G.w.params g v (.ref a)):
    wpAny (model PW G.w) A (getMethod (.ref a) (T.nm x) pl) (fun fx s'=> ∃g' rs,Step T G g σ s g' σ s'∧fx=(.ref (T.fnAddr f),rs)∧RepL T G.w.params g' [v] rs) X s:=by
  have OC:=O.cls c Cl hC
  obtain⟨m1,m2,m3,m4⟩:=OC.met x f hm
  have I:InstAt s.heap a (instObj (T.clsAddr c) d) (T.clsAddr c) (some (dictOf es m)):=⟨h1,rfl,rfl,h2⟩
  refine method_fn (Gx.frag hs) I OC.ga OC.gk m1 m2 ?_ ⟨g,[.ref a],.refl hs,rfl,.cons h .nil⟩
  show(lookIn (T.nm x) (dictOf es m)).map (·.isSome)=some false
  rw [lookIn_dict,repE_no O.tab.inj h3 hk];rfl
theorem mlook_rule {x:Nat} {v:V} {p:Nat×List V} {σ:Sg} {g:Gh} {s:Shared} {r:Value} {A:Around} {pl:Sem Bool} {X:Value→Shared→Prop} (O:Okay T G.K) (e:mlook T σ x v=some p) (hs:St T G g σ s) (h:Rep T G.w.params g v r):
    wpAny (model PW G.w) A (getMethod r (T.nm x) pl) (fun fx s'=> ∃g' rs,Step T G g σ s g' σ s'∧fx=(.ref (T.fnAddr p.1),rs)∧RepL T G.w.params g' p.2 rs) X s:=by
  cases v with
  | inst c vs=>
    exact bind_some e fun Cl hC e=>map_some e fun f hm e=>by
      subst e
      obtain⟨C',a,d,es,m,hC',rfl,h1,h2,h3⟩:=id h
      obtain rfl:=Option.some.inj (hC.symm.trans hC')
      exact inst_meth O hC hm hs (hs.fz _ _ h1) (hs.fz _ _ h2) h3 ((O.cls c Cl hC).met x f hm).2.2.2 h
  | obj c o k=>
    exact bind_some e fun Cl hC e=>bind_some e fun q hq e=>bind_some hq fun m hm hq=>by
      cases hk:q.1.contains x with
      |true=>rw [hk] at e;exact no_some e
      | false=>
        rw [hk] at e
        exact map_some e fun f hf e=>by
          subst e
          obtain⟨a,d,rfl,h1,h2⟩:=id h
          rw [asDict_eq hq] at hm
          obtain⟨es,m,h3,h4⟩:=hs.cellAt hm h2
          exact inst_meth O hC hf hs (hs.fz _ _ h1) h3 h4 hk h
  | cls c=>
    exact bind_some e fun Cl hC e=>map_some e fun f hm e=>by
      subst e
      cases h
      have OC:=O.cls c Cl hC
      obtain⟨m1,m2,m3,m4⟩:=OC.met x f hm
      exact method_cls (Gx.frag hs) OC.gt (cls_value (Gx.frag hs) OC.reads m3 rfl ⟨g,[],.toks hs _,rfl,.nil⟩)
  |_=>exact no_some e
theorem ew_meth{a x es q p}(O:Okay T G.K)(KO:KOk T G n K)(ha:EG C K ρ a)(hes:LG C K ρ es):EG C K ρ (.meth a x es q p):=fun A h=>goes_grd h fun hl h=>
  meth_open (dec_tt hl) (ha A (goes_bind h fun _ _ h _ _ _ A le r=>goes_opt h fun z hm h=>wpAny_mono (mlook_rule O hm A.st r) (fun fx s₂ y=>by
    obtain⟨g₂,fs,st,rfl,hfs⟩:=y
    exact call_with (hes (A.go st) _ (goes_tup h fun _ _ h _ _ _ A le₃ r₃=>⟨keep_fn KO h A.st,fn_rule KO A ((le.trans st.le).trans le₃) h ((hfs.mono le₃).app r₃)⟩))) fun _ _ x=>x))
theorem list_self{p:Bool×Nat×List V}{v:V}{σ:Sg}{g:Gh}{s:Shared}{r:Value}(e:lstAt σ v=some p)(hs:St T G g σ s)(h:Rep T G.w.params g v r):s.TypeIs r "list"∧ ∀a,r= .ref a→ ∃ob,s.heap.get? a=some ob∧ob.dict=none:=
  list_at e hs h fun a qs n hr _ _ ho _=>by subst hr;exact⟨⟨_,ho,rfl⟩,fun b q=>by cases q;exact⟨_,ho,rfl⟩⟩
theorem str_self{v:V}{x:Nat}{g:Gh}{s:Shared}{r:Value}(e:v.asStr=some x)(h:Rep T G.w.params g v r):s.TypeIs r "str"∧ ∀a,r= .ref a→ ∃ob,s.heap.get? a=some ob∧ob.dict=none:=by
  obtain⟨t,rfl⟩:=rep_str.mp (asStr_eq e▸h)
  exact⟨typeIs_str s _ t,fun a q=>by cases q⟩
theorem is_some{α:Type}{o:Option α}{P:Prop}(h:o.isSome=true)(k: ∀a,o=some a→P):P:=match o,h,k with |some a,_,k=>k a rfl
theorem bmOk_rule{m:BM}{v:V}{σ:Sg}{g:Gh}{s:Shared}{r:Value}(e:bmOk σ m v=true)(hs:St T G g σ s)(h:Rep T G.w.params g v r):m.Self s r:=by
  cases m with
  |append=>exact is_some e fun p hp=>list_self hp hs h
  |reverse=>exact is_some e fun p hp=>list_self hp hs h
  |remove=>exact is_some e fun p hp=>list_self hp hs h
  |index=>exact is_some e fun p hp=>by obtain⟨a,rs,n,rfl,ho,-⟩:=hs.list (asLst_eq hp▸h);exact⟨⟨_,ho,rfl⟩,fun b q=>by cases q;exact⟨_,ho,rfl⟩⟩
  |split0=>exact is_some e fun p hp=>str_self hp h
  |split1=>exact is_some e fun p hp=>str_self hp h
  |starts=>exact is_some e fun p hp=>str_self hp h
  | get=>
    exact is_some e fun f hf=>bind_some hf fun p hp hf=>bind_some hf fun m hm hf=>by
      obtain⟨a,rfl,ha⟩:=rep_ref.mp (asRef_eq hp▸h)
      rw [asInts_eq hf] at hm
      obtain⟨kvs,hd,-⟩:=hs.cellAt hm ha
      obtain⟨o,es,ep,ho,hx,-⟩:=id hd
      exact⟨hd.typeIs,fun b q=>by cases q;exact⟨o,ho,hx.2.1⟩⟩
theorem ew_bm{m a es q p}(O:Okay T G.K)(ha:EG C K ρ a)(hes:LG C K ρ es):EG C K ρ (.bm m a es q p):=fun A h=>goes_grd h fun hl h=>
  meth_open (dec_tt hl) (ha A (goes_bind h fun _ _ h _ _ _ A le r=>goes_grd h fun hb h=>by
    obtain⟨b1,b2⟩:=bmOk_rule hb A.st r
    exact getMethod_builtin b1 m.plain m.slot m.desc b2 (call_with (hes A _ (goes_tup h fun _ _ h _ _ _ A le₃ r₃=>goes_opt h fun z hv h=>
      ⟨⟨.machine,.inr (.inl rfl),Looks.of_pure rfl⟩,wpAny_mono (bm_rule O.tab hv A.st (r.mono le₃) r₃) (A.pr (le.trans le₃) h) fun _ _ x=>x⟩)))))
end
end Mine
namespace Mine
section
variable {T:Tabs}{G:Gx}{fn:Fn}{n:Nat}{C:Cx T G fn n}{ρ:List (Option V)}{K:Nat→List V→Sg→R V}
theorem paired_eq{p:Value→Bool}{vs ys:List Value}(h:Paired (fun v y=>y=v) (vs.filter p) ys):ys=vs.filter p:=by
  generalize vs.filter p=l at h
  induction h with
  |nil=>rfl
  |cons e _ ih=>rw [e,ih]
theorem all_items{vs:List Value}{items:List Value}(hl:vs.length=items.toArray.size)(h: ∀(j:Nat) (v:Value),vs[j]? =some v→items.toArray[j]? =some v):vs=items:=by
  refine List.ext_getElem? fun j=>?_
  cases e:vs[j]? with
  |some v=>have:=h j v e;simpa using this.symm
  | none=>
    have:vs.length≤j:=List.getElem?_eq_none_iff.mp e
    rw [hl] at this
    exact(List.getElem?_eq_none_iff.mpr (by simpa using this)).symm
theorem comp_names{x:Nat}{more:List (Str×NameKind)}(O:TabOk T):List.lookup (T.nm x) ((Str.ofString ".0",NameKind.local)::(T.nm x,.local)::more)=some .local:=by
  rw [List.lookup_cons,O.nodot];simp [List.lookup_cons]
theorem comp_all{x:Nat}{more:List (Str×NameKind)}(O:TabOk T)(hm: ∀z∈more,z.2≠ .local): ∀z∈((Str.ofString ".0",NameKind.local)::(T.nm x,NameKind.local)::more),z.2= .local→
    List.lookup z.1 ((Str.ofString ".0",NameKind.local)::(T.nm x,.local)::more)=some .local:=by
  intro z hz hk
  rcases List.mem_cons.mp hz with rfl |hz
  · simp [List.lookup_cons]
  · rcases List.mem_cons.mp hz with rfl |hz
    · exact comp_names O
    · exact absurd hk (hm z hz)
theorem keeps_refl(s:Shared):Keeps s s:=⟨s.heap,s.toks,rfl,fun _ _ e=>e⟩
noncomputable abbrev itObj(a:Addr):Obj:={cls:= .type "list_iterator",data:= .fields #[.ref a,.int 0 0]}
theorem it_in{h:Heap}{a:Addr}{o ob:Obj}(e:h.get? a=some o): ∀b∈ [h.objs.size,a],b< (h.push ob).objs.size:=fun b hb=>by
  rw [Heap.size_push]
  rcases List.mem_cons.mp hb with rfl |hb
  · exact Nat.lt_succ_self _
  · rw [List.mem_singleton.mp hb];exact Nat.lt_succ_of_lt (Heap.lt_size e)
theorem it_keep{h h':Heap}{ob:Obj}(hk: ∀b o,b∉ [h.objs.size] →(h.push ob).get? b=some o→h'.get? b=some o)(b:Addr)(o:Obj)(e:h.get? b=some o):h'.get? b=some o:=
  hk b o (fun m=>Nat.ne_of_lt (Heap.lt_size e) (List.mem_singleton.mp m)) (Heap.get?_push_of_some _ e)
theorem it_none{h:Heap}{ob:Obj}{D:Addr}(e:(h.push ob).get? D=none):h.get? D=none:=by
  cases q:h.get? D with
  |none=>rfl
  |some o=>have:=Heap.get?_push_of_some ob q;rw [e] at this;cases this
theorem it_st{h:Heap}{a:Addr}{items:Array Value}(hl:h.IsList a items):(∃o,(h.push (itObj a)).get? h.objs.size=some o∧o.cls= .type "list_iterator"∧o.data= .fields #[.ref a,.int 0 0])∧(h.push (itObj a)).IsList a items:=
  ⟨⟨_,Heap.get?_push_size _ rfl,rfl,rfl⟩,hl.at fun o e=>Heap.get?_push_of_some _ e⟩
noncomputable def intScope(T:Tabs)(x:Nat):Scope:={kind:= .function,names:= [(Str.ofString ".0",.local),(T.nm x,.local),(T.nm T.int,.globalImplicit)],isGenerator:=false,isCoroutine:=false,more:= []}
theorem comp_int{x:Nat}{q2 q3:Pos}{Ca:Addr}{i:Int}{t:Tok}{s₃:Shared}{m₃:Str→Option Value}{E':Value→Shared→Prop}(O:Okay T G.K)(hN:s₃.heap.Ns (compEnv (intScope T x) Ca C.env).locals m₃)(hv:m₃ (T.nm x)=some (.int i t)):
    wpAny (model PW G.w) C.A (callWith q3 (primVal 3) [] (backTo q3 (starEach [PySem.Expr.Name (T.nm x) q2] (compEnv (intScope T x) Ca C.env))) []) (fun y s₄=>y=Value.int i t∧Keeps s₃ s₄) E' s₃:=
  callWith_of (P:=fun _=>True) rfl (fun h _=>⟨.machine,.inr (.inl rfl),Looks.of_pure rfl⟩) (evalArgs_plain (spliced_cons (wpAny_Name (wpAny_loadName_local rfl (comp_names O.tab) hN hv (spliced_nil ⟨trivial,call_int_int ⟨rfl,keeps_refl _⟩⟩)) (C.nodbg _))))
theorem comp_elt{x:Nat}{q1 q2 q3:Pos}{Ca:Addr}{i:Int}{t:Tok}{g:Gh}{σ:Sg}{s₁ s₃:Shared}{m₃:Str→Option Value}{E':Value→Shared→Prop}(O:Okay T G.K)(hne:x≠T.int)(hs:St T G g σ s₁)(k3: ∀b o,s₁.heap.get? b=some o→s₃.heap.get? b=some o)
    (hN:s₃.heap.Ns (compEnv (intScope T x) Ca C.env).locals m₃) (hv:m₃ (T.nm x)=some (.int i t)):
    wpAny (model PW G.w) C.A (eval (.Call (.Name (T.nm T.int) q1) [.Name (T.nm x) q2] [] q3) (compEnv (intScope T x) Ca C.env)) (fun y s₄=>y=Value.int i t∧Keeps s₃ s₄) E' s₃:=by
  have hxy:T.nm x≠T.nm T.int:=fun q=>hne (O.tab.inj _ _ q)
  obtain⟨r,hr1,hr2⟩:=O.int
  obtain rfl:=rep_prim.mp (hr2 G.w.params g)
  have KI:=(Gx.frag hs).keeps k3
  refine Call_ (args:= [.Name (T.nm x) q2]) (Name_function_global rfl ?_ ?_ (C.nodbg _))
  · show List.lookup (T.nm T.int) [(Str.ofString ".0",NameKind.local),(T.nm x,.local),(T.nm T.int,.globalImplicit)] =_
    rw [List.lookup_cons,O.tab.nodot,List.lookup_cons,beq_eq_false_iff_ne.mpr hxy.symm]
    exact List.lookup_cons_self
  · unfold loadGlobal
    show wpAny _ _ (nsGet C.env.globals _>>=_) _ _ _
    rw [C.glob]
    rcases hr1 with h1 |⟨h1,h2,h3⟩
    · exact wpAny_bind ((looks_nsIn KI h1).here (wpAny_pure (comp_int O hN hv)))
    · refine wpAny_bind ((looks_nsIn KI h1).here ?_)
      show wpAny _ _ (nsGet C.env.builtins _>>=_) _ _ _
      rw [C.blt]
      obtain⟨o,es,ep,ho,q⟩:=G.nb
      refine wpAny_bind (wpAny_nsGet (m:=G.mb) ⟨o,es,ep,k3 _ _ (hs.fz _ _ (hs.base _ _ ho G.offb)),q⟩ ?_)
      rw [show G.mb (T.nm T.int)=some (primVal 3) from(G.keyed _ h3).trans h2]
      exact wpAny_pure (comp_int O hN hv)
theorem int_scope(O:TabOk T)(x:Nat):(∀y∈(intScope T x).names,y.2≠ .free)∧(∀y∈(intScope T x).names,y.2≠ .cell)∧ ∀y∈(intScope T x).names,y.2= .local→(intScope T x).names.lookup y.1=some .local:=
  ⟨by simp [intScope],by simp [intScope],comp_all O (by simp)⟩
theorem ew_comp1{e x y q1 q2 q3 q4 p}(O:Okay T G.K)(ha:EG C K ρ e):EG C K ρ (.comp1 e x y q1 q2 q3 q4 p):=fun A h₀=>goes_grd h₀ fun hy h=>and_tt hy fun hy1 hy2=>by
  have hy1:y=T.int:=dec_tt hy1
  clear h₀
  subst hy1
  obtain⟨f1,f2,f3⟩:=int_scope O.tab x
  refine wpAny_ListComp_walk (scope:=intScope T x) (fun _=>true) (fun v y=>y=v) f1 f2 rfl f3 (comp_names O.tab) (ha A (goes_bind h fun z _ h _ s₁ _ A le r=>goes_opt h fun vs hc h=>bind_some hc fun ws hw hc=>cond_some hc fun hl hc=>map_some hc fun xs hx hc=>?_)) (by intro z;cases e<;>rfl)
  subst hc
  obtain⟨a,rs,m,rfl,ho,hr⟩:=A.st.list (asLst_eq hw▸r)
  have hl':s₁.heap.IsList a rs.toArray:=⟨_,ho,rfl,m,rfl⟩
  refine wpAny_pyIter_list hl' ⟨_,_,_,_,_,_,rfl,Walks.list (prog:=PW) (w:=G.w) C.handled s₁.heap.objs.size a (Nat.ne_of_lt (Heap.lt_size ho)) rs.toArray,len_in hr (dec_tt hl),it_st hl',it_in ho,⟨?_,?_⟩,?_⟩
  · exact fun Ca i v s₃ m₃ E' hP hN hv hk ht=>wpAny_pure ⟨rfl,keeps_refl _⟩
  · intro Ca i v s₃ m₃ E' hP _ hN hv hk ht
    obtain⟨t,rfl⟩:=(intsAt hr hx).2 i v ((List.getElem?_toArray ..).symm.trans hP)
    exact comp_elt O (ne_tt hy2) A.st (it_keep hk) hN hv
  · intro D h' tk ys vs' hD hl2 hpl hlen hP hF hk
    have e1:=paired_eq hF
    rw [List.filter_eq_self.mpr (fun _ _=>rfl),all_items hlen hP] at e1
    obtain⟨c',hpl⟩:=hpl
    exact A.pr le h _ _ (Pr.lstAt (n:=c') A.st hr (it_none hD) (s':={s₁ with heap:=h',toks:=tk}) (by rw [hpl,←e1]) (it_keep hk) rfl rfl)
mutual
theorem soundG(O:Okay T G.K)(KO:KOk T G n K)(C:Cx T G fn n)(ρ:List (Option V)): ∀e:Ex,EG C K ρ e∧BG C K ρ e
  | .loc i p=>⟨ew_loc,bw_val ew_loc rfl⟩
  | .glob i p=>⟨ew_glob,bw_val ew_glob rfl⟩
  | .int i k p=>⟨ew_int,bw_val ew_int rfl⟩
  | .str i k p=>⟨ew_str,bw_val ew_str rfl⟩
  | .bool b k p=>⟨ew_bool,bw_val ew_bool rfl⟩
  | .none k p=>⟨ew_none,bw_val ew_none rfl⟩
  | .bin op a b p=>have h:EG C K ρ _:=ew_bin (op:=op) (p:=p) (soundG O KO C ρ a).1 (soundG O KO C ρ b).1;⟨h,bw_val h rfl⟩
  | .mulM o a b p=>have h:EG C K ρ _:=ew_mulM (o:=o) (p:=p) (soundG O KO C ρ a).1 (soundG O KO C ρ b).1;⟨h,bw_val h rfl⟩
  | .neg a p=>have h:EG C K ρ _:=ew_neg (p:=p) (soundG O KO C ρ a).1;⟨h,bw_val h rfl⟩
  | .not a p=>⟨ew_not (soundG O KO C ρ a).1,bw_not (soundG O KO C ρ a).2⟩
  | .cmp op a b p=>⟨ew_cmp O (soundG O KO C ρ a).1 (soundG O KO C ρ b).1,bw_cmp O (soundG O KO C ρ a).1 (soundG O KO C ρ b).1⟩
  | .cmp2 op op' a b c p=>⟨ew_cmp2 (soundG O KO C ρ a).1 (soundG O KO C ρ b).1 (soundG O KO C ρ c).1,bw_cmp2 (soundG O KO C ρ a).1 (soundG O KO C ρ b).1 (soundG O KO C ρ c).1⟩
  | .and es p=>⟨ew_and (soundLG O KO C ρ es).2.2.2.1,bw_and (soundLG O KO C ρ es).2.1⟩
  | .or es p=>⟨ew_or (soundLG O KO C ρ es).2.2.2.2,bw_or (soundLG O KO C ρ es).2.2.1⟩
  | .ite t a b p=>⟨ew_ite (soundG O KO C ρ t).2 (soundG O KO C ρ a).1 (soundG O KO C ρ b).1,bw_ite (soundG O KO C ρ t).2 (soundG O KO C ρ a).2 (soundG O KO C ρ b).2⟩
  | .tup es k p=>have h:EG C K ρ _:=ew_tup (k:=k) (p:=p) (soundLG O KO C ρ es).1;⟨h,bw_val h rfl⟩
  | .lst es p=>have h:EG C K ρ _:=ew_lst (p:=p) (soundLG O KO C ρ es).1;⟨h,bw_val h rfl⟩
  | .lstM o es p=>have h:EG C K ρ _:=ew_lstM (o:=o) (p:=p) (soundLG O KO C ρ es).1;⟨h,bw_val h rfl⟩
  | .dictI o p=>have h:EG C K ρ _:=ew_dictI (C:=C) (K:=K) (ρ:=ρ) (o:=o) (p:=p);⟨h,bw_val h rfl⟩
  | .dictS o xs es p=>have h:EG C K ρ _:=ew_dictS (C:=C) (K:=K) (ρ:=ρ) (o:=o) (p:=p) (xs:=xs) (es:=es) O;⟨h,bw_val h rfl⟩
  | .attr a x p=>have h:EG C K ρ _:=ew_attr (x:=x) (p:=p) O (soundG O KO C ρ a).1 (er_base C.toCxS a (T.nm x));⟨h,bw_val h rfl⟩
  | .sub a b p=>have h:EG C K ρ _:=ew_sub (p:=p) O (soundG O KO C ρ a).1 (soundG O KO C ρ b).1;⟨h,bw_val h rfl⟩
  | .slcTo a b q p=>have h:EG C K ρ _:=ew_slcTo (q:=q) (p:=p) (soundG O KO C ρ a).1 (soundG O KO C ρ b).1;⟨h,bw_val h rfl⟩
  | .slcOn a b q p=>have h:EG C K ρ _:=ew_slcOn (q:=q) (p:=p) O (soundG O KO C ρ a).1 (soundG O KO C ρ b).1;⟨h,bw_val h rfl⟩
  | .call f es p=>have h:EG C K ρ _:=ew_call (p:=p) O KO (soundG O KO C ρ f).1 (soundLG O KO C ρ es).1;⟨h,bw_val h rfl⟩
  | .meth a x es q p=>have h:EG C K ρ _:=ew_meth (x:=x) (q:=q) (p:=p) O KO (soundG O KO C ρ a).1 (soundLG O KO C ρ es).1;⟨h,bw_val h rfl⟩
  | .bm m a es q p=>have h:EG C K ρ _:=ew_bm (m:=m) (q:=q) (p:=p) O (soundG O KO C ρ a).1 (soundLG O KO C ρ es).1;⟨h,bw_val h rfl⟩
  | .comp1 e x y q1 q2 q3 q4 p=>have h:EG C K ρ _:=ew_comp1 (x:=x) (y:=y) (q1:=q1) (q2:=q2) (q3:=q3) (q4:=q4) (p:=p) O (soundG O KO C ρ e).1;⟨h,bw_val h rfl⟩
theorem soundLG(O:Okay T G.K)(KO:KOk T G n K)(C:Cx T G fn n)(ρ:List (Option V)): ∀es:List Ex,LG C K ρ es∧AG C K ρ es∧OG C K ρ es∧(es≠ [] →AV C K ρ es)∧(es≠ [] →OV C K ρ es)
  | [] =>⟨lw_nil,aw_nil,ow_nil,fun h=>absurd rfl h,fun h=>absurd rfl h⟩
  | e ::es=>
    have h:=soundG O KO C ρ e
    have hs:=soundLG O KO C ρ es
    ⟨lw_cons h.1 hs.1,aw_cons h.2 hs.2.1,ow_cons h.2 hs.2.2.1,fun _=>match es,hs with
      | [],_=>av_one h.1
      |_::_,hs=>av_cons h.1 (hs.2.2.2.1 (by simp)),fun _=>match es,hs with
      | [],_=>ov_one h.1
      |_::_,hs=>ov_cons h.1 (hs.2.2.2.2 (by simp))⟩
end
theorem soundE(O:Okay T G.K)(KO:KOk T G n K)(C:Cx T G fn n)(ρ:List (Option V))(e:Ex):SE C K ρ e∧SB C K ρ e:=⟨EG.old (soundG O KO C ρ e).1,BG.old (soundG O KO C ρ e).2⟩
theorem soundL(O:Okay T G.K)(KO:KOk T G n K)(C:Cx T G fn n)(ρ:List (Option V))(es:List Ex):SL C K ρ es:=LG.old (soundLG O KO C ρ es).1
end
end Mine
namespace Mine
section
variable {T:Tabs}{G:Gx}{fn:Fn}{n:Nat}{C:Cx T G fn n}{K:Nat→List V→Sg→R V}
structure At(C:Cx T G fn n)(g₀:Gh)(σ₀:Sg)(s₀:Shared)(g:Gh)(σ:Sg)(ρ:List (Option V))(s:Shared):Prop where
  step:StepL T G C.priv g₀ σ₀ s₀ g σ s
  fm:Fm C g ρ s
theorem Fm.offp{g ρ s}(x:Fm C g ρ s): ∀a∈C.priv,a∉g.act:=fun a ha=>(x.own a ha).2.1
theorem At.go{g₀ σ₀ s₀ g σ ρ s g' σ' s'}(x:At C g₀ σ₀ s₀ g σ ρ s)(y:Step T G g σ s g' σ' s'):At C g₀ σ₀ s₀ g' σ' ρ s':=⟨x.step.trans (y.toL x.fm.offp),x.fm.step y⟩
theorem At.turn {g₀ σ₀ s₀ g σ ρ ρ' s} {b:Addr} {ob:Obj} {h':Heap} {t:Nat} (x:At C g₀ σ₀ s₀ g σ ρ s) (hb:Mine1 G g s.heap b) (hb0:b∈C.priv∨s₀.heap.get? b=none)
    (hs: ∀a o,a≠b→s.heap.get? a=some o→h'.get? a=some o) (ho:h'.get? b=some ob) (hd: ∀vs,ob.data≠ .fields vs)
    (hc: ∀i o,C.cel i=some (o,b)→ ∃v,ob.data= .cell v) (hl: ∃m,h'.Ns C.env.locals m∧Loc C g h' m ρ'):At C g₀ σ₀ s₀ g σ ρ' {s with heap:=h',toks:=t}:=by
  have st:=x.step.st
  have m1: ∀a,Mine1 G g s.heap a→Mine1 G g h' a:=fun a ⟨p,q,r,o,e,f⟩=>by
    by_cases z:a=b
    · subst z;exact⟨p,q,r,ob,ho,hd⟩
    · exact⟨p,q,r,o,hs a o z e,f⟩
  refine⟨⟨⟨⟨fun a o e=>hs a o (fun q=>by rw [q,hb.1] at e;cases e) (st.fz a o e),fun o k c e=>?_,st.lrw,st.lown,st.nd,fun a ha=>?_,st.base,?_,st.free⟩,st.gens,st.os⟩,x.step.le,fun a o e na nL=>?_,x.step.newF,x.step.newA,fun a ha o e=>?_⟩,⟨⟨?_,x.fm.off.off⟩,fun a ha=>m1 a (x.fm.own a ha),fun i o a e=>⟨m1 a (x.fm.cells i o a e).1,?_⟩,hl⟩⟩
  · obtain ⟨a,h1,h2⟩:=st.cell o k c e
    exact⟨a,h1,h2.mono (.refl _) fun o' e'=>hs a o' (fun q=>hb.2.1 (q▸Gh.sel_mem h1)) e'⟩
  · obtain ⟨p,q,o,e⟩:=st.off a ha
    exact⟨p,q,o,hs a o (fun q=>hb.2.1 (q▸ha)) e⟩
  · obtain ⟨o,e⟩:=st.tabs
    obtain⟨o',e'⟩:=G.tabL
    exact⟨o,hs _ o (fun q=>by rw [q,hb.2.2.1] at e';cases e') e⟩
  · refine hs a o (fun q=>?_) (x.step.keep a o e na nL)
    rcases hb0 with hb0 |hb0
    · exact nL (q▸hb0)
    · rw [q,hb0] at e;cases e
  · obtain ⟨o',e'⟩:=x.step.live a ha o e
    by_cases q:a=b
    · subst q;exact⟨ob,ho⟩
    · exact⟨o',hs a o' q e'⟩
  · have: ∀{l:List Env},s.heap.FunFrames G.g₀ l→h'.FunFrames G.g₀ l:=by
      intro l
      induction l with
      |nil=>intro _;trivial
      | cons e r ih=>
        rintro ⟨hk,⟨L',o,hf,hn',ho',hd'⟩,hr⟩
        refine⟨hk,?_,ih hr⟩
        by_cases q:L'=b
        · subst q;exact⟨_,ob,hf,hn',ho,hd⟩
        · exact⟨L',o,hf,hn',hs _ _ q ho',hd'⟩
    exact this x.fm.off.frames
  · obtain ⟨o',v,e1,e2⟩:=(x.fm.cells i o a e).2
    by_cases q:a=b
    · subst q;obtain⟨v,hv⟩:=hc i o e;exact⟨ob,v,ho,hv⟩
    · exact⟨o',v,hs a o' q e1,e2⟩
theorem Loc.put{g:Gh}{h h':Heap}{m m':Str→Option Value}{ρ:List (Option V)}{i:Nat}{v:V}{r:Value}(hL:Loc C g h m ρ)(hi:i<ρ.length)(hv:Rep T G.w.params g v r)(hr:Holds C h' m' i r)
    (k: ∀j w q,j≠i→j<fn.ns.length→ρ[j]? =some (some w)→Holds C h m j q→Holds C h' m' j q):Loc C g h' m' (ρ.set i (some v)):=by
  refine⟨by rw [List.length_set];exact hL.1,fun j w hj=>?_⟩
  rw [List.getElem?_set] at hj
  by_cases q:i=j
  · subst q
    rw [if_pos rfl,if_pos hi] at hj
    cases hj
    exact⟨r,hr,hv⟩
  · rw [if_neg q] at hj
    obtain⟨r',h1,h2⟩:=hL.2 j w hj
    have hj':j<fn.ns.length:=by rw [←hL.1];exact(List.getElem?_eq_some_iff.mp hj).1
    exact⟨r',k j w r' (Ne.symm q) hj' hj h1,h2⟩
theorem At.store{g₀ σ₀ s₀ g σ ρ s}{i:Nat}{v:V}{r:Value}{m m':Str→Option Value}{h':Heap}{t:Nat}(x:At C g₀ σ₀ s₀ g σ ρ s)(hi:i<ρ.length)(hci:C.cel i=none)(hv:Rep T G.w.params g v r)(hm:s.heap.Ns C.env.locals m)(hL:Loc C g s.heap m ρ)
    (hs: ∀a o,a≠C.env.locals→s.heap.get? a=some o→h'.get? a=some o)
    (hn:h'.Ns C.env.locals m') (hm': ∀y,m' y=if y=nmOf T fn.ns i then some r else m y):At C g₀ σ₀ s₀ g σ (ρ.set i (some v)) {s with heap:=h',toks:=t}:=by
  obtain⟨oL,es,ep,hL1,hL2,hL3,hL4⟩:=id hn
  have hi':i<fn.ns.length:=by rw [←hL.1];exact hi
  refine x.turn (x.fm.own _ C.privL) (.inl C.privL) hs hL1 (fun vs e=>by rw [hL2] at e;cases e) (fun i o e=>absurd rfl (C.clNe _ _ _ e)) ⟨m',hn,hL.put hi hv ?_ fun j w q ne hj _ hq=>?_⟩
  · unfold Holds;rw [hci];exact(hm' _).trans (if_pos rfl)
  · unfold Holds at hq ⊢
    cases c:C.cel j with
    | none=>
      rw [c] at hq
      exact(hm' _).trans ((if_neg fun z=>ne (C.inj j i hj hi' z)).trans hq)
    | some p=>
      obtain⟨o,a⟩:=p
      rw [c] at hq
      obtain⟨ob,h1,h2⟩:=hq
      exact⟨ob,hs a ob (C.clNe _ _ _ c) h1,h2⟩
theorem At.fill{g₀ σ₀ s₀ g σ ρ s}{i:Nat}{v:V}{r:Value}{a:Addr}{h':Heap}(x:At C g₀ σ₀ s₀ g σ ρ s)(hi:i<ρ.length)(hci:C.cel i=some (true,a))(hv:Rep T G.w.params g v r)
    (hc:h'.IsCell a (some r)) (hs:Heap.SameBut a s.heap h'):At C g₀ σ₀ s₀ g σ (ρ.set i (some v)) {s with heap:=h'}:=by
  obtain⟨m,hm,hL⟩:=x.fm.loc
  obtain⟨ob,h1,h2⟩:=hc
  have keep: ∀b o,b≠a→s.heap.get? b=some o→h'.get? b=some o:=fun b o ne e=>(hs.2 b ne).trans e
  refine x.turn (t:=s.toks) (x.fm.cells i true a hci).1 (.inl (C.privC _ _ hci)) keep h1 (fun vs e=>by rw [h2] at e;cases e) (fun j o e=>⟨_,h2⟩) ⟨m,hm.at' fun o e=>keep _ o (fun q=>C.clNe _ _ _ hci q.symm) e,hL.put hi hv ?_ fun j w q ne hj _ hq=>?_⟩
  · unfold Holds;rw [hci];exact⟨ob,h1,h2⟩
  · refine hq.step fun o b ob' e1 e2=>keep b ob' (fun z=>ne ?_) e2
    subst z
    exact C.clInj _ _ _ _ _ e1 hci
noncomputable def OkS(C:Cx T G fn n)(g₀:Gh)(σ₀:Sg)(s₀:Shared)(Q:Flow→Shared→Prop):Out→Sg→Prop:=fun o σ₁=>match o with
  | .next ρ'=> ∀g₁ s₁,At C g₀ σ₀ s₀ g₁ σ₁ ρ' s₁→Q .next s₁
  | .ret x=> ∀g₁ s₁ v,StepL T G C.priv g₀ σ₀ s₀ g₁ σ₁ s₁→Rep T G.w.params g₁ x v→Q (.ret v) s₁
noncomputable def OkA(C:Cx T G fn n)(g₀:Gh)(σ₀:Sg)(s₀:Shared)(g:Gh)(ρ:List (Option V))(Q:Value→Shared→Prop):V→Sg→Prop:=
  fun x σ₁=> ∀g₁ s₁ v,At C g₀ σ₀ s₀ g₁ σ₁ ρ s₁→Gh.le g g₁→Rep T G.w.params g₁ x v→Q v s₁
noncomputable def OkT(C:Cx T G fn n)(g₀:Gh)(σ₀:Sg)(s₀:Shared)(g:Gh)(Q:Unit→Shared→Prop):Out→Sg→Prop:=fun o σ₁=> ∀ρ',o= .next ρ'→ ∀g₁ s₁,At C g₀ σ₀ s₀ g₁ σ₁ ρ' s₁→Gh.le g g₁→Q () s₁
noncomputable def SG(C:Cx T G fn n)(K:Nat→List V→Sg→R V)(st:Sx):Prop:= ∀{ρ σ g₀ σ₀ s₀ g s Q X},At C g₀ σ₀ s₀ g σ ρ s→Goes (evalS T K fn st ρ σ) (OkS C g₀ σ₀ s₀ Q) (ExC C g₀ s₀ X)→wpAny (model PW G.w) C.A (exec (erS T fn st) C.env) Q X s
noncomputable def SGs(C:Cx T G fn n)(K:Nat→List V→Sg→R V)(ss:List Sx):Prop:= ∀{ρ σ g₀ σ₀ s₀ g s Q X},At C g₀ σ₀ s₀ g σ ρ s→Goes (evalSs T K fn ss ρ σ) (OkS C g₀ σ₀ s₀ Q) (ExC C g₀ s₀ X)→wpAny (model PW G.w) C.A (execs (erSs T fn ss) C.env) Q X s
section
variable {g₀ g:Gh}{σ₀ σ:Sg}{s₀ s:Shared}{ρ:List (Option V)}{X:Value→Shared→Prop}
theorem At.st(A:At C g₀ σ₀ s₀ g σ ρ s):St T G g σ s:=A.step.st
theorem At.here(A:At C g₀ σ₀ s₀ g σ ρ s):AtE C g σ s g σ ρ s:=⟨.refl A.step.st,A.fm⟩
theorem At.exc(A:At C g₀ σ₀ s₀ g σ ρ s)(c:Nat)(σ₁:Sg)(k:ExC C g₀ s₀ X c σ₁):ExC C g s X c σ₁:=fun e s' p=>k e s' (p.transL A.step)
theorem At.ex{e:Ex}{Q:Value→Shared→Prop}(A:At C g₀ σ₀ s₀ g σ ρ s)(h:EG C K ρ e)(k:Goes (evalE T K fn ρ e σ) (OkA C g₀ σ₀ s₀ g ρ Q) (ExC C g₀ s₀ X)):wpAny (model PW G.w) C.A (eval (erE T fn e) C.env) Q X s:=
  h A.here (goes_mono k (fun _ _ k _ _ _ B le r=>k _ _ _ (A.go B.step) le r) A.exc)
theorem At.tst{e:Ex}{Q:Bool→Shared→Prop}(A:At C g₀ σ₀ s₀ g σ ρ s)(h:BG C K ρ e)(k:Goes (evalE T K fn ρ e σ) (fun x σ₁=> ∃b,x= .bool b∧ ∀g₁ s₁,At C g₀ σ₀ s₀ g₁ σ₁ ρ s₁→Q b s₁) (ExC C g₀ s₀ X)):
    wpAny (model PW G.w) C.A (isTrue (erE T fn e) C.env (eval (erE T fn e) C.env)) Q X s:=
  h A.here (goes_mono k (fun _ _ ⟨b,e,k⟩=>⟨b,e,fun _ _ B _=>k _ _ (A.go B.step)⟩) A.exc)
theorem At.exs{es:List Ex}{Q:List Value→Shared→Prop}{pos:Pos}(A:At C g₀ σ₀ s₀ g σ ρ s)(h:LG C K ρ es)(k:Goes (evalEs T K fn ρ es σ) (fun x σ₁=> ∃vs,x= .tup vs∧ ∀g₁ s₁ rs,At C g₀ σ₀ s₀ g₁ σ₁ ρ s₁→Gh.le g g₁→RepL T G.w.params g₁ vs rs→Q rs s₁) (ExC C g₀ s₀ X)):
    wpAny (model PW G.w) C.A (spliced (backTo pos (starEach (erL T fn es) C.env))) Q X s:=
  h A.here pos (goes_mono k (fun _ _ ⟨b,e,k⟩=>⟨b,e,fun _ _ _ B le r=>k _ _ _ (A.go B.step) le r⟩) A.exc)
end
noncomputable def Cx.own(C:Cx T G fn n)(i:Nat):Prop:= ∀a,C.cel i≠some (false,a)
theorem store_loc{g₀ σ₀ s₀ g σ ρ s}{i:Nat}{v:V}{r:Value}{Q:Unit→Shared→Prop}{X:Value→Shared→Prop}(x:At C g₀ σ₀ s₀ g σ ρ s)(hi:i<ρ.length)(ho:C.own i)(hv:Rep T G.w.params g v r)
    (k: ∀s',At C g₀ σ₀ s₀ g σ (ρ.set i (some v)) s'→Q () s'):wpAny (model PW G.w) C.A (storeName C.env (nmOf T fn.ns i) r) Q X s:=by
  obtain⟨m,hm,hL⟩:=x.fm.loc
  have hi':i<fn.ns.length:=by rw [←hL.1];exact hi
  cases hc:C.cel i with
  | none=>
    exact wpAny_storeName_local (C.loc i hi' hc) hm (fun h' hn hsb=>k _ (x.store hi hc hv hm hL (fun a o ne e=>(hsb.2 a ne).trans e) hn fun y=>rfl)) (by rw [C.kind];rfl)
  | some p=>
    obtain⟨o,a⟩:=p
    cases o with
    |false=>exact absurd hc (ho a)
    | true=>
      obtain⟨k1,k2⟩:=C.cll i true a hi' hc
      obtain⟨ob,v₀,h1,h2⟩:=(x.fm.cells i true a hc).2
      exact wpAny_storeName_cell C.kind k1 k2 ⟨ob,h1,h2⟩ fun h' hc' hs=>k _ (x.fill hi hc hv hc' hs)
theorem tg_rule(O:Okay T G.K)(KO:KOk T G n K)(W: ∀i,C.own i){t:Tg}{v:V}{r:Value}{ρ σ g₀ σ₀ s₀ g s}{Q:Unit→Shared→Prop}{X:Value→Shared→Prop}(x:At C g₀ σ₀ s₀ g σ ρ s)(hv:Rep T G.w.params g v r)
    (h:Goes (assignT T K fn ρ v t σ) (OkT C g₀ σ₀ s₀ g Q) (ExC C g₀ s₀ X)):wpAny (model PW G.w) C.A (assign (erT T fn t) C.env r) Q X s:=by
  cases t with
  |loc i p=>exact goes_grd h fun hi h=>assign_Name (store_loc x (dec_tt hi) (W _) hv fun s' y=>h _ rfl _ _ y (.refl _))
  | attr a y p=>
    show wpAny _ _ (assign (.Attribute (erE T fn a) (T.nm y) p) C.env r) _ _ _
    rw [arm_assign_Attribute]
    exact wpAny_bind (wpAny_holding (x.ex (soundG O KO C ρ a).1 (goes_bind h fun o _ h _ _ _ x le r=>goes_opt h fun σ₂ hs h=>
      wpAny_bind (wpAny_standAt (wpAny_bind (wpAny_holding (wpAny_mono (setAttr_rule O.tab.inj O.cls hs x.st (hv.mono le) r) (fun _ s₂ ⟨g₂,st₂⟩=>wpAny_release' (h _ rfl _ _ (x.go st₂) (le.trans st₂.le))) fun _ _ x=>x)))))))
  | sub a b p=>
    show wpAny _ _ (assign (.Subscript (erE T fn a) (erE T fn b) p) C.env r) _ _ _
    rw [arm_assign_Subscript]
    exact wpAny_bind (wpAny_holding (x.ex (soundG O KO C ρ a).1 (goes_bind h fun o _ h _ _ _ x le r=>wpAny_bind (wpAny_holding (x.ex (soundG O KO C ρ b).1 (goes_bind h fun i _ h _ _ _ x le₂ r₂=>goes_opt h fun σ₂ hs h=>
      wpAny_bind (wpAny_standAt (wpAny_bind (wpAny_holding (wpAny_mono (setSub_rule O.tab.inj hs x.st (r.mono le₂) r₂ (hv.mono (le.trans le₂))) (fun _ s₂ ⟨g₂,st₂⟩=>wpAny_release' (h _ rfl _ _ (x.go st₂) ((le.trans le₂).trans st₂.le))) fun _ _ x=>x))))))))))
end
end Mine
namespace Mine
section
variable {T:Tabs}{G:Gx}{fn:Fn}{n:Nat}{C:Cx T G fn n}{K:Nat→List V→Sg→R V}
theorem er_swaps{e:Ex}{t:Option PySem.Expr}{l:Nat}{env:Env}:isComp e=false→swapsWith (erE T fn e) t l env=pure false:=by
  cases e<;>first |exact fun _=>rfl |exact fun h=>nomatch h
theorem er_target(t:Tg)(env:Env):assignEach [erT T fn t] env= [(false,assign (erT T fn t) env)] :=by cases t<;>rfl
theorem ss_asg(O:Okay T G.K)(KO:KOk T G n K)(W: ∀i,C.own i){t e p}:SG C K (.asg t e p):=fun x h=>goes_grd h fun hc h=>by
  show wpAny _ _ (exec (.Assign [erT T fn t] (erE T fn e) p) C.env) _ _ _
  refine wpAny_Assign_stores (x.ex (soundG O KO C _ e).1 (goes_bind h fun v _ h _ _ _ x le r=>?_)) (er_swaps (not_tt hc)) (by cases t<;>rfl)
  rw [er_target]
  exact tg_rule O KO W x r (goes_mono h (fun o _ h ρ' e _ _ y _=>by subst e;exact h _ _ y) fun _ _ x=>x)
theorem ss_ex(O:Okay T G.K)(KO:KOk T G n K){e p}(hi:interactive C.env=false):SG C K (.ex e p):=fun x h=>goes_grd h fun hc h=>
  wpAny_Expr (x.ex (soundG O KO C _ e).1 (goes_bind h fun v _ h _ _ _ x le r=>goes_grd h fun hq h=>by
    cases v with
    |none=>cases r;exact h _ _ x
    |int i=>obtain⟨t,rfl⟩:=r;exact h _ _ x
    |bool b=>cases r;exact h _ _ x
    |_=>exact no_true hq)) hi (er_swaps (not_tt hc))
theorem ss_ret(O:Okay T G.K)(KO:KOk T G n K){e p}:SG C K (.ret e p):=fun x h=>
  wpAny_Return_some (x.ex (soundG O KO C _ e).1 (goes_bind h fun v _ h _ _ _ x le r=>h _ _ _ x.step r))
theorem ss_ret0{p}:SG C K (.ret0 p):=fun x h=>wpAny_Return_none (h _ _ _ x.step .none)
theorem ss_ifs(O:Okay T G.K)(KO:KOk T G n K){t b c p}(hb:SGs C K b)(hc:SGs C K c):SG C K (.ifs t b c p):=fun x h=>
  wpAny_If (x.tst (soundG O KO C _ t).2 (goes_bool h fun d _ h _ _ x=>goes_cond (P:=fun d=>if d=true then _ else _) h (hb x) (hc x)))
theorem ss_nil:SGs C K [] :=fun x h=>wpAny_execs_nil (h _ _ x)
theorem ss_cons{st:Sx}{ss:List Sx}(h:SG C K st)(hs:SGs C K ss):SGs C K (st::ss):=fun x k=>
  wpAny_execs_cons (h x (goes_bind k fun o _ k=>match o,k with
    | .next _,k=>fun _ _ x=>hs x k
    | .ret _,k=>k))
theorem exf_own{α:Type}{g s}{r:R α}(hO:C.out=false):PassesOwn (model PW G.w) C.A C.env (ExF C g s r):=by
  unfold ExF
  rw [hO]
  exact PassesOwn.leaving
theorem exc_own{g₀ s₀ c σ}{X:Value→Shared→Prop}(hO:C.out=false)(k:ExC C g₀ s₀ X c σ):ExC C g₀ s₀ (notedBy (model PW G.w) C.A C.env (cameBackBy (model PW G.w) C.A C.env X)) c σ:=fun e s' p=>
  wpAny_mono (exf_own hO e s' p) (fun _ _ p=>wpAny_mono p (fun _ _ p=>k _ _ p) k) fun _ _ p=>wpAny_mono p (fun _ _ p=>k _ _ p) k
theorem ss_whl (hO:C.out=false) (O:Okay T G.K) (KO:KOk T G n K) {t b p} (hb:SGs C K b):SG C K (.whl t b p):=fun{ρ σ g₀ σ₀ s₀ g s Q X} x h=>by
  refine wpAny_While (codeAny_whileLoop (fun k s=> ∃g σ ρ,At C g₀ σ₀ s₀ g σ ρ s∧Goes (loopW (fun ρ σ=>evalE T K fn ρ t σ) (fun ρ σ=>evalSs T K fn b ρ σ) k ρ σ) (OkS C g₀ σ₀ s₀ Q) (ExC C g₀ s₀ X)) (fun k s I=>?_) 20 ⟨g,σ,ρ,x,h⟩)
  obtain⟨g,σ,ρ,x,h⟩:=I
  cases k with
  |zero=>exact h.elim
  | succ k=>
    refine x.tst (soundG O KO C ρ t).2 (goes_mono (goes_bool h fun d _ h _ _ x=>?_) (fun _ _ y=>y) fun _ _ k=>exc_own hO k)
    cases d with
    |false=>exact wpAny_execs_nil (h _ _ x)
    |true=>exact hb x (goes_mono (goes_bind h fun o _ h=>match o,h with
        | .next _,h=>fun _ _ y=>⟨k,Nat.lt_succ_self k,_,_,_,y,h⟩
        | .ret _,h=>h) (fun _ _ y=>y) fun _ _ k=>exc_own hO k)
end
end Mine
namespace Mine
section
variable {T:Tabs}{G:Gx}{fn:Fn}{n:Nat}{C:Cx T G fn n}{K:Nat→List V→Sg→R V}
theorem At.refl{g σ ρ s}(hs:St T G g σ s)(hf:Fm C g ρ s):At C g σ s g σ ρ s:=⟨(Step.refl hs).toL hf.offp,hf⟩
structure Free1(C:Cx T G fn n)(I:Addr):Prop where
  base:G.g₀.get? I=none
  frs:I∉framesOf C.frs
  priv:I∉C.priv
  cel: ∀i o,C.cel i≠some (o,I)
theorem At.junk {g₀ σ₀ s₀ g σ ρ s} {I:Addr} {h':Heap} {t:Nat} (x:At C g₀ σ₀ s₀ g σ ρ s) (k: ∀b o,b≠I→s.heap.get? b=some o→h'.get? b=some o)
    (hF:g.F I=none) (hA:I∉g.act) (hI:Free1 C I) (h0:s₀.heap.get? I=none):At C g₀ σ₀ s₀ g σ ρ {s with heap:=h',toks:=t}:=by
  have st:=x.step.st
  have m1: ∀a,a≠I→Mine1 G g s.heap a→Mine1 G g h' a:=fun a ne ⟨p,q,r,o,e,f⟩=>⟨p,q,r,o,k a o ne e,f⟩
  have np: ∀a∈C.priv,a≠I:=fun a ha q=>hI.priv (q▸ha)
  obtain⟨m,hm,hl⟩:=x.fm.loc
  refine⟨⟨⟨⟨fun a o e=>k a o (fun q=>by rw [q,hF] at e;cases e) (st.fz a o e),fun o c m e=>?_,st.lrw,st.lown,st.nd,fun a ha=>?_,st.base,?_,st.free⟩,st.gens,st.os⟩,x.step.le,fun a o e na nL=>k a o (fun q=>by rw [q,h0] at e;cases e) (x.step.keep a o e na nL),x.step.newF,x.step.newA,fun a ha o e=>?_⟩,
    ⟨⟨?_,x.fm.off.off⟩,fun a ha=>m1 a (np a ha) (x.fm.own a ha),fun i o a e=>?_,m,hm.at' fun o e=>k _ o (np _ C.privL) e,hl.1,fun i v e=>let⟨r,h1,h2⟩:=hl.2 i v e;⟨r,h1.step fun o a ob e1 e2=>k a ob (fun z=>hI.cel i o (z▸e1)) e2,h2⟩⟩⟩
  · obtain ⟨a,h1,h2⟩:=st.cell o c m e
    exact⟨a,h1,h2.mono (.refl _) fun o' e'=>k a o' (fun q=>hA (q▸Gh.sel_mem h1)) e'⟩
  · obtain ⟨p,q,o,e⟩:=st.off a ha
    exact⟨p,q,o,k a o (fun q=>hA (q▸ha)) e⟩
  · obtain ⟨o,e⟩:=st.tabs
    obtain⟨o',e'⟩:=G.tabL
    exact⟨o,k _ o (fun q=>by rw [q,hI.base] at e';cases e') e⟩
  · obtain ⟨o',e'⟩:=x.step.live a ha o e
    exact⟨o',k _ _ (np a ha) e'⟩
  · have: ∀{l:List Env},(∀a∈l.filterMap (·.frame),a∈framesOf C.frs)→s.heap.FunFrames G.g₀ l→h'.FunFrames G.g₀ l:=by
      intro l
      induction l with
      |nil=>intro _ _;trivial
      | cons e r ih=>
        rintro sub ⟨hk,⟨L',o,hf,hn',ho,hd'⟩,hr⟩
        rw [List.filterMap_cons,hf] at sub
        exact⟨hk,⟨L',o,hf,hn',k _ _ (fun q=>hI.frs (q▸sub L' (.head _))) ho,hd'⟩,ih (fun a ha=>sub a (.tail _ ha)) hr⟩
    exact this (fun a ha=>ha) x.fm.off.frames
  · have ne:a≠I:=fun q=>hI.cel i o (q▸e)
    obtain⟨h1,ob,v,h2,h3⟩:=x.fm.cells i o a e
    exact⟨m1 a ne h1,ob,v,k _ _ ne h2,h3⟩
noncomputable def LoopP(C:Cx T G fn n)(Q:Flow→Shared→Prop)(X:Value→Shared→Prop):Result→Shared→Prop:=fun z s'=>match z with
  | .ok f=>Q f s'
  | .error e=>cameBackBy (model PW G.w) C.A C.env X e s'
noncomputable abbrev forB(T:Tabs)(K:Nat→List V→Sg→R V)(fn:Fn)(i:Nat)(b:List Sx)(v:V)(ρ:List (Option V))(σ:Sg):R Out:=R.grd (decide (i<ρ.length)) (evalSs T K fn b (ρ.set i (some v)) σ)
structure WalkOk(T:Tabs)(G:Gx)(A:Around)(g:Gh)(I:Addr)(vs:List V)(fp:List Addr)(P:Nat→Value→Prop)(Stt:Nat→Heap→Prop):Prop where
  W:Walks PW G.w A I fp [I] vs.length P Stt
  rep: ∀j v w g',Gh.le g g'→P j v→vs[j]? =some w→Rep T G.w.params g' w v
  fp: ∀a∈fp,a=I∨ ∃o,g.F a=some o
  live: ∀j h,Stt j h→ ∃o,h.get? I=some o
theorem WalkOk.frame{A:Around}{g g₁ g₂:Gh}{σ₁ σ₂:Sg}{s₁ s₂:Shared}{L:List Addr}{I:Addr}{vs:List V}{fp:List Addr}{P:Nat→Value→Prop}{Stt:Nat→Heap→Prop}{j:Nat}(x:WalkOk T G A g I vs fp P Stt)(hst:Stt j s₁.heap)(le:Gh.le g g₁)(st₁:St T G g₁ σ₁ s₁)(y:StepL T G L g₁ σ₁ s₁ g₂ σ₂ s₂)(nL:I∉L)(hA:I∉g₁.act):Stt j s₂.heap:=by
  refine x.W.frame _ _ _ hst fun b hb o ho=>?_
  rcases x.fp b hb with rfl |⟨o',ho'⟩
  · exact y.keep _ o ho hA nL
  · have h2:=st₁.fz _ _ (le.F _ _ ho')
    rw [ho] at h2;cases h2
    exact y.st.fz _ _ (y.le.F _ _ (le.F _ _ ho'))
theorem for_walk{i:Nat}{q:Pos}{b:List Sx}{vs:List V}{I:Addr}{fp:List Addr}{P:Nat→Value→Prop}{Stt:Nat→Heap→Prop}{g₀ σ₀ s₀ g₁ σ₁ ρ₁ s₁}{Q:Flow→Shared→Prop}{X:Value→Shared→Prop}(hb:SGs C K b)
    (Y:WalkOk T G C.A g₁ I vs fp P Stt) (h:Goes (loopF (forB T K fn i b) vs ρ₁ σ₁) (OkS C g₀ σ₀ s₀ Q) (ExC C g₀ s₀ X)) (x:At C g₀ σ₀ s₀ g₁ σ₁ ρ₁ s₁) (h0:s₀.heap.get? I=none) (hst:Stt 0 s₁.heap) (hF:g₁.F I=none) (hA:I∉g₁.act) (hg:Free1 C I) (hO:C.out=false) (hW: ∀i,C.own i):
    codeAny (model PW G.w) C.A (.forLoop (.Name (nmOf T fn.ns i) q) (.ref I) (erSs T fn b) [] C.env) (LoopP C Q X) s₁:=by
  refine codeAny_forLoop_any (fun k s=> ∃j g σ ρ,j+k=vs.length∧At C g₀ σ₀ s₀ g σ ρ s∧Gh.le g₁ g∧Stt j s.heap∧g.F I=none∧I∉g.act∧
      Goes (loopF (forB T K fn i b) (vs.drop j) ρ σ) (OkS C g₀ σ₀ s₀ Q) (ExC C g₀ s₀ X)) (fun k s Iv=>?_) vs.length ⟨0,g₁,σ₁,ρ₁,Nat.zero_add _,x,.refl _,hst,hF,hA,h⟩
  obtain⟨j,g,σ,ρ,hj,x,le,hst,hF,hA,h⟩:=Iv
  cases k with
  | zero=>
    have hj':j=vs.length:=hj
    subst hj'
    rw [List.drop_length] at h
    exact Y.W.done s _ _ hst fun h' tk kp=>wpAny_execs_nil (h _ _ (x.junk (fun b o ne e=>kp b o (fun m=>ne (List.mem_singleton.mp m)) e) hF hA hg h0))
  | succ k=>
    have hlt:j<vs.length:=by omega
    refine Y.W.item j s _ _ hlt hst fun v h' tk hPv hst' kp=>?_
    have x':=x.junk (t:=tk) (fun b o ne e=>kp b o (fun m=>ne (List.mem_singleton.mp m)) e) hF hA hg h0
    refine wpAny_of_eq (show letOwnedTupleGo (.Name (nmOf T fn.ns i) q) (.ref I) v=pure () from rfl) ?_
    rw [List.drop_eq_getElem_cons hlt] at h
    have k:=goes_bind h fun _ _ h=>h
    refine goes_grd k fun hi k=>?_
    obtain⟨oI,hI⟩:=Y.live _ _ hst'
    refine assign_Name (store_loc (At.refl x'.st x'.fm) (dec_tt hi) (hW _) (Y.rep j v vs[j] g le hPv (List.getElem?_eq_getElem hlt)) fun s₄ y=>hb y (goes_mono k (fun o σ₂ k=>?_) fun c σ₂ k=>exc_own hO (x'.exc c σ₂ k)))
    cases o with
    |next ρ''=>exact fun g₂ s₂ z=>⟨_,Nat.lt_succ_self _,j+1,g₂,σ₂,ρ'',by omega,⟨x'.step.trans z.step,z.fm⟩,le.trans z.step.le,Y.frame hst' le x'.st z.step hg.priv hA,z.step.newF I oI hI hF hA,z.step.newA I oI hI hA,k⟩
    |ret u=>exact fun g₂ s₂ v st r=>k _ _ _ (x'.step.trans st) r
theorem frames_old{g:Gh}{s:Shared}{l:List Env}(h:Off G l g s){a:Addr}(ha:a∈framesOf l): ∃o,s.heap.get? a=some o:=let⟨_,o,ho,_⟩:=h.frames.mem ha;⟨o,ho⟩
theorem Fm.free1 {g:Gh} {σ:Sg} {ρ:List (Option V)} {s:Shared} (x:Fm C g ρ s) (st:St T G g σ s) {I:Addr} (nI:s.heap.get? I=none):Free1 C I:=by
  refine⟨?_,fun m=>?_,fun m=>?_,fun i o e=>?_⟩
  · cases q:G.g₀.get? I with
    |none=>rfl
    | some o=>
      by_cases t:I=G.tab
      · obtain ⟨o',e'⟩:=st.tabs
        rw [←t,nI] at e';cases e'
      · have:=st.fz _ _ (st.base _ _ q t)
        rw [nI] at this;cases this
  · obtain ⟨o,ho⟩:=frames_old x.off m
    rw [nI] at ho;cases ho
  · obtain ⟨_,_,_,o,e,_⟩:=x.own I m
    rw [nI] at e;cases e
  · obtain ⟨⟨_,_,_,o,e,_⟩,_⟩:=x.cells i o I e
    rw [nI] at e;cases e
theorem At.lift{g₀ σ₀ s₀ g σ ρ s}{Q:Flow→Shared→Prop}{o:Out}{σ₁:Sg}(x:At C g₀ σ₀ s₀ g σ ρ s)(k:OkS C g₀ σ₀ s₀ Q o σ₁):OkS C g σ s Q o σ₁:=by
  cases o with
  |next ρ'=>exact fun g₁ s₁ y=>k g₁ s₁ ⟨x.step.trans y.step,y.fm⟩
  |ret u=>exact fun g₁ s₁ v st r=>k _ _ _ (x.step.trans st) r
theorem for_start{i:Nat}{q:Pos}{b:List Sx}{vs:List V}{ob:Obj}{fp:List Addr}{P:Nat→Value→Prop}{Stt:Nat→Heap→Prop}{g₀ σ₀ s₀ g σ ρ s}{Q:Flow→Shared→Prop}{X:Value→Shared→Prop}(hb:SGs C K b)(x:At C g₀ σ₀ s₀ g σ ρ s)
    (h:Goes (loopF (forB T K fn i b) vs ρ σ) (OkS C g₀ σ₀ s₀ Q) (ExC C g₀ s₀ X)) (hO:C.out=false) (hW: ∀i,C.own i) (Y:WalkOk T G C.A g s.heap.objs.size vs fp P Stt) (hst:Stt 0 (s.heap.push ob)):
    codeAny (model PW G.w) C.A (.forLoop (.Name (nmOf T fn.ns i) q) (.ref s.heap.objs.size) (erSs T fn b) [] C.env) (LoopP C Q X) {s with heap:=s.heap.push ob}:=
  for_walk hb Y (goes_mono h (fun _ _ k=>x.lift k) x.exc) ((At.refl x.st x.fm).go (Step.grow (s':={s with heap:=s.heap.push ob}) x.st (fun _ _ e=>Heap.get?_push_of_some _ e) rfl rfl)) (none_size s.heap) hst (x.st.newF (Nat.le_refl _)) (x.st.newA (Nat.le_refl _)) (x.fm.free1 x.st (none_size s.heap)) hO hW
section
variable {A:Around}{g:Gh}{σ:Sg}{s:Shared}{vs:List V}{a:Addr}{rs:List Value}{m:Nat}
theorem rep_at{g g':Gh}(hr:RepL T G.w.params g vs rs)(j:Nat)(v:Value)(w:V)(le:Gh.le g g')(hp:rs.toArray[j]? =some v)(hw:vs[j]? =some w):Rep T G.w.params g' w v:=by
  obtain⟨r,e1,e2⟩:=(hr.mono le).at hw
  rw [List.getElem?_toArray,e1] at hp;cases hp;exact e2
theorem walk_tuple(hh:A.handled=none)(hs:St T G g σ s)(hF:g.F a=some {cls:= .type "tuple",data:= .seq rs.toArray m})(hr:RepL T G.w.params g vs rs): ∃fp P Stt,WalkOk T G A g s.heap.objs.size vs fp P Stt∧Stt 0 (s.heap.push {cls:= .type "tuple_iterator",data:= .fields #[.ref a,.int 0 0]}):=by
  have ho:=hs.fz _ _ hF
  have ht:s.heap.IsTuple a rs.toArray:=⟨_,ho,rfl,m,rfl⟩
  have W:=Walks.tuple (prog:=PW) (w:=G.w) hh s.heap.objs.size a (Nat.ne_of_lt (Heap.lt_size ho)) rs.toArray
  rw [show rs.toArray.size=vs.length from hr.length] at W
  exact⟨_,_,_,⟨W,fun j v w g le hp hw=>rep_at hr j v w le hp hw,fun b hb=>(List.mem_cons.mp hb).elim .inl fun hb=> .inr ⟨_,List.mem_singleton.mp hb▸hF⟩,fun j h ⟨h1,_⟩=>⟨_,h1.choose_spec.1⟩⟩,⟨_,Heap.get?_push_size _ rfl,rfl,rfl⟩,ht.at fun o e=>Heap.get?_push_of_some _ e⟩
theorem walk_list(hh:A.handled=none)(hs:St T G g σ s)(hF:g.F a=some {cls:= .type "list",data:= .seq rs.toArray m})(hr:RepL T G.w.params g vs rs): ∃fp P Stt,WalkOk T G A g s.heap.objs.size vs fp P Stt∧Stt 0 (s.heap.push (itObj a)):=by
  have ho:=hs.fz _ _ hF
  have ht:s.heap.IsList a rs.toArray:=⟨_,ho,rfl,m,rfl⟩
  have W:=Walks.list (prog:=PW) (w:=G.w) hh s.heap.objs.size a (Nat.ne_of_lt (Heap.lt_size ho)) rs.toArray
  rw [show rs.toArray.size=vs.length from hr.length] at W
  exact⟨_,_,_,⟨W,fun j v w g le hp hw=>rep_at hr j v w le hp hw,fun b hb=>(List.mem_cons.mp hb).elim .inl fun hb=> .inr ⟨_,List.mem_singleton.mp hb▸hF⟩,fun j h ⟨h1,_⟩=>⟨_,h1.choose_spec.1⟩⟩,it_st ht⟩
theorem fits_long{z:Int}(h1:0≤z)(h2:z≤1000):Builtin.Range.rangeFitsLong z=true:=by
  unfold Builtin.Range.rangeFitsLong
  simp
  omega
theorem range_size{k:Int}(h:0≤k):Builtin.Range.rangeSize 0 k 1=(k.toNat:Int):=by rw [rangeSize_one];split<;>omega
theorem range_small{k:Int}(h1:0≤k)(h2:k≤1000):Builtin.Range.small 0 k 1=true:=by
  unfold Builtin.Range.small
  simp only [range_size h1]
  rw [fits_long (z:=0) (by decide) (by decide),fits_long h1 h2,fits_long (z:=1) (by decide) (by decide),fits_long (z:=k.toNat) (by omega) (by omega),if_pos (show(1:Int)>0 by decide),show k+((1:Int)-1)=k by omega,fits_long h1 h2]
  simp
theorem walk_range{k:Int}(hh:A.handled=none): ∃fp P Stt,WalkOk T G A g s.heap.objs.size ((List.range k.toNat).map fun(i:Nat)=>V.int i) fp P Stt∧Stt 0 (s.heap.push {cls:= .type "range_iterator",data:= .fields #[rawInt 0,rawInt (k.toNat:Int),rawInt 1]}):=by
  have W:=(Walks.range (prog:=PW) (w:=G.w) hh s.heap.objs.size 0 1 k.toNat).bound
  have hlen:((List.range k.toNat).map fun(i:Nat)=>V.int i).length=k.toNat:=by rw [List.length_map,List.length_range]
  rw [←hlen] at W
  refine⟨_,_,_,⟨W,fun j v w g le hp hw=>?_,fun b hb=> .inl (List.mem_singleton.mp hb),fun j h h1=>⟨_,h1⟩⟩,?_⟩
  · obtain ⟨hj,t,rfl⟩:=hp
    rw [hlen] at hj
    rw [List.getElem?_map,List.getElem?_range hj] at hw
    obtain rfl:=Option.some.inj hw
    rw [show(0+(j:Int)*1)=j by omega];exact .int _ _
  · rw [hlen]
    have:=Heap.get?_push_size s.heap (o:={cls:= .type "range_iterator",data:= .fields #[rawInt 0,rawInt (k.toNat:Int),rawInt 1]}) rfl
    show IsRangeIter _ _ _ _ _
    simpa using this
end
theorem ss_for (hO:C.out=false) (hW: ∀i,C.own i) (O:Okay T G.K) (KO:KOk T G n K) {i q e b p} (hb:SGs C K b):SG C K (.for i q e b p):=fun x h=>
  wpAny_For (x.ex (soundG O KO C _ e).1 (goes_bind h fun v _ h _ s₁ _ x le r=>goes_opt h fun vs hv h=>by
    cases v with
    | tup ws=>
      obtain rfl:=Option.some.inj hv
      obtain⟨a,rs,m,rfl,hF,hr⟩:=r
      obtain⟨_,_,_,Y,st⟩:=walk_tuple C.handled x.st hF hr
      exact wpAny_pyIter_tuple ⟨_,x.st.fz _ _ hF,rfl,m,rfl⟩ (for_start hb x h hO hW Y st)
    | lst ws=>
      obtain rfl:=Option.some.inj hv
      obtain⟨a,rs,m,rfl,hF,hr⟩:=r
      obtain⟨_,_,_,Y,st⟩:=walk_list C.handled x.st hF hr
      exact wpAny_pyIter_list ⟨_,x.st.fz _ _ hF,rfl,m,rfl⟩ (for_start hb x h hO hW Y st)
    | rng k=>
      exact og_some hv fun hk hv=>and_tt hk fun h1 h2=>by
        subst hv
        obtain⟨a,t,u,v,rfl,hF⟩:=r
        obtain⟨_,_,_,Y,st⟩:=walk_range (s:=s₁) C.handled (k:=k)
        refine wpAny_pyIter_range (a:=0) (b:=k) (c:=1) (x.st.fz _ _ hF) (range_small (dec_tt h1) (dec_tt h2)) ?_
        rw [range_size (dec_tt h1)]
        exact for_start hb x h hO hW Y st
    |_=>exact no_some hv)) (by intro z;cases e<;>rfl)
end
end Mine
namespace Mine
section
variable {T:Tabs}{G:Gx}{fn:Fn}{n:Nat}{C:Cx T G fn n}{K:Nat→List V→Sg→R V}
theorem er_each(env:Env): ∀ts:List Tg,assignEach (ts.map (erT T fn)) env=ts.map fun t=>(false,assign (erT T fn t) env)
  | [] =>rfl
  | t::ts=>by
    have ih:=er_each env ts
    show assignEach (erT T fn t::ts.map (erT T fn)) env=_
    rw [List.map_cons,←ih]
    cases t<;>rfl
theorem okt_le{g₀ σ₀ s₀ g g' o σ₁}{Q:Unit→Shared→Prop}(le:Gh.le g g')(h:OkT C g₀ σ₀ s₀ g Q o σ₁):OkT C g₀ σ₀ s₀ g' Q o σ₁:=fun ρ' e _ _ y l=>h ρ' e _ _ y (le.trans l)
theorem tgs_rule(O:Okay T G.K)(KO:KOk T G n K)(W: ∀i,C.own i)(ts:List Tg): ∀{vs:List V} {rs:List Value} {ρ σ g₀ σ₀ s₀ g s} {Q:Unit→Shared→Prop} {X:Value→Shared→Prop},At C g₀ σ₀ s₀ g σ ρ s→RepL T G.w.params g vs rs→
    Goes (assignTs T K fn ts vs ρ σ) (OkT C g₀ σ₀ s₀ g Q) (ExC C g₀ s₀ X)→wpAny (model PW G.w) C.A (assignInOrder (ts.map fun t=>assign (erT T fn t) C.env) rs) Q X s:=by
  induction ts with
  | nil=>
    intro vs rs ρ σ g₀ σ₀ s₀ g s Q X x hr h
    exact goes_grd h fun he h=>by
      cases List.isEmpty_iff.mp he
      cases hr
      exact wpAny_pure (h _ rfl _ _ x (.refl _))
  | cons t ts ih=>
    intro vs rs ρ σ g₀ σ₀ s₀ g s Q X x hr h
    cases vs with
    |nil=>exact h.elim
    | cons v vs=>
      obtain⟨r,rs,rfl,h1,h2⟩:=hr
      show wpAny _ _ (do holding rs (assign (erT T fn t) C.env r);assignInOrder (ts.map fun t=>assign (erT T fn t) C.env) rs) _ _ _
      exact wpAny_bind (wpAny_holding (tg_rule O KO W x h1 (goes_bind h fun o _ h ρ' e g₁ s₁ y le=>by subst e;exact ih y (h2.mono le) (goes_mono h (fun _ _=>okt_le le) fun _ _ x=>x))))
set_option backward.match.sparseCases true in
noncomputable def nameAt(env:Env)(line:Nat):PySem.Expr→Option Str:=fun
  | .Name id pos=>if(env.kindOf id==some .local&&pos.line==line)=true then some id else none
  |_=>none
theorem fm_name{env:Env}{line:Nat}{id:Str}{pos:Pos}{l:List PySem.Expr}(h:env.kindOf id=some .local)(hl:pos.line=line):(PySem.Expr.Name id pos::l).filterMap (nameAt env line)=id::l.filterMap (nameAt env line):=by
  refine List.filterMap_cons_some ?_
  show(if(env.kindOf id==some .local&&pos.line==line)=true then some id else none)=_
  rw [h,hl,beq_self_eq_true,beq_self_eq_true]
  rfl
theorem fm_le(env:Env)(line:Nat)(ts:List Tg):((ts.map (erT T fn)).filterMap (nameAt env line)).length≤ts.length:=
  Nat.le_trans (List.length_filterMap_le _ _) (Nat.le_of_eq (List.length_map _))
theorem fm_none{env:Env}{line:Nat}{e:PySem.Expr}{l:List PySem.Expr}(h:nameAt env line e=none):(e::l).filterMap (nameAt env line)=l.filterMap (nameAt env line):=by rw [List.filterMap_cons,h]
theorem cel_name(C:Cx T G fn n){i:Nat}{p:Pos}{line:Nat}(hi:i<fn.ns.length)(h:fn.cl.contains i=true):nameAt C.env line (erT T fn (.loc i p))=none:=by
  have hs:=C.clIn i hi
  rw [h] at hs
  obtain⟨⟨o,a⟩,hq⟩:=Option.isSome_iff_exists.mp hs.symm
  have hk:=(C.cll i o a hi hq).1
  show(if(C.env.kindOf (nmOf T fn.ns i)==some .local&&p.line==line)=true then some (nmOf T fn.ns i) else none)=none
  rw [hk]
  cases o<;>rfl
theorem sw_len (C:Cx T G fn n) (line:Nat): ∀ts:List Tg,ts.all (isLocT fn.cl)=false→(∀i p,Tg.loc i p∈ts→i<fn.ns.length)→((ts.map (erT T fn)).filterMap (nameAt C.env line)).length<ts.length
  | [],h,_=>nomatch h
  | t ::ts,h,hlen=>by
    rw [List.map_cons]
    cases q:isLocT fn.cl t with
    | true=>
      rw [List.all_cons,q,Bool.true_and] at h
      have ih:=sw_len C line ts h fun i p m=>hlen i p (.tail _ m)
      refine Nat.lt_of_le_of_lt ?_ (Nat.succ_lt_succ ih)
      rw [List.filterMap_cons]
      split
      · exact Nat.le_succ _
      · exact Nat.le_refl _
    | false=>
      refine Nat.lt_succ_of_le ?_
      rw [fm_none (by
        cases t with
        | loc i p=>
          refine cel_name C (hlen i p (.head _)) ?_
          change (!(fn.cl.contains i))=false at q
          cases z:fn.cl.contains i with
          |true=>rfl
          |false=>rw [z] at q;cases q
        |attr a x p=>rfl
        |sub a b p=>rfl)]
      exact fm_le _ _ ts
theorem sw_none{ts:List Tg}{vs:List PySem.Expr}{k k':Nat}{q p:Pos}(C:Cx T G fn n)(h:ts.all (isLocT fn.cl)=false)(hl: ∀i p,Tg.loc i p∈ts→i<fn.ns.length):swappedStores [.Tuple (ts.map (erT T fn)) k q] (.Tuple vs k' p) C.env=pure none:=by
  unfold swappedStores
  simp only
  split
  · rfl
  · split
    · rfl
    · rw [if_pos]
      rw [Bool.or_eq_true,bne_iff_ne]
      left
      rw [List.length_map]
      exact Nat.ne_of_lt (sw_len C ((((ts.map (erT T fn)).head?.map fun x:PySem.Expr=>x.pos.line).getD 0)) ts h hl)
theorem isTup_not{e:Ex}{ts:List Tg}(C:Cx T G fn n){k:Nat}{q:Pos}(h:(!isTup e|| !ts.all (isLocT fn.cl))=true)(hin:ts.all (locIn fn.ns.length)=true):swappedStores [.Tuple (ts.map (erT T fn)) k q] (erE T fn e) C.env=pure none:=by
  cases e with
  |tup es k' p'=>exact sw_none C (not_tt h) fun i p m=>dec_tt (List.all_eq_true.mp hin _ m)
  |_=>rfl
theorem ss_asgT(O:Okay T G.K)(KO:KOk T G n K)(W: ∀i,C.own i){ts k q e p}:SG C K (.asgT ts k q e p):=fun x h=>goes_grd h fun hc h=>and_tt hc fun hc h3=>and_tt hc fun h1 h2=>
  Assign_Tuple (x.ex (soundG O KO C _ e).1 (goes_bind h fun v _ h _ s₁ _ x le r=>goes_opt h fun vs hvs h=>goes_grd h fun hl h=>by
    obtain⟨a,rs,m,rfl,ho,hr⟩:=x.st.tuple (asTup_eq hvs▸r)
    refine wpAny_assign_Tuple (items:=rs.toArray) C.handled ⟨_,ho,rfl,m,rfl⟩ (by rw [er_each,List.length_map,List.size_toArray,hr.length];exact dec_tt hl) (by rw [er_each,List.findIdx?_eq_none_iff];intro y hy;obtain⟨t,_,rfl⟩:=List.mem_map.mp hy;rfl) fun h' hx=>?_
    rw [er_each,List.map_map]
    have gr:=Step.grow (s':={s₁ with heap:=h'}) x.st (fun b o e=>hx b o (Nat.ne_of_lt (Heap.lt_size e)) e) rfl rfl
    exact tgs_rule O KO W ts (x.go gr) (hr.mono gr.le) (goes_mono h (fun o _ h ρ' e _ _ y _=>by subst e;exact h _ _ y) fun _ _ x=>x))) (by show swapsWith (erE T fn e) (some (.Tuple (ts.map (erT T fn)) k q)) p.line C.env=pure false;exact er_swaps (not_tt h1)) (isTup_not C h2 h3)
theorem nonC1_no{e:Ex}(C:Cx T G fn n)(k:Nat):nonC1 e=true→foldedForSure (k+1) (erE T fn e)=false∧constantsAlone (k+1) (erE T fn e)=false:=by
  cases e<;>first |exact no_true |exact fun _=>⟨rfl,rfl⟩ |exact fun _=>⟨rfl,C.nodbg _⟩
theorem nonC_no{e:Ex}(C:Cx T G fn n)(h:nonC e=true):foldedForSure 8 (erE T fn e)=false∧constantsAlone 8 (erE T fn e)=false:=by
  have one: ∀{e:Ex},nonC1 e=true→foldedForSure 8 (erE T fn e)=false∧constantsAlone 8 (erE T fn e)=false:=fun h=>nonC1_no C 7 h
  cases e with
  |bin op a b p=>exact⟨rfl,by show(constantsAlone 7 (erE T fn a)&&_)=false;rw [(nonC1_no C 6 h).2];rfl⟩
  |sub a b p=>exact⟨rfl,by show(constantsAlone 7 (erE T fn a)&&_)=false;rw [(nonC1_no C 6 h).2];rfl⟩
  |_=>exact one h
theorem Cx.locOf(C:Cx T G fn n){i:Nat}(hi:i<fn.ns.length)(h:fn.cl.contains i=false):C.cel i=none:=by
  have:=C.clIn i hi
  rw [h] at this
  cases q:C.cel i with
  |none=>rfl
  |some p=>rw [q] at this;cases this
set_option backward.match.sparseCases true in
theorem er_plain1(e:Ex):(match erE T fn e with | .Starred .. =>true |_=>false)=false:=by cases e<;>rfl
set_option backward.match.sparseCases true in
theorem sw_gen{ts vs:List PySem.Expr}{env:Env}{k k':Nat}{q p:Pos}{names:List Str}(h1:(ts.length==2||ts.length==3)=true)(h2:vs.length=ts.length)(h3:env.blockKind= .function)
    (h4:(vs.any fun | .Starred .. =>true |_=>false)=false) (h5:ts.filterMap (nameAt env ((ts.head?.map (·.pos.line)).getD 0))=names) (h6:names.length=ts.length) (h7:names.eraseDups=names)
    (h8:vs.all (foldedForSure 8)=false) (h9:vs.all (constantsAlone 8)=false):swappedStores [.Tuple ts k q] (.Tuple vs k' p) env=pure (some names):=by
  unfold swappedStores
  simp only
  refine(if_neg (by rw [h1,h2,h3,bne_self_eq_false];decide)).trans ((if_neg (fun q=>Bool.false_ne_true (h4.symm.trans q))).trans ?_)
  generalize hN:List.filterMap _ ts=N
  have e:N=names:=hN.symm.trans h5
  subst e
  rw [if_neg (by rw [h6,h7,h6,bne_self_eq_false];decide),if_neg (by rw [h8];decide),if_neg (by rw [h9];decide)]
theorem not_two{a b:Str}(h:a≠b): [a,b].eraseDups= [a,b] :=by
  rw [List.eraseDups_cons,List.filter_cons,beq_eq_false_iff_ne.mpr h.symm]
  rfl
theorem not_three{a b c:Str}(h1:a≠b)(h2:a≠c)(h3:b≠c): [a,b,c].eraseDups= [a,b,c] :=by
  rw [List.eraseDups_cons,List.filter_cons,List.filter_cons,beq_eq_false_iff_ne.mpr h1.symm,beq_eq_false_iff_ne.mpr h2.symm]
  exact congrArg (a:: ·) (not_two h3)
theorem Cx.nameNe(C:Cx T G fn n){i j:Nat}(hi:i<fn.ns.length)(hj:j<fn.ns.length)(h:i≠j):nmOf T fn.ns i≠nmOf T fn.ns j:=fun q=>h (C.inj i j hi hj q)
theorem Cx.inFn(C:Cx T G fn n):C.env.blockKind= .function:=by unfold Env.blockKind;rw [C.kind];rfl
set_option backward.match.sparseCases true in
theorem sw_two{i j:Nat}{qi qj q pe:Pos}{k ke:Nat}{a b:Ex}(C:Cx T G fn n)(hi:i<fn.ns.length)(hj:j<fn.ns.length)(ci:fn.cl.contains i=false)(cj:fn.cl.contains j=false)(hij:i≠j)(ha:nonC a=true):
    swappedStores [.Tuple [.Name (nmOf T fn.ns i) qi,.Name (nmOf T fn.ns j) ⟨qi.line,qj.col,qj.endLine,qj.endCol⟩] k q] (.Tuple [erE T fn a,erE T fn b] ke pe) C.env=pure (some [nmOf T fn.ns i,nmOf T fn.ns j]):=
  sw_gen rfl rfl C.inFn (by rw [List.any_cons,List.any_cons,er_plain1,er_plain1];rfl) ((fm_name (C.loc i hi (C.locOf hi ci)) rfl).trans (congrArg _ (fm_name (C.loc j hj (C.locOf hj cj)) rfl))) rfl (not_two (C.nameNe hi hj hij))
    (by rw [List.all_cons,(nonC_no C ha).1];rfl) (by rw [List.all_cons,(nonC_no C ha).2];rfl)
set_option backward.match.sparseCases true in
theorem sw_three{i j l:Nat}{qi qj ql q pe:Pos}{k ke:Nat}{a b c:Ex}(C:Cx T G fn n)(hi:i<fn.ns.length)(hj:j<fn.ns.length)(hl:l<fn.ns.length)(ci:fn.cl.contains i=false)(cj:fn.cl.contains j=false)(cl:fn.cl.contains l=false)
    (hij:i≠j) (hil:i≠l) (hjl:j≠l) (ha:nonC a=true):
    swappedStores [.Tuple [.Name (nmOf T fn.ns i) qi,.Name (nmOf T fn.ns j) ⟨qi.line,qj.col,qj.endLine,qj.endCol⟩,.Name (nmOf T fn.ns l) ⟨qi.line,ql.col,ql.endLine,ql.endCol⟩] k q] (.Tuple [erE T fn a,erE T fn b,erE T fn c] ke pe) C.env=
      pure (some [nmOf T fn.ns i,nmOf T fn.ns j,nmOf T fn.ns l]):=
  sw_gen rfl rfl C.inFn (by rw [List.any_cons,List.any_cons,List.any_cons,er_plain1,er_plain1,er_plain1];rfl)
    ((fm_name (C.loc i hi (C.locOf hi ci)) rfl).trans (congrArg _ ((fm_name (C.loc j hj (C.locOf hj cj)) rfl).trans (congrArg _ (fm_name (C.loc l hl (C.locOf hl cl)) rfl))))) rfl (not_three (C.nameNe hi hj hij) (C.nameNe hi hl hil) (C.nameNe hj hl hjl))
    (by rw [List.all_cons,(nonC_no C ha).1];rfl) (by rw [List.all_cons,(nonC_no C ha).2];rfl)
theorem bind_rule{g₀ σ₀ s₀ g σ ρ s}{i:Nat}{v:V}{r:Value}{vs:List Value}{α:Type}{t:Unit→Sem α}{Q:α→Shared→Prop}{X:Value→Shared→Prop}(W: ∀i,C.own i)(x:At C g₀ σ₀ s₀ g σ ρ s)(hi:i<ρ.length)(hv:Rep T G.w.params g v r)
    (k: ∀s',At C g₀ σ₀ s₀ g σ (ρ.set i (some v)) s'→wpAny (model PW G.w) C.A (t ()) Q X s'):wpAny (model PW G.w) C.A (holding vs (bindName C.env (nmOf T fn.ns i) r)>>=t) Q X s:=
  wpAny_bind (wpAny_holding (wpAny_bindName (store_loc x hi (W _) hv k)))
theorem in_names{g₀ σ₀ s₀ g σ ρ s}(x:At C g₀ σ₀ s₀ g σ ρ s){i:Nat}(h:i<ρ.length):i<fn.ns.length:=by obtain⟨_,_,h2⟩:=x.fm.loc;rwa [←h2.1]
theorem swap_rule{g₀ σ₀ s₀ g σ ρ s}{es:List Ex}{names:List Str}{ke:Nat}{pe:Pos}{Q:List Value→Shared→Prop}{X:Value→Shared→Prop}(x:At C g₀ σ₀ s₀ g σ ρ s)(h:LG C K ρ es)
    (k:Goes (evalEs T K fn ρ es σ) (fun y σ₁=> ∃vs,y= .tup vs∧vs.length=names.length∧vs.length≤3∧ ∀g₁ s₁ rs,At C g₀ σ₀ s₀ g₁ σ₁ ρ s₁→RepL T G.w.params g₁ vs rs→Q rs s₁) (ExC C g₀ s₀ X)):
    wpAny (model PW G.w) C.A (eval (.Tuple (erL T fn es) ke pe) C.env) (fun v s₁=>wpAny (model PW G.w) C.A (unpackItems v names.length none) Q X s₁) X s:=
  wpAny_Tuple (x.exs h (goes_mono k (fun _ _ ⟨vs,e,hl,hl3,k⟩=>⟨vs,e,fun g₁ s₁ rs x _ hr=>by
    refine⟨by rw [hr.length,sizeLine_eq];exact Nat.le_trans hl3 (by decide),?_⟩
    have sp:=Step.push (t:=s₁.toks) x.st (o:={cls:= .type "tuple",data:= .seq rs.toArray}) rfl
    rw [←hl,←hr.length]
    refine wpAny_unpackItems_tuple (items:=rs.toArray) C.handled ⟨_,Heap.get?_push_size _ rfl,rfl,0,rfl⟩ fun h' hx=>?_
    have gr:=Step.grow (s':={s₁ with heap:=h'}) sp.st (fun b o e=>hx b o (Nat.ne_of_lt (Heap.lt_size e)) e) rfl rfl
    exact k _ _ rs ((x.go sp).go gr) (hr.mono (sp.le.trans gr.le))⟩) fun _ _ x=>x))
theorem one_goes{ra:R V}{F:V→Sg→R Out}{f:V→Sg→R V}{ok:Out→Sg→Prop}{ex:Nat→Sg→Prop}{P:V→Sg→Prop}(h:Goes (ra.bind F) ok ex)(k: ∀v σ,Goes (F v σ) ok ex→Goes (f v σ) P ex):Goes (ra.bind f) P ex:=
  match ra,h with | .ok v σ,h=>k v σ h | .exc _ _,h=>h | .stuck,h=>h
theorem pre_goes{ra:R V}{F:V→Sg→R Out}{f:V→Sg→R V}{g:V→Sg→R V}{ok:Out→Sg→Prop}{ex:Nat→Sg→Prop}{P:V→Sg→Prop}(h:Goes (ra.bind F) ok ex)(k: ∀v σ,Goes (F v σ) ok ex→Goes ((f v σ).bind g) P ex):Goes ((ra.bind f).bind g) P ex:=
  match ra,h with | .ok v σ,h=>k v σ h | .exc _ _,h=>h | .stuck,h=>h
theorem pre2_goes{ra:R V}{F:V→Sg→R Out}{f:V→Sg→R V}{g g':V→Sg→R V}{ok:Out→Sg→Prop}{ex:Nat→Sg→Prop}{P:V→Sg→Prop}(h:Goes (ra.bind F) ok ex)(k: ∀v σ,Goes (F v σ) ok ex→Goes (((f v σ).bind g).bind g') P ex):Goes (((ra.bind f).bind g).bind g') P ex:=
  match ra,h with | .ok v σ,h=>k v σ h | .exc _ _,h=>h | .stuck,h=>h
section
variable {a b c:Ex}{ρ:List (Option V)}{σ:Sg}{ok:Out→Sg→Prop}{ex:Nat→Sg→Prop}{P:V→Sg→Prop}
theorem two_goes{F:V→V→Sg→R Out}(h:Goes ((evalE T K fn ρ a σ).bind fun v σ=>(evalE T K fn ρ b σ).bind fun w σ=>F v w σ) ok ex)(k: ∀v w σ,Goes (F v w σ) ok ex→P (.tup [v,w]) σ):Goes (evalEs T K fn ρ [a,b] σ) P ex:=
  one_goes h fun _ _ h=>pre_goes h fun _ _ h=>k _ _ _ h
theorem three_goes{F:V→V→V→Sg→R Out}(h:Goes ((evalE T K fn ρ a σ).bind fun u σ=>(evalE T K fn ρ b σ).bind fun v σ=>(evalE T K fn ρ c σ).bind fun w σ=>F u v w σ) ok ex)(k: ∀u v w σ,Goes (F u v w σ) ok ex→P (.tup [u,v,w]) σ):Goes (evalEs T K fn ρ [a,b,c] σ) P ex:=
  one_goes h fun _ _ h=>pre_goes h fun _ _ h=>pre2_goes h fun _ _ h=>k _ _ _ _ h
end
theorem ss_asgW(O:Okay T G.K)(KO:KOk T G n K)(W: ∀i,C.own i){i j qi qj k q a b ke pe p}:SG C K (.asgW i j qi qj k q a b ke pe p):=fun{ρ _ _ _ _ _ _ _ _} x h=>goes_grd h fun hc h=>and_tt hc fun hc h6=>and_tt hc fun hc h5=>and_tt hc fun hc h4=>and_tt hc fun hc h3=>and_tt hc fun h1 h2=>by
  have hi:=dec_tt h2
  have hj:=dec_tt h3
  exact Assign_Tuple_swapped (names:= [nmOf T fn.ns i,nmOf T fn.ns j]) (swap_rule (es:= [a,b]) x (lw_cons (soundG O KO C ρ a).1 (lw_cons (soundG O KO C ρ b).1 lw_nil)) (two_goes h fun v w σ₁ h=>⟨[v,w],rfl,rfl,Nat.le_of_ble_eq_true rfl,fun g₁ s₁ rs x hr=>by
    obtain⟨r1,r2,rfl,h1,h2⟩:=repL_two hr
    exact bind_rule W x hj h2 fun s' x=>bind_rule W x (by rw [List.length_set];exact hi) h1 fun s' x=>wpAny_pure (h _ _ x)⟩)) rfl (sw_two C (in_names x hi) (in_names x hj) (not_tt h5) (not_tt h6) (ne_tt h1) h4)
theorem repL_three{P:Params}{g:Gh}{v w u:V}{rs:List Value}(h:RepL T P g [v,w,u] rs): ∃a b c,rs= [a,b,c] ∧Rep T P g v a∧Rep T P g w b∧Rep T P g u c:=by
  obtain⟨a,rs,rfl,h1,h⟩:=h
  obtain⟨b,c,rfl,h2,h3⟩:=repL_two h
  exact⟨a,b,c,rfl,h1,h2,h3⟩
theorem ss_asgW3(O:Okay T G.K)(KO:KOk T G n K)(W: ∀i,C.own i){i j l qi qj ql k q a b c ke pe p}:SG C K (.asgW3 i j l qi qj ql k q a b c ke pe p):=fun{ρ _ _ _ _ _ _ _ _} x h=>goes_grd h fun hc h=>and_tt hc fun hc h10=>and_tt hc fun hc h9=>and_tt hc fun hc h8=>and_tt hc fun hc h7=>and_tt hc fun hc h6=>and_tt hc fun hc h5=>and_tt hc fun hc h4=>and_tt hc fun hc h3=>and_tt hc fun h1 h2=>by
  have hi:=dec_tt h4
  have hj:=dec_tt h5
  have hl:=dec_tt h6
  exact Assign_Tuple_swapped (names:= [nmOf T fn.ns i,nmOf T fn.ns j,nmOf T fn.ns l]) (swap_rule (es:= [a,b,c]) x (lw_cons (soundG O KO C ρ a).1 (lw_cons (soundG O KO C ρ b).1 (lw_cons (soundG O KO C ρ c).1 lw_nil))) (three_goes h fun u v w σ₁ h=>⟨[u,v,w],rfl,rfl,Nat.le_of_ble_eq_true rfl,fun g₁ s₁ rs x hr=>by
    obtain⟨r1,r2,r3,rfl,h1,h2,h3⟩:=repL_three hr
    exact bind_rule W x hl h3 fun s' x=>bind_rule W x (by rw [List.length_set];exact hj) h2 fun s' x=>bind_rule W x (by rw [List.length_set,List.length_set];exact hi) h1 fun s' x=>wpAny_pure (h _ _ x)⟩)) rfl
    (sw_three C (in_names x hi) (in_names x hj) (in_names x hl) (not_tt h8) (not_tt h9) (not_tt h10) (ne_tt h1) (ne_tt h2) (ne_tt h3) h7)
end
end Mine
namespace Mine
section
variable {T:Tabs}{G:Gx}{fn:Fn}{n:Nat}{C:Cx T G fn n}{K:Nat→List V→Sg→R V}
noncomputable def fullS:Value→Bool
  | .str x _=>x.cps.toList !=("":Str).cps.toList
  |_=>true
theorem fullS_str(x:Str)(t:Tok):fullS (.str x t)=(x.cps.toList !=("":Str).cps.toList):=rfl
theorem str_list_ne{a b:Str}:(a.cps.toList !=b.cps.toList)=(a !=b):=by
  unfold bne;rw [str_list]
theorem fullL (O:TabOk T) {P:Params} {g:Gh}: ∀{vs:List V} {rs:List Value} {xs:List Nat},RepL T P g vs rs→strsOf vs=some xs→
    RepL T P g ((xs.filter (· !=T.empty)).map .str) (rs.filter fullS)∧ ∀(i:Nat) (v:Value),rs[i]? =some v→ ∃x t,v= .str x t
  | [],_,xs,h,e=>by cases h;cases e;exact⟨.nil,fun i v e=>nomatch e⟩
  | v ::vs,_,xs,h,e=>by
    obtain⟨r,rs,rfl,h1,h2⟩:=h
    obtain⟨x,xs',rfl,rfl,e'⟩:=strsOf_cons e
    obtain⟨t,rfl⟩:=h1
    obtain⟨i1,i2⟩:=fullL O h2 e'
    refine⟨?_,fun i v=>?_⟩
    · have key:fullS (.str (T.nm x) t)=(x !=T.empty):=by
        rw [fullS_str,str_list_ne,←O.empty]
        unfold bne
        rw [nm_beq O.inj]
      rw [List.filter_cons,List.filter_cons,key]
      by_cases q:(x !=T.empty)=true
      · rw [if_pos q,if_pos q];exact .cons (.str _ _) i1
      · rw [if_neg q,if_neg q];exact i1
    · cases i with
      |zero=>exact fun hv=>⟨_,_,(Option.some.inj hv).symm⟩
      |succ i=>exact i2 i v
theorem hide_get{h:Heap}{a b:Addr}{o o':Obj}(e:h.get? a=some o)(hf:o'.isFreed=false):(h.update a fun _=>o').get? a=some o'∧(b≠a→(h.update a fun _=>o').get? b=h.get? b):=
  ⟨Heap.get?_update_self _ e hf,fun hb=>Heap.get?_update_other _ _ hb.symm⟩
noncomputable def fullScope(T:Tabs)(x:Nat):Scope:={kind:= .function,names:= [(Str.ofString ".0",.local),(T.nm x,.local)],isGenerator:=false,isCoroutine:=false,more:= []}
theorem full_scope(O:TabOk T)(x:Nat):(∀y∈(fullScope T x).names,y.2≠ .free)∧(∀y∈(fullScope T x).names,y.2≠ .cell)∧ ∀y∈(fullScope T x).names,y.2= .local→(fullScope T x).names.lookup y.1=some .local:=
  ⟨by simp [fullScope],by simp [fullScope],comp_all O (by simp)⟩
theorem full_swaps{i x:Nat}{q:Pos}{e:PySem.Expr}{gs:List Comprehension}{c:Pos}{line:Nat}(O:TabOk T)(hi:i<fn.ns.length)(hci:C.cel i=none)(hx: ¬fn.ns.getD i 0=x)(hl:q.line=c.line):
    swapsWith (.ListComp e gs (fullScope T x) c) (some (.Name (nmOf T fn.ns i) q)) line C.env=pure true:=by
  have n1:(Str.ofString ".0"==nmOf T fn.ns i)=false:=beq_eq_false_iff_ne.mpr fun z=>by have:=O.nodot (fn.ns.getD i 0);rw [show T.nm (fn.ns.getD i 0)=Str.ofString ".0" from z.symm,beq_self_eq_true] at this;cases this
  have n2:(T.nm x==nmOf T fn.ns i)=false:=beq_eq_false_iff_ne.mpr fun z=>hx (O.inj _ _ z.symm)
  show pure (C.env.blockKind== .function&&C.env.kindOf (nmOf T fn.ns i)==some .local&&q.line==c.line&& !((fullScope T x).names.any fun(n,k)=>n==nmOf T fn.ns i&&(k== .local||k== .cell)))=_
  rw [C.inFn,C.loc i hi hci,hl]
  show pure (_&&_&&_&& !((Str.ofString ".0"==nmOf T fn.ns i&&_)||((T.nm x==nmOf T fn.ns i&&_)||false)))=_
  rw [n1,n2,beq_self_eq_true,beq_self_eq_true,beq_self_eq_true]
  rfl
theorem full_end{g₀ σ₀ s₀ g σ ρ s}{i:Nat}{D:Addr}{vs:List V}{rs:List Value}{c' tk:Nat}{h':Heap}{m:Str→Option Value}{Q:Flow→Shared→Prop}(A:At C g₀ σ₀ s₀ g σ ρ s)(hi:i<ρ.length)(hci:C.cel i=none)(hm:s.heap.Ns C.env.locals m)(hL:Loc C g s.heap m ρ)
    (hD:s.heap.get? D=none) (hpl:h'.get? D=some {cls:= .type "list",data:= .seq rs.toArray c'}) (hr:RepL T G.w.params g vs rs) (hN:h'.Ns C.env.locals (fun z=>if z=nmOf T fn.ns i then some (.ref D) else m z))
    (hk: ∀b o,b≠C.env.locals→s.heap.get? b=some o→h'.get? b=some o) (k: ∀g₁ s₁,At C g₀ σ₀ s₀ g₁ (σ.new true (.list vs)) (ρ.set i (some (.ref true (σ.nxt true)))) s₁→Q .next s₁):Q .next {s with heap:=h',toks:=tk}:=by
  obtain⟨oL,es,ep,hoL,h2⟩:=id hm
  obtain⟨oN,hoN⟩: ∃o,h'.get? C.env.locals=some o:=let⟨o,_,_,h,_⟩:=hN;⟨o,h⟩
  have hDL:D≠C.env.locals:=by rintro rfl;rw [hoL] at hD;cases hD
  have q1:=fun b=>hide_get (b:=b) hoN (Heap.get?_some_iff.mp hoL).2
  have keep: ∀b o,s.heap.get? b=some o→(h'.update C.env.locals fun _=>oL).get? b=some o:=fun b o e=>by
    by_cases hb:b=C.env.locals
    · subst hb;rw [hoL] at e;cases e;exact(q1 0).1
    · exact((q1 b).2 hb).trans (hk b o hb e)
  have cl:=Step.cellAt (s':={s with heap:=h'.update C.env.locals fun _=>oL,toks:=tk}) A.st true (m:= .list vs) hD keep ⟨_,c',((q1 D).2 hDL).trans hpl,hr⟩ rfl rfl rfl
  refine k _ _ ((A.go cl.1).store (i:=i) (v:= .ref true (σ.nxt true)) (r:= .ref D) (h':=h') (t:=tk) (m:=m) hi hci (rep_ref.mpr ⟨D,rfl,cl.2⟩) ⟨_,es,ep,(q1 0).1,h2⟩ ?_ (fun b o nb e=>?_) hN fun y=>rfl)
  · exact⟨hL.1,fun j w hj=>let⟨r,h1,h2⟩:=hL.2 j w hj;⟨r,h1.step fun o a ob e1 e2=>((q1 a).2 (C.clNe _ _ _ e1)).trans (hk a ob (C.clNe _ _ _ e1) e2),h2.mono cl.1.le⟩⟩
  · rw [←(q1 b).2 nb];exact e
theorem ss_asgC(O:Okay T G.K)(KO:KOk T G n K){i q e x q1 q2 q3 q4 q5 k c p}:SG C K (.asgC i q e x q1 q2 q3 q4 q5 k c p):=fun{ρ _ _ _ _ _ _ Q _} A h=>goes_grd h fun hc h=>and_tt hc fun hc hcl=>and_tt hc fun hc hx=>by
  have hi:=dec_tt hc
  have hi':=in_names A hi
  have hci:=C.locOf hi' (not_tt hcl)
  obtain⟨f1,f2,f3⟩:=full_scope O.tab x
  refine wpAny_Assign_ListComp_walk (scope:=fullScope T x) fullS (fun v y=>y=v) (full_swaps O.tab hi' hci (ne_tt hx) rfl) f1 f2 rfl f3 (comp_names O.tab) (C.loc i hi' hci) (by rw [C.kind];rfl)
    (A.ex (soundG O KO C ρ e).1 (goes_bind h fun z _ h _ s₁ _ A le r=>goes_opt h fun vs hs h=>bind_some hs fun ws hw hs=>cond_some hs fun hl hs=>map_some hs fun xs hx hs=>?_)) (by intro z;cases e<;>rfl)
  subst hs
  obtain⟨a,rs,m,rfl,ho,hr⟩:=A.st.list (asLst_eq hw▸r)
  have hl':s₁.heap.IsList a rs.toArray:=⟨_,ho,rfl,m,rfl⟩
  obtain⟨hfull,hstr⟩:=fullL O.tab hr hx
  obtain⟨m₁,hm₁,hL₁⟩:=A.fm.loc
  have hLI:C.env.locals∉ [s₁.heap.objs.size] :=fun z=>Nat.ne_of_lt (let⟨_,_,_,h,_⟩:=hm₁;Heap.lt_size h) (List.mem_singleton.mp z)
  refine wpAny_pyIter_list hl' ⟨_,_,_,_,_,_,m₁,rfl,Walks.list (prog:=PW) (w:=G.w) C.handled s₁.heap.objs.size a (Nat.ne_of_lt (Heap.lt_size ho)) rs.toArray,len_in hr (dec_tt hl),it_st hl',it_in ho,hLI,hm₁.at' fun o e=>Heap.get?_push_of_some _ e,⟨?_,?_⟩,?_⟩
  · intro Ca i v s₃ m₃ E' hP hN hv hk ht
    obtain⟨y,t,rfl⟩:=hstr i v ((List.getElem?_toArray ..).symm.trans hP)
    refine wpAny_tests_one (wpAny_isTrue_Compare1 (wpAny_Name (wpAny_loadName_local rfl (comp_names O.tab) hN hv (Constant_str (ne_str (wpAny_truthy_bool ⟨?_,?_⟩)))) (C.nodbg _)) rfl)
    · rw [fullS_str,O.tab.empty,str_list_ne]
    · exact⟨s₃.heap,_,rfl,fun _ _ e=>e⟩
  · exact fun Ca i v s₃ m₃ E' hP _ hN hv hk ht=>wpAny_Name (wpAny_loadName_local rfl (comp_names O.tab) hN hv ⟨rfl,keeps_refl _⟩) (C.nodbg _)
  · intro D h' tk ys vs' hD hl2 hpl hlen hP hF hN hk
    have e1:=paired_eq hF
    rw [all_items hlen hP] at e1
    obtain⟨c',hpl⟩:=hpl
    exact full_end (s:=s₁) A hi hci hm₁ hL₁ (it_none hD) (hpl.trans (by rw [←e1])) hfull hN (fun b o nb e=>hk b o nb (fun z=>Nat.ne_of_lt (Heap.lt_size e) (List.mem_singleton.mp z)) (Heap.get?_push_of_some _ e)) h
end
end Mine
namespace Mine
section
variable {T:Tabs}{G:Gx}{fn:Fn}{n:Nat}{K:Nat→List V→Sg→R V}
noncomputable abbrev excObj(C t:Addr)(d:Option Addr):Obj:={cls:= .ref C,dict:=d,data:= .fields #[.ref t,.none,.none,.none,.bool false,.none]}
noncomputable abbrev xNew:String:="Exception.__new__"
noncomputable def IsExc(K:Frag)(a:Addr):Prop:= ∃nm q N bs M sn sub ab col dd k0 k1 k2 k3 k5,K.lookup a=some (excClassObj nm q a N bs [.ref M,.type "Exception",.type "BaseException",.type "object"] true sn sub ab col dd k0 k1 k2 k3 k5 xNew)
noncomputable def MakesExc(T:Tabs)(G:Gx)(c:Nat):Prop:= ∀(A:Around) (outer:List Env) (X:Value→Shared→Prop) (s:Shared) (x:Str) (tk:Tok),A.frames=some outer→A.handled=none→A.depth≤800→A.units≤800→
  G.K.In s.heap→s.heap.NoLimit→s.heap.Ns builtinsNs G.mb→wpAny (model PW G.w) A (PySem.call (.ref (T.clsAddr c)) [.str x tk])
    (fun v s'=> ∃e u d h' tk',v= .ref e∧s.heap.get? e=none∧(∀b o,s.heap.get? b=some o→h'.get? b=some o)∧h'.get? e=some (excObj (T.clsAddr c) u d)∧s'={s with heap:=h',toks:=tk'}) X s
structure RaiseOk(T:Tabs)(G:Gx):Prop where
  made: ∀c,T.exc c=true→MakesExc T G c
  cls: ∀c,T.exc c=true→IsExc G.K (T.clsAddr c)
  keep: ∀c,T.exc c=true→keepIn G.K (.ref (T.clsAddr c))=true
theorem raise_made{M:Model}{A:Around}{E:Value→Shared→Prop}{env:Env}{a:Addr}{s:Shared}{x:Sem Value}{Q:Flow→Shared→Prop}(hh:A.handled=none)
    (h:wpAny M A x (fun v s₁=> ∃e t d K,v= .ref e∧IsExc K a∧K.In s₁.heap∧s₁.heap.get? e=some (excObj a t d)∧E (.ref e) s₁) E s):
    wpAny M A (raiseStmt env (some x) none) Q E s:=by
  unfold raiseStmt
  refine wpAny_bind (wpAny_mono h (fun v s₁ h₁=>?_) fun _ _ x=>x)
  obtain⟨e,t,dct,K,rfl,⟨nm,q,N,bs,M',sn,sub,ab,col,dd,k0,k1,k2,k3,k5,hK⟩,KI,he,hE⟩:=h₁
  obtain⟨hp,g,d,tk,os⟩:=s₁
  have hC:=KI _ _ hK
  have hcB:(Value.ref a:: [.ref M',.type "Exception",.type "BaseException",.type "object"]).contains (.type "BaseException")=true:=by simp
  repeat (first |with_reducible refine wpAny_loadPart_at he ?_ |with_reducible refine wpAny_loadPart_at hC ?_ |(with_reducible refine wpAny_isSubtype_exc hC ?_;rw [hcB])|wp_step)
  exact wpAny_raiseNew_none hh hE
theorem StH.hide{g:Gh}{σ:Sg}{h:Heap}{as:List Addr}(x:StH T G g σ h)(ha: ∀a∈as,g.F a=none∧a∉g.act∧G.g₀.get? a=none):StH T G g σ (hideAll h as):=by
  have kp: ∀a o,a∉as→h.get? a=some o→(hideAll h as).get? a=some o:=fun a o n e=>hideAll_get _ e n
  refine⟨fun a o e=>kp a o (fun q=>by rw [(ha a q).1] at e;cases e) (x.fz a o e),fun o k m e=>?_,x.lrw,x.lown,x.nd,fun a m=>?_,x.base,?_,x.free⟩
  · obtain ⟨a,h1,h2⟩:=x.cell o k m e
    exact⟨a,h1,h2.mono (.refl _) fun o' e'=>kp a o' (fun q=>(ha a q).2.1 (Gh.sel_mem h1)) e'⟩
  · obtain ⟨p,q,o,e⟩:=x.off a m
    exact⟨p,q,o,kp a o (fun z=>(ha a z).2.1 m) e⟩
  · obtain ⟨o,e⟩:=x.tabs
    obtain⟨o',e'⟩:=G.tabL
    exact⟨o,kp _ o (fun q=>by rw [(ha _ q).2.2] at e';cases e') e⟩
theorem exf_new{α:Type}{C:Cx T G fn n}{g₀ σ₀ s₀ g σ ρ s c}{e u:Addr}{d:Option Addr}{h':Heap}{tk:Nat}(x:At C g₀ σ₀ s₀ g σ ρ s)(hn:s.heap.get? e=none)(k: ∀b o,s.heap.get? b=some o→h'.get? b=some o)(he:h'.get? e=some (excObj (T.clsAddr c) u d)):
    ExF C g₀ s₀ (.exc c σ:R α) (.ref e) {s with heap:=h',toks:=tk}:=by
  unfold ExF
  split
  · exact⟨c,σ,rfl⟩
  · rename_i q
    have fr:=x.fm.off.frames
    have off:=x.fm.off.off
    rw [C.hfrs q] at fr off
    have hin: ∀env'∈(C.env::C.outer),∀b,env'.frame=some b→b∈framesOf (C.env::C.outer):=fun env he b hb=>List.mem_filterMap.mpr ⟨env,he,hb⟩
    have hen:(hideAll s.heap (framesOf (C.env::C.outer))).get? e=none:=by
      cases z:(hideAll s.heap (framesOf (C.env::C.outer))).get? e with
      |none=>rfl
      |some o=>have:=of_hideAll _ z;rw [hn] at this;cases this
    have key: ∀h'',Heap.LeftW (hideAll s.heap (framesOf (C.env::C.outer))) (C.env::C.outer) e (.ref (T.clsAddr c)) (.ref u) h' h''→ExP T G C.outer (framesOf (C.env::C.outer)) g₀ s₀ (.exc c σ:R α) (.ref e) {s with heap:=h'',toks:=tk}:=by
      rintro h'' ⟨k1,⟨_,_,k2⟩,k3,k4⟩
      refine⟨g,σ,c,_,e,.ref u,rfl,⟨x.step.st.toStH.hide fun a ha=>⟨(off a ha).1,(off a ha).2,(fr.mem ha).1⟩,x.step.le,fun a o l na nh=>hideAll_get _ (x.step.keep a o l na fun z=>nh (C.hidP q a z)) nh,x.step.newF,x.step.newA⟩,⟨k1,hen,k2,k3⟩,x.step.st.gens,x.step.st.os,rfl⟩
    refine wpAny_leaving_firstW (a0:= .ref u) (C.frames.trans (congrArg some (C.hfrs q))) ((funFrames_hide fr hin).of_keeps fun b o hb _=>⟨o,k b o hb,rfl⟩) (C.frame q) he (fun b o hb=>k b o (of_hideAll _ hb)) hen rfl rfl rfl fun h'' hL=>key h'' hL
theorem madeOf_eq{e:Ex}{z:Nat×List Ex}(h:madeOf e=some z): ∃q p,e= .call (.glob z.1 q) z.2 p:=by
  cases e with
  | call f es p=>
    cases f with
    |glob i q=>exact⟨q,p,by rw [←Option.some.inj h]⟩
    |_=>exact no_some h
  |_=>exact no_some h
theorem St.noLimit{g:Gh}{σ:Sg}{s:Shared}(hs:St T G g σ s):s.heap.NoLimit:=by
  obtain⟨mc,⟨o,es,ep,ho,r⟩,q⟩:=G.lim
  exact⟨mc,⟨o,es,ep,hs.fz _ _ (hs.base _ _ ho G.offs),r⟩,q⟩
theorem St.builtins{g:Gh}{σ:Sg}{s:Shared}(hs:St T G g σ s):s.heap.Ns builtinsNs G.mb:=by
  obtain⟨o,es,ep,ho,q⟩:=G.nb
  exact⟨o,es,ep,hs.fz _ _ (hs.base _ _ ho G.offb),q⟩
noncomputable def RaiseP(T:Tabs)(c:Nat)(X:Value→Shared→Prop)(v:Value)(s₁:Shared):Prop:= ∃e t d K,v= .ref e∧IsExc K (T.clsAddr c)∧K.In s₁.heap∧s₁.heap.get? e=some (excObj (T.clsAddr c) t d)∧X (.ref e) s₁
theorem made_rule{C:Cx T G fn n}{g₀ σ₀ s₀ g σ ρ s c}{x:Str}{t:Tok}{X:Value→Shared→Prop}(RO:RaiseOk T G)(hx:T.exc c=true)(A:At C g₀ σ₀ s₀ g σ ρ s)(h:ExC C g₀ s₀ X c σ):
    KeepOk (model PW G.w) (.ref (T.clsAddr c)) s.heap∧wpAny (model PW G.w) C.A (PySem.call (.ref (T.clsAddr c)) [.str x t]) (RaiseP T c X) X s:=by
  have KI:G.K.In s.heap:=Gx.frag A.st
  obtain⟨k,a,b⟩:=looks_keep (M:=model PW G.w) (RO.keep c hx) KI
  refine⟨⟨k,a.elim .inl fun e=> .inr (.inl e),b⟩,wpAny_mono (RO.made c hx C.A C.frs X s x t C.frames C.handled (Nat.le_trans (Nat.le_add_right _ _) C.depth) (Nat.le_trans (Nat.le_add_right _ _) C.units) KI A.st.noLimit A.st.builtins) (fun v s₃ z=>?_) fun _ _ x=>x⟩
  obtain⟨e,u,d,h',tk',rfl,z1,z2,z3,rfl⟩:=z
  exact⟨e,u,d,G.K,rfl,RO.cls c hx,KI.keeps z2,z3,h _ _ (exf_new A z1 z2 z3)⟩
theorem ss_raise(O:Okay T G.K)(KO:KOk T G n K)(RO:RaiseOk T G){C:Cx T G fn n}{e p}:SG C K (.raise e p):=fun{ρ _ _ _ _ _ _ _ X} A h₀=>goes_opt h₀ fun z hz h=>goes_opt h fun c hc h=>bind_some hc fun v hv hc=>goes_grd h fun hx h=>by
  clear h₀
  obtain⟨q,pc,rfl⟩:=madeOf_eq hz
  show wpAny _ _ (exec (.Raise (some (erE T fn (.call (.glob z.1 q) z.2 pc))) none p) C.env) _ _ _
  rw [arm_exec_Raise]
  refine wpAny_bind (wpAny_standAt (raise_made (a:=T.clsAddr c) C.handled (wpAny_bind (wpAny_mono (Q:=RaiseP T c X) (E:=X) ?_ (fun v s₃ h₃=>wpAny_bind (wpAny_standAt (wpAny_pure h₃))) fun _ _ x=>x))))
  show wpAny _ _ (do callWith pc (←eval (erE T fn (.glob z.1 q)) C.env) [] (backTo pc (starEach (erL T fn z.2) C.env)) (backToKw pc (keywordEach [] C.env))) _ _ _
  refine wpAny_bind (glob_rule A.st hv fun r hr=>?_)
  obtain rfl:=rep_cls.mp (asCls_eq hc▸hr)
  exact call_with (A.exs (soundLG O KO C ρ z.2).1 (goes_bind h fun y _ h=>goes_opt h fun w hw h=>bind_some hw fun u hu hw=>bind_some hu fun vs hvs hu=>⟨vs,asTup_eq hvs,fun _ _ _ A _ r=>by
    obtain⟨q,rfl,hq⟩:=repL_one (one_eq hu▸r)
    obtain⟨t,rfl⟩:=rep_str.mp (asStr_eq hw▸hq)
    exact made_rule RO hx A h⟩))
mutual
noncomputable def plainS:Sx→Bool
  | .ifs _ b c _=>plainSs b&&plainSs c
  | .whl _ _ _=>false
  | .for _ _ _ _ _=>false
  |_=>true
noncomputable def plainSs:List Sx→Bool
  | [] =>true
  |s::ss=>plainS s&&plainSs ss
end
mutual
theorem not_out{C:Cx T G fn n}(h:C.out=true→false=true):C.out=false:=by
  cases q:C.out with
  |false=>rfl
  |true=>exact no_true (h q)
theorem soundS(O:Okay T G.K)(KO:KOk T G n K)(RO:RaiseOk T G)(C:Cx T G fn n)(hi:interactive C.env=false)(W: ∀i,C.own i): ∀st:Sx,(C.out=true→plainS st=true)→SG C K st
  | .asg t e p,_=>ss_asg O KO W
  | .asgT ts k q e p,_=>ss_asgT O KO W
  | .asgW i j qi qj k q a b ke pe p,_=>ss_asgW O KO W
  | .asgW3 i j l qi qj ql k q a b c ke pe p,_=>ss_asgW3 O KO W
  | .asgC i q e x q1 q2 q3 q4 q5 k c p,_=>ss_asgC O KO
  | .ex e p,_=>ss_ex O KO hi
  | .ret e p,_=>ss_ret O KO
  | .ret0 p,_=>ss_ret0
  | .ifs t b c p,h=>ss_ifs O KO (soundSs O KO RO C hi W b fun o=>(Bool.and_eq_true_iff.mp (h o)).1) (soundSs O KO RO C hi W c fun o=>(Bool.and_eq_true_iff.mp (h o)).2)
  | .whl t b p,h=>ss_whl (not_out h) O KO (soundSs O KO RO C hi W b fun o=>by rw [not_out h] at o;cases o)
  | .for i q e b p,h=>ss_for (not_out h) W O KO (soundSs O KO RO C hi W b fun o=>by rw [not_out h] at o;cases o)
  | .raise e p,_=>ss_raise O KO RO
theorem soundSs(O:Okay T G.K)(KO:KOk T G n K)(RO:RaiseOk T G)(C:Cx T G fn n)(hi:interactive C.env=false)(W: ∀i,C.own i): ∀ss:List Sx,(C.out=true→plainSs ss=true)→SGs C K ss
  | [],_=>ss_nil
  |st::ss,h=>ss_cons (soundS O KO RO C hi W st fun o=>(Bool.and_eq_true_iff.mp (h o)).1) (soundSs O KO RO C hi W ss fun o=>(Bool.and_eq_true_iff.mp (h o)).2)
end
end
end Mine
namespace Mine
noncomputable def hasKind(scope:Scope)(k:NameKind)(x:Str):Bool:=match scope.names.lookup x with
  |some k'=>k'==k
  |none=>false
noncomputable def scopeOk(T:Tabs)(fn:Fn)(scope:Scope):Bool:=
  fn.ns.all (fun i=>hasKind scope .local (T.nm i))&&fn.gs.all (fun i=>hasKind scope .globalImplicit (T.nm i))&&scope.names.all (fun x=>!(x.2== .cell))&& !(hasKind scope .globalImplicit "super")
structure FnOk(T:Tabs)(K:Frag)(f:Nat)(fn:Fn):Prop where
  obj : ∃oc od osl name qual params scope dV kV doc pm an cdv ct ds,
    K.lookup (T.fnAddr f)=some ⟨oc,od,.func (fnOf name qual params (erSs T fn fn.body) scope dV kV doc pm an cdv ct),osl⟩∧codeIn K cdv qual=true∧
    scope.kind= .function∧scope.isCoroutine=false∧scope.isGenerator=false∧scopeOk T fn scope=true∧
    (∀P g,RepL T P g fn.defs ds)∧ ∀rs:List Value,rs.length≤fn.np→fn.np≤rs.length+fn.defs.length→ ∀S,
      peek K S (bindArgs (fnOf name qual params (erSs T fn fn.body) scope dV kV doc pm an cdv ct) ⟨rs,[]⟩)=some (((fn.ns.take fn.np).map T.nm).zip (rs++ds.drop (rs.length+fn.defs.length-fn.np)))
  glo: ∀i v,fn.gv[i]? =some v→i<fn.gs.length∧GloOk T K (fn.gs.getD i 0) v
  nd:fn.ns.Nodup
  np:fn.np≤fn.ns.length
  cl:fn.cl= []
theorem hasKind_iff{scope:Scope}{k:NameKind}{x:Str}:hasKind scope k x=true↔scope.names.lookup x=some k:=by
  unfold hasKind
  split
  · rename_i k' e
    rw [e]
    simp
  · rename_i e;rw [e];simp
theorem lookup_app{α β:Type}[BEq α][LawfulBEq α]{x:α}: ∀{l r:List (α×β)},(∀y∈l,y.1≠x)→(l++r).lookup x=r.lookup x
  | [],_,_=>rfl
  | (a,b)::l,r,h=>by
    rw [List.cons_append,List.lookup_cons,beq_eq_false_iff_ne.mpr (Ne.symm (h (a,b) (.head _)))]
    exact lookup_app fun y hy=>h y (.tail _ hy)
theorem lookup_left{α β:Type}[BEq α]{x:α}{v:β}: ∀{l r:List (α×β)},l.lookup x=some v→(l++r).lookup x=some v
  | [],_,h=>no_some h
  | (a,b)::l,r,h=>by
    rw [List.lookup_cons] at h
    rw [List.cons_append,List.lookup_cons]
    cases q:x==a with
    |true=>rw [q] at h;exact h
    |false=>rw [q] at h;exact lookup_left h
theorem lookup_zip_rev{α β:Type}[BEq α][LawfulBEq α] : ∀{ks:List α} {vs:List β} {i:Nat} {k:α} {v:β},ks.Nodup→ks[i]? =some k→vs[i]? =some v→(ks.zip vs).reverse.lookup k=some v
  | a ::ks,b::vs,0,k,v,nd,e1,e2=>by
    obtain rfl:=Option.some.inj e1
    obtain rfl:=Option.some.inj e2
    rw [List.zip_cons_cons,List.reverse_cons,lookup_app]
    · exact List.lookup_cons_self
    · intro y hy q
      have hy':=List.of_mem_zip (List.mem_reverse.mp hy)
      exact(List.nodup_cons.mp nd).1 (q▸hy'.1)
  | a::ks,b::vs,i+1,k,v,nd,e1,e2=>by
    rw [List.zip_cons_cons,List.reverse_cons]
    exact lookup_left (lookup_zip_rev (List.nodup_cons.mp nd).2 e1 e2)
section
variable {T:Tabs}{G:Gx}{fn:Fn}{n:Nat}{K:Nat→List V→Sg→R V}
theorem getD_at{l:List Nat}{i:Nat}(h:i<l.length):l[i]? =some (l.getD i 0):=by rw [List.getD_eq_getElem?_getD,List.getElem?_eq_getElem h];rfl
theorem pad_at{l:List V}{k i:Nat}{v:V}(e:(l.map some++List.replicate k (none:Option V))[i]? =some (some v)):l[i]? =some v:=by
  rcases Nat.lt_or_ge i l.length with q |q
  · rw [List.getElem?_append_left (by rw [List.length_map];exact q),List.getElem?_map] at e
    exact map_some e fun w hw e=>by cases e;exact hw
  · rw [List.getElem?_append_right (by rw [List.length_map];exact q),List.getElem?_replicate] at e
    split at e<;>cases e
theorem bind_loc{P:Params}{g:Gh}{vs:List V}{rs ds:List Value}{ρ:List (Option V)}(hi:Inj T)(hb:bindV fn vs=some ρ)(nd:fn.ns.Nodup)(np:fn.np≤fn.ns.length)(hr:RepL T P g vs rs)(hd:RepL T P g fn.defs ds):
    (ρ.length=fn.ns.length∧ ∀i v,ρ[i]? =some (some v)→ ∃r,(fun x=>(((fn.ns.take fn.np).map T.nm).zip (rs++ds.drop (rs.length+fn.defs.length-fn.np))).reverse.lookup x) (nmOf T fn.ns i)=some r∧Rep T P g v r)∧rs.length≤fn.np∧fn.np≤rs.length+fn.defs.length:=
  og_some hb fun hc hb=>and_tt hc fun h1 h2=>by
    subst hb
    have h1:=dec_tt h1
    have h2:=dec_tt h2
    rw [hr.length]
    have hall:RepL T P g (vs++fn.defs.drop (vs.length+fn.defs.length-fn.np)) (rs++ds.drop (vs.length+fn.defs.length-fn.np)):=hr.app (hd.drop _)
    have hlen:(vs++fn.defs.drop (vs.length+fn.defs.length-fn.np)).length=fn.np:=by rw [List.length_append,List.length_drop];omega
    refine⟨⟨by rw [List.length_append,List.length_map,List.length_replicate,hlen];omega,fun i v e=>?_⟩,h1,h2⟩
    have e1:=pad_at e
    have hi':i<fn.np:=hlen▸(List.getElem?_eq_some_iff.mp e1).1
    obtain⟨r,h1,h2⟩:=hall.at e1
    refine⟨r,?_,h2⟩
    have hns:(fn.ns.take fn.np)[i]? =some (fn.ns.getD i 0):=by rw [List.getElem?_take,if_pos hi',getD_at (Nat.lt_of_lt_of_le hi' np)]
    exact lookup_zip_rev (i:=i) (List.Pairwise.map T.nm (fun a b q z=>q (hi _ _ z)) (nd.sublist (List.take_sublist _ _))) (by rw [List.getElem?_map,hns];rfl) h1
noncomputable def callCx{K:Frag}{f:Nat}(X:FnOk T K f fn)(hi:Inj T)(e:K=G.K)(hdbg: ∀k,(T.nm k==("__debug__":Str))=false∧(T.nm k==("__classdict__":Str))=false)(A:Around)(outer:List Env)(hA:AOk A outer (n+1))(env:Env)(hk:env.scope.kind= .function)
    (hg:env.globals=mainGlobals) (hbl:env.builtins=builtinsNs) (hf:env.frame=some env.locals) (hns: ∀i∈fn.ns,env.kindOf (T.nm i)=some .local) (hgs: ∀i∈fn.gs,env.kindOf (T.nm i)=some .globalImplicit) (hsu:env.kindOf "super"≠some .globalImplicit):Cx T G fn n where
  A:=A.deeper env
  env:=env
  outer:=outer
  frs:=env::outer
  out:=false
  cel:=fun _=>none
  priv:= [env.locals]
  frames:=Around.frames_deeper hA.frames
  hfrs:=fun _=>rfl
  handled:=hA.handled
  depth:=by have:=hA.depth;show A.depth+1+2*n≤800;omega
  units:=by have:=hA.units;show A.units+3+8*n≤800;omega
  kind:=hk
  glob:=hg
  blt:=hbl
  frame:=fun _=>hf
  loc:=fun i hi _=>hns _ (List.mem_of_getElem? (getD_at hi))
  cll:=fun i o a _ e=>no_some e
  clIn:=fun i _=>by rw [X.cl];rfl
  clNe:=fun i o a e=>no_some e
  clInj:=fun i j o o' a e=>no_some e
  privL:= .head _
  privC:=fun i a e=>no_some e
  privO:=fun i a e=>no_some e
  hidP:=fun _ a ha=>by rw [List.mem_singleton] at ha;subst ha;rw [List.filterMap_cons,hf];exact .head _
  glo:=fun i v q=>⟨hgs _ (List.mem_of_getElem? (getD_at (X.glo i v q).1)),e▸(X.glo i v q).2⟩
  nosup:=hsu
  nodbg:=fun k=>(hdbg k).1
  nocd:=fun k=>(hdbg k).2
  inj:=fun i j h1 h2 q=>by
    have:=(getD_at h1).trans ((congrArg some (hi _ _ q)).trans (getD_at h2).symm)
    rw [List.getElem?_eq_getElem h1,List.getElem?_eq_getElem h2] at this
    exact(List.getElem_inj X.nd).mp (Option.some.inj this)
theorem fresh_base{g:Gh}{σ:Sg}{s:Shared}(hS:St T G g σ s){a:Addr}(h:s.heap.get? a=none):G.g₀.get? a=none:=by
  cases q:G.g₀.get? a with
  |none=>rfl
  | some o=>
    by_cases t:a=G.tab
    · obtain ⟨o',e⟩:=hS.tabs
      rw [←t,h] at e;cases e
    · have:=hS.fz _ _ (hS.base _ _ q t)
      rw [h] at this;cases this
theorem exp_close{L:Addr}{l:List Env}{hid:List Addr}{g:Gh}{s s₁:Shared}{r:R V}{e:Value}{s':Shared}(k: ∀a o,s.heap.get? a=some o→s₁.heap.get? a=some o)(nL:s.heap.get? L=none)(x:ExP T G l (L::hid) g s₁ r e s'):ExP T G l hid g s r e s':=by
  obtain⟨g',σ',c,B,x,a0,h1,h2,h3⟩:=x
  refine⟨g',σ',c,B,x,a0,h1,⟨h2.st,h2.le,fun a o e na nh=>h2.keep a o (k _ _ e) na fun q=>?_,fun a o l=>h2.newF a o (k _ _ l),fun a o l=>h2.newA a o (k _ _ l)⟩,h3⟩
  rcases List.mem_cons.mp q with rfl |q
  · rw [nL] at e;cases e
  · exact nh q
theorem fn_inter{env:Env}(hk:env.scope.kind= .function):interactive env=false:=by unfold interactive;rw [hk];rfl
noncomputable def BodyP(Q:Value→Shared→Prop)(f:Flow)(s':Shared):Prop:=match f with
  | .next=>Q .none s'
  | .ret v=>Q v s'
  |_=>False
noncomputable def OkO(T:Tabs)(G:Gx)(g:Gh)(σ:Sg)(s:Shared)(Q:Value→Shared→Prop):Out→Sg→Prop:=fun o σ₁=> ∀g₁ s₁ v,Step T G g σ s g₁ σ₁ s₁→Rep T G.w.params g₁ o.val v→Q v s₁
theorem body_rule(O:Okay T G.K)(KO:KOk T G n K)(RO:RaiseOk T G){C:Cx T G fn n}(hi:interactive C.env=false)(ho:C.out=false)(hc: ∀i,C.cel i=none){L:Addr}(hp:C.priv= [L])(hl:C.env.locals=L){g:Gh}{σ:Sg}{s s₁:Shared}{ρ:List (Option V)}{Q X:Value→Shared→Prop}(nL:s.heap.get? L=none)
    (gr:Step T G g σ s g σ s₁) (k: ∀a o,s.heap.get? a=some o→s₁.heap.get? a=some o) (fm:Fm C g ρ s₁) (hA:L∉g.act) (h:Goes (evalSs T K fn fn.body ρ σ) (OkO T G g σ s Q) (ExR T G C.outer g s X)):
    wpAny (model PW G.w) C.A (execs (erSs T fn fn.body) C.env) (BodyP Q) (fun e s'=>wpAny (model PW G.w) C.A («leaving» C.env e) (fun _ s''=>X e s'') (fun e' s''=>X e' s'') s') s₁:=by
  have cl: ∀{g' σ' s'},StepL T G C.priv g σ s₁ g' σ' s'→Step T G g σ s g' σ' s':=fun x=>by
    rw [hp] at x
    exact((gr.toL (L:= [L]) (fun a ha=>by rw [List.mem_singleton.mp ha];exact hA)).trans x).close fun a ha=>by rw [List.mem_singleton.mp ha];exact nL
  refine soundSs O KO RO C hi (fun i a e=>by rw [hc] at e;cases e) fn.body (fun o=>by rw [ho] at o;cases o) (At.refl gr.st fm) (goes_mono h (fun o σ₁ h=>?_) fun c σ₁ h e s' p=>?_)
  · cases o with
    |next ρ'=>exact fun g₁ s₂ y=>h _ _ _ (cl y.step) .none
    |ret v=>exact fun g₁ s₂ v st r=>h _ _ _ (cl st) r
  · unfold ExF at p
    rw [ho] at p
    have key: ∀e s'',ExP T G C.outer (framesOf (C.env::C.outer)) g s₁ (.exc c σ₁:R V) e s''→X e s'':=fun e s'' q=>by
      unfold framesOf at q
      rw [List.filterMap_cons,C.frame ho,hl] at q
      exact h _ _ (exp_close k nL q)
    exact wpAny_mono p (fun _ _ q=>key _ _ q) key
theorem call_body(O:Okay T G.K)(KO:KOk T G n K)(RO:RaiseOk T G){f:Nat}(Y:FnOk T G.K f fn)(hdbg: ∀k,(T.nm k==("__debug__":Str))=false∧(T.nm k==("__classdict__":Str))=false){vs:List V}{ρ:List (Option V)}{σ:Sg}(hb:bindV fn vs=some ρ){A:Around}{outer:List Env}{g:Gh}{s:Shared}{rs:List Value}{Q X:Value→Shared→Prop}
    (h:Goes (evalSs T K fn fn.body ρ σ) (OkO T G g σ s Q) (ExR T G outer g s X)) (hA:AOk A outer (n+1)) (hO:Off G outer g s) (hS:St T G g σ s) (hR:RepL T G.w.params g vs rs):
    codeAny (model PW G.w) A (.call (.ref (T.fnAddr f)) ⟨rs,[]⟩) (CodeP Q X) s:=by
  obtain⟨oc,od,osl,name,qual,params,scope,dV,kV,doc,pm,an,cdv,ct,ds,ho,hcd,hk,hco,hgen,hsc,hds,hbind⟩:=Y.obj
  unfold scopeOk at hsc
  simp only [Bool.and_eq_true,List.all_eq_true,Bool.not_eq_true'] at hsc
  obtain⟨⟨⟨hns,hgs⟩,hce⟩,hsu⟩:=hsc
  obtain⟨hL,h1,h2⟩:=bind_loc O.tab.inj hb Y.nd Y.np hR (hds G.w.params g)
  have KI:G.K.In s.heap:=Gx.frag hS
  have nL:=none_size s.heap
  refine codeAny_call_def (fd:=fnOf name qual params (erSs T fn fn.body) scope dV kV doc pm an cdv ct) (body:=erSs T fn fn.body) (by have:=hA.depth;show A.depth<1000;omega) (KI _ _ ho) rfl hS.noLimit (codeRec_of KI hcd) rfl (kp_binds KI (hbind rs h1 h2)) (fun x hx q=>by have:=hce x hx;rw [q] at this;simp at this) (fun x hx=>?_) (fun h₁ hns₁ hk₁=>?_) hco hgen hk
  · obtain ⟨i,hi,e⟩:=List.mem_map.mp (List.of_mem_zip hx).1
    rw [←e]
    exact hasKind_iff.mp (hns i (List.mem_of_mem_take hi))
  · generalize s.toks+_=tk
    have gr:=Step.grow (s':={s with heap:=h₁,toks:=tk}) hS hk₁ rfl rfl
    have nosup:(callEnv (fnOf name qual params (erSs T fn fn.body) scope dV kV doc pm an cdv ct) s.heap.objs.size (T.fnAddr f)).kindOf "super"≠some .globalImplicit:=fun q=>by
      have:=hasKind_iff.mpr (show scope.names.lookup ("super":Str)=_ from q)
      rw [hsu] at this;cases this
    obtain⟨oL,es,ep,hL1,hL2,hL3⟩:=id hns₁
    have own:Mine1 G g h₁ s.heap.objs.size:=⟨hS.newF (Nat.le_refl _),hS.newA (Nat.le_refl _),fresh_base hS nL,oL,hL1,fun vs e=>by rw [hL2] at e;cases e⟩
    have off:=hO.step gr
    refine wpAny_mono (body_rule O KO RO (C:=callCx Y O.tab.inj rfl hdbg A outer hA (callEnv (fnOf name qual params (erSs T fn fn.body) scope dV kV doc pm an cdv ct) s.heap.objs.size (T.fnAddr f)) hk rfl rfl rfl (fun i m=>hasKind_iff.mp (hns i m)) (fun i m=>hasKind_iff.mp (hgs i m)) nosup)
      (fn_inter hk) rfl (fun _=>rfl) rfl rfl nL gr hk₁ ⟨⟨⟨?_,⟨s.heap.objs.size,oL,rfl,fresh_base hS nL,hL1,fun vs e=>by rw [hL2] at e;cases e⟩,off.frames⟩,fun a ha=>?_⟩,fun a ha=>?_,fun i o a e=>no_some e,_,hns₁,hL⟩ (hS.newA (Nat.le_refl _)) h) (fun fl s' z=>?_) fun e s' p=>p
    · exact fun q=>nomatch hk.symm.trans q
    · rcases List.mem_cons.mp ha with rfl |ha
      · exact⟨hS.newF (Nat.le_refl _),hS.newA (Nat.le_refl _)⟩
      · exact off.off a ha
    · rw [List.mem_singleton.mp ha];exact own
    · cases fl<;>first |exact z |exact False.elim z
theorem run_goes(O:Okay T G.K)(KO:KOk T G n K)(RO:RaiseOk T G){f:Nat}(Y:FnOk T G.K f fn)(hdbg: ∀k,(T.nm k==("__debug__":Str))=false∧(T.nm k==("__classdict__":Str))=false){vs:List V}{σ:Sg}{A:Around}{outer:List Env}{g:Gh}{s:Shared}{rs:List Value}{Q X:Value→Shared→Prop}
    (h:Goes (runFn T K fn vs σ) (OkR T G g σ s Q) (ExR T G outer g s X)) (hA:AOk A outer (n+1)) (hO:Off G outer g s) (hS:St T G g σ s) (hR:RepL T G.w.params g vs rs):
    codeAny (model PW G.w) A (.call (.ref (T.fnAddr f)) ⟨rs,[]⟩) (CodeP Q X) s:=goes_opt h fun ρ hb h=>
  goes_cond (P:=fun _=>_) h
    (fun h=>goes_grd h fun hf h=>call_body O KO RO Y hdbg hb (goes_only h fun o σ₁ h g₁ s₁ v st r=>goes_opt h fun w hw h=>h _ _ _ (Step.leave hS st) (frz_rule st.st hw r)) hA hO.enter hS.enter (RepL.free (F:=g.F) (φ:=g.φ) (ψ:=g.ψ) vs hf hR))
    fun h=>call_body O KO RO Y hdbg hb (goes_bind h fun o σ₁ h g₁ s₁ v st r=>h _ _ _ st r) hA hO hS hR
theorem run_fn(O:Okay T G.K)(KO:KOk T G n K)(RO:RaiseOk T G){f:Nat}(Y:FnOk T G.K f fn)(hdbg: ∀k,(T.nm k==("__debug__":Str))=false∧(T.nm k==("__classdict__":Str))=false)(vs:List V)(σ:Sg):CW T G (n+1) f vs σ (runFn T K fn vs σ):=fun hn A outer g s rs hA hO hS hR=>
  run_goes O KO RO Y hdbg (goes_self hn (fun x σ₁ q g₁ s₁ v st r=>⟨g₁,σ₁,x,st,r,q⟩) fun c σ₁ q e s' p=>p.as fun _ _ z=>by cases z;exact q) hA hO hS hR
structure FnsOk(T:Tabs)(K:Frag):Prop where
  okay:Okay T K
  fn: ∀f fn,T.fn f=some fn→FnOk T K f fn
  dbg: ∀k,(T.nm k==("__debug__":Str))=false∧(T.nm k==("__classdict__":Str))=false
theorem call_ok(Y:FnsOk T G.K)(RO:RaiseOk T G): ∀n,KOk T G n (call T n)
  |0=>⟨fun f vs σ hn=>absurd rfl hn,fun f vs σ hn=>absurd rfl hn⟩
  | n +1=>by
    have key: ∀{f vs σ},call T (n+1) f vs σ≠ .stuck→ ∃fn,T.fn f=some fn∧call T (n+1) f vs σ=runFn T (call T n) fn vs σ:=fun{f vs σ} hn=>by
      change R.opt (T.fn f) _≠_ at hn
      show∃fn,_∧R.opt (T.fn f) _=_
      cases hf:T.fn f with
      |none=>rw [hf] at hn;exact absurd rfl hn
      |some fn=>exact⟨fn,rfl,rfl⟩
    refine⟨fun f vs σ hn=>?_,fun f vs σ hn=>?_⟩
    · obtain ⟨fn,hf,e⟩:=key hn
      rw [e] at hn ⊢
      exact run_fn Y.okay (call_ok Y RO n) RO (Y.fn f fn hf) Y.dbg vs σ hn
    · obtain ⟨fn,hf,e⟩:=key hn
      obtain⟨oc,od,osl,name,qual,params,scope,dV,kV,doc,pm,an,cdv,ct,ds,ho,_⟩:=(Y.fn f fn hf).obj
      unfold keepIn
      simp only [ho]
end
end Mine
end
section
open PySem PySem.Calls PySem.W PyProof.Rows
set_option maxRecDepth 100000
set_option genInjectivity false
set_option genSizeOf false
namespace Mine
section
variable {prog:Program}{w:World}{A:Around}{E:Value→Shared→Prop}{h:Heap}{g:Array GenState}{d:Drawn}{t:Nat}{os:OsState}
variable {nm q:Str}{C N:Addr}{bs bm:List Value}{hdct:Bool}{sn:List Str}{sub:List Value}{ab:Bool}{col:Option Bool}{dd:Option Addr}{k0 k1 k2 k3 k5:Option Value}
theorem xc_check_new{M:Model}(hb:bm.contains (.type "Exception")=true){rest:List Value}{Q:Unit→Shared→Prop}(hC:h.get? C=some (excClassObj nm q C N bs bm hdct sn sub ab col dd k0 k1 k2 k3 k5 xNew))
    (hq:Q () ⟨h,g,d,t,os⟩):wpAny M A (checkBuiltinCall xNew ⟨.ref C::rest,[]⟩) Q E ⟨h,g,d,t,os⟩:=by
  have Fn:=PySem.F.excBase_Exception
  have hcont:(Value.ref C::bm).contains (.type "Exception")=true:=by rw [List.contains_cons,hb,Bool.or_true]
  have hstar:=Fn.noStar
  simp only [checkBuiltinCall,Fn.newKind,Fn.newSplit,Fn.newRow]
  repeat (first |refine wpAny_loadPart_at hC ?_ |(refine wpAny_isSubtype_exc hC ?_;rw [hcont])|refine wpAny_staticBase_exc hC ?_ |refine wpAny_madeBy_exc hC ?_ |simp only [bne_self_eq_false,Bool.false_eq_true,if_false] |wp_step)
  exact hq
theorem xc_new{R:Result→Shared→Prop}(hb:bm.contains (.type "Exception")=true)(ha:bm.contains (.type "AttributeError")=false)(hn:bm.contains (.type "NameError")=false){rest:List Value}
    (hC:h.get? C=some (excClassObj nm q C N bs bm hdct sn sub ab col dd k0 k1 k2 k3 k5 xNew))
    (hq:R (.ok (.ret (.ref (h.objs.size+1)))) ⟨(h.push {cls:= .type "tuple",data:= .seq rest.toArray}).push (excObj C h.objs.size none),g,d,t,os⟩) (hrest:rest.length≤sizeLine):
    codeAny (model prog w) A (.builtin xNew ⟨.ref C::rest,[]⟩) R ⟨h,g,d,t,os⟩:=by
  have Fn:=PySem.F.excBase_Exception
  have hends:=Fn.ends
  have hcB:(Value.ref C::bm).contains (.type "Exception")=true:=by rw [List.contains_cons,hb,Bool.or_true]
  have hcA:(Value.ref C::bm).contains (.type "AttributeError")=false:=by rw [List.contains_cons,ha];rfl
  have hcN:(Value.ref C::bm).contains (.type "NameError")=false:=by rw [List.contains_cons,hn];rfl
  refine codeAny_builtinAt Fn.entry ?_
  unfold Builtin.«BaseException.__new__»
  refine PySem.wpAt_bind ?_
  show PySem.wpAt _ _ _ (stack>>=_) _ _ _
  refine PySem.wpAt_bind (PySem.wpAt_stack fun p below=>PySem.wpAt_of_wpAny ?_)
  wp_walk
  refine PySem.wpAt_of_wpAny ?_
  rw [Fn.owner]
  repeat (first |with_reducible refine wpAny_madeHere_exc Fn.canon hC ?_ |with_reducible refine wpAny_loadPart_at hC ?_ |(with_reducible refine wpAny_isSubtype_exc hC ?_;first |rw [hcB] |rw [hcA] |rw [hcN])|wp_step)
  show R _ _
  rw [Heap.size_push]
  exact hq
theorem xc_type_call{K:Frag}{fI:Addr}(X:K.In h)(hb:bm.contains (.type "Exception")=true)(ha:bm.contains (.type "AttributeError")=false)(hn:bm.contains (.type "NameError")=false){rest:List Value}{Q:Fin→Shared→Prop}
    (hC:h.get? C=some (excClassObj nm q C N bs bm hdct sn sub ab col dd k0 k1 k2 k3 k5 xNew)) (hi:findIn K (.ref C) "__init__"=some (some (.ref fI))) (hf:typeIn K (.ref fI)=some (.type "function"))
    (hq: ∀h' e,Heap.MadeExcOf h h' e (.ref C) rest→
      wpAny (model prog w) A (PySem.call (.ref fI) (.ref e::rest)) (fun r s'=>r= .none∧Q (.done (.ret (.ref e))) s') E ⟨h',g,d,t,os⟩) (hrest:rest.length≤sizeLine):
    wpAny (model prog w) A (Builtin.«type.__call__» ⟨.ref C::rest,[]⟩) Q E ⟨h,g,d,t,os⟩:=by
  have Fn:=PySem.F.excBase_Exception
  repeat (first |with_reducible refine wpAny_loadPart_at hC ?_ |with_reducible refine wpAny_madeBy_exc hC ?_ |wp_step)
  refine codeAny_call_builtin_code (Code.quiet_builtin _ Fn.quiet) (xc_check_new hb hC ?_)
  refine xc_new hb ha hn hC ?_ hrest
  show wpAny _ _ _ _ _ _
  have kp: ∀b o,h.get? b=some o→((h.push {cls:= .type "tuple",data:= .seq rest.toArray}).push (excObj C h.objs.size none)).get? b=some o:=fun b o e=>Heap.get?_push_of_some _ (Heap.get?_push_of_some _ e)
  have hC₁:=kp _ _ hC
  have X₁:=X.keeps kp
  have hget:((h.push {cls:= .type "tuple",data:= .seq rest.toArray}).push (excObj C h.objs.size none)).get? (h.objs.size+1)=some (excObj C h.objs.size none):=by heap_get
  have hcC:(Value.ref C::bm).contains (.ref C)=true:=by simp
  unfold isInstance
  repeat (first |with_reducible refine wpAny_loadPart_at hget ?_ |(with_reducible refine wpAny_isSubtype_exc hC₁ ?_;rw [hcC])|wp_step)
  show wpAny _ _ (typeLookup (.ref C) _) _ _ _
  refine(looks_findIn X₁ hi).here ?_
  refine wpAny_holding (wpAny_bind ?_)
  unfold bindSpecial
  refine wpAny_bind ((looks_typeIn X₁ hf).here ?_)
  rw [if_pos (by decide)]
  refine wpAny_pure (wpAny_bind (wpAny_mono (hq _ (h.objs.size+1) ⟨kp,Heap.get?_none_of_le (Nat.le_succ _),h.objs.size,hget,Heap.get?_none_of_le (Nat.le_refl _),?_⟩) (fun r s' hr=>?_) fun _ _ x=>x))
  · exact Heap.get?_push_of_some _ (Heap.get?_push_at rfl rfl)
  · obtain ⟨rfl,hQ⟩:=hr
    wp_walk
    exact hQ
theorem xc_call{K:Frag}{fI:Addr}(X:K.In h)(hb:bm.contains (.type "Exception")=true)(ha:bm.contains (.type "AttributeError")=false)(hn:bm.contains (.type "NameError")=false){rest:List Value}{Q:Value→Shared→Prop}
    (hC:h.get? C=some (excClassObj nm q C N bs bm hdct sn sub ab col dd k0 k1 k2 k3 k5 xNew)) (hi:findIn K (.ref C) "__init__"=some (some (.ref fI))) (hf:typeIn K (.ref fI)=some (.type "function"))
    (hq: ∀h' e,Heap.MadeExcOf h h' e (.ref C) rest→
      wpAny (model prog w) (A.under (.builtin "type.__call__" ⟨.ref C::rest,[]⟩)) (PySem.call (.ref fI) (.ref e::rest)) (fun r s'=>r= .none∧Q (.ref e) s') E ⟨h',g,d,t,os⟩) (hrest:rest.length≤sizeLine):
    wpAny (model prog w) A (PySem.call (.ref C) rest) Q E ⟨h,g,d,t,os⟩:=by
  have f1:=tc_lookup
  have f2:=tc_bind (.ref C)
  have hT:(⟨h,g,d,t,os⟩:Shared).TypeIs (.ref C) "type":=⟨_,hC,rfl⟩
  refine wpAny_call (codeAny_of_tree ?_)
  show wpAny _ _ (callAny (.ref C) _) _ _ _
  repeat (any_goals (first |assumption |with_reducible refine wpAny_loadPart_at hC ?_ |wp_step))
  refine⟨rfl,?_⟩
  refine codeAny_call_builtin_at (Code.quiet_builtin _ (by decide+kernel)) entry_typeCall (wpAny_check_type_call_sub hC (xc_type_call X hb ha hn hC hi hf (fun h' e hm=>?_) hrest))
  exact hq h' e hm
end
end Mine
end
section
open PySem PySem.Calls PySem.W
set_option maxRecDepth 100000
set_option genInjectivity false
set_option genSizeOf false
namespace Mine
section
variable {prog:Program}{w:World}{M:Model}{A:Around}{E:Value→Shared→Prop}{s:Shared}{K:Frag}
theorem xi_find:findCls K (.type "Exception") (.type "type") "__init__"=some (.val (.builtin "Exception.__init__")):=by rfl
theorem xi_getm{pl:Sem Bool}{Q:Value×List Value→Shared→Prop}(X:K.In s.heap)(h:Q (.builtin "Exception.__init__",[]) {s with toks:=s.toks+1}):
    wpAny (model prog w) A (getMethod (.type "Exception") "__init__" pl) Q E s:=by
  have hstub:opaqueClassAbove (.type "Exception")=pure none:=by unfold opaqueClassAbove;dsimp only;rw [show Manifest.isStub "Exception"=false by decide+kernel];rfl
  have ht:typeOf (.type "Exception")=pure (.type "type"):=by first |rfl |kernel_rfl
  have L0:Looks (model prog w) s.heap (typeOf (.type "Exception")) (.type "type"):=Looks.of_pure ht
  have hg:findIn K (.type "type") "__getattribute__"=some (some (.builtin "type.__getattribute__")):=type_tga
  unfold getMethod specialOf
  refine wpAny_bind (wpAny_bind (L0.here ((looks_findIn X hg).here ?_)))
  dsimp only
  rw [if_pos canon_tga]
  refine wpAny_bind (wpAny_mono (Q:=fun v=>Q (v,[])) (E:=E) ?_ (fun _ _ z=>wpAny_pure z) fun _ _ z=>z)
  have LO:Looks (model prog w) s.heap (opaqueClassAbove (.type "Exception")) none:=Looks.of_pure hstub
  refine cls_open X LO L0 hg (looks_hook X (r:=none) (by rfl)) (by show subIn K _ _=_;rfl) xi_find ?_
  show wpAny _ _ (ret (.builtin "Exception.__init__")) _ _ _
  exact wpAny_pure (handed_on rfl h)
end
section
variable {prog:Program}{w:World}{A:Around}{E:Value→Shared→Prop}{h:Heap}{g:Array GenState}{d:Drawn}{t:Nat}{os:OsState}
variable {nm q:Str}{C N:Addr}{bs bm:List Value}{hdct:Bool}{sn:List Str}{sub:List Value}{ab:Bool}{col:Option Bool}{dd:Option Addr}{k0 k1 k2 k3 k5:Option Value}
theorem xc_check_init{M:Model}(hb:bm.contains (.type "Exception")=true){e:Addr}{oe:Obj}{rest:List Value}{Q:Unit→Shared→Prop}
    (hC:h.get? C=some (excClassObj nm q C N bs bm hdct sn sub ab col dd k0 k1 k2 k3 k5 xNew)) (he:h.get? e=some oe) (hcls:oe.cls= .ref C) (hq:Q () ⟨h,g,d,t,os⟩):
    wpAny M A (checkBuiltinCall "Exception.__init__" ⟨.ref e::rest,[]⟩) Q E ⟨h,g,d,t,os⟩:=by
  have F:=PySem.F.excBase_Exception
  have hcB:(Value.ref C::bm).contains (.type "Exception")=true:=by rw [List.contains_cons,hb,Bool.or_true]
  have hshort:=F.noStar
  simp only [checkBuiltinCall,F.initKind,F.initSplit,F.initRow]
  repeat (first |(with_reducible refine wpAny_loadPart_at he ?_;rw [hcls])|with_reducible refine wpAny_loadPart_at hC ?_ |(with_reducible refine wpAny_isSubtype_exc hC ?_;rw [hcB])|wp_step)
  refine wpAny_onRaise ?_
  rw [show∀(a b:String) (n:Nat),Bind.check ⟨.positional,"*","Exception",.self,[⟨"args",.varPos,false⟩]⟩ a b n (List.map (fun x=>x.fst) ({pos:=Value.ref e::rest}:Args).kw)=pure () from
    fun a b n=>check_star_args _ _ _ _ _ _]
  exact wpAny_pure hq
theorem xi_call(hb:bm.contains (.type "Exception")=true){e u:Addr}{dct:Option Addr}{rest:List Value}{Q:Value→Shared→Prop}
    (hC:h.get? C=some (excClassObj nm q C N bs bm hdct sn sub ab col dd k0 k1 k2 k3 k5 xNew)) (he:h.get? e=some (excObj C u dct)) (hrest:rest.length≤sizeLine)
    (hq: ∀h' u',(∀b o,b≠e→h.get? b=some o→h'.get? b=some o)→h'.get? e=some (excObj C u' dct)→Q .none ⟨h',g,d,t,os⟩):
    wpAny (model prog w) A (PySem.call (.builtin "Exception.__init__") (.ref e::rest)) Q E ⟨h,g,d,t,os⟩:=by
  have F:=PySem.F.excBase_Exception
  have he':=Heap.get?_push_of_some {cls:= .type "tuple",data:= .seq rest.toArray} he
  refine wpAny_call (codeAny_call_builtin F.init.plain F.initEntry (xc_check_init hb hC he rfl ?_))
  wp_walk
  refine hq _ h.objs.size (fun b o ne e=>?_) ?_
  · rw [Heap.get?_update_other _ _ (Ne.symm ne)]
    exact Heap.get?_push_of_some _ e
  · rw [Heap.get?_update_self _ he' rfl]
    rfl
end
end Mine
end
section
open PySem PySem.Calls PySem.W Builtin Builtin.ObjectAttr
set_option maxRecDepth 100000
set_option genInjectivity false
set_option genSizeOf false
namespace Mine
theorem xs_refuse(self:Value)(C M:Addr):refuseLoop self "__setattr__" [.ref C,.ref M,.type "Exception",.type "BaseException",.type "object"] =pure ():=by
  rw [refuseLoop_ref,refuseLoop_ref]
  kernel_rfl
noncomputable abbrev excMro(C M:Addr):List Value:= [.ref C,.ref M,.type "Exception",.type "BaseException",.type "object"]
section
variable {prog:Program}{w:World}{A:Around}{E:Value→Shared→Prop}{s:Shared}{K:Frag}{C M e:Addr}{R:Result→Shared→Prop}
theorem xs_open{ox:Obj}{od:Option Obj}{name:Str}{tk:Tok}{v:Value}(X:K.In s.heap)(I:InstAt s.heap e ox C od){cd:ClassData}(hc:clsIn K C=some cd)(hm:cd.mro=excMro C M)(ht:findIn K (.ref C) name=some none)
    (h:wpAny (model prog w) A.in1 (storeInOwnDict (.ref e) (.ref C) (.str name tk) name v false)
      (fun fin s'=>match fin with | .done f=>R (.ok f) s' | .again c'=>c'.quiet=true∧codeAny (model prog w) A c' R s') (fun e s'=>R (.error e) s') s):
    codeAny (model prog w) A (.call (.builtin "object.__setattr__") ⟨[.ref e,.str name tk,v],[]⟩) R s:=by
  have SF:=PySem.F.store_object
  have sub:Looks (model prog w) s.heap (isInstance (.ref e) (.type "object")) true:=I.type.andThen (looks_mroIn X (by unfold mroIn;rw [hc,Option.bind_some,hm];simp [excMro]))
  refine codeAny_call_builtin SF.slot.plain SF.entry (@check_slot (model prog w) _ _ s "object.__setattr__" "object" "__setattr__" (.ref e) [.str name tk,v] [] _ SF.kind SF.split sub (SF.args (.ref e) (.str name tk) v) ?_)
  have hm':Looks (model prog w) s.heap (mroOf (.ref C)) cd.mro:=(looks_clsIn X hc).andThen .now
  rw [osa_eq,refuse_eq]
  refine wpAny_bind (wpAny_bind (I.type.here (wpAny_bind (hm'.here ?_))))
  rw [hm,xs_refuse]
  refine wpAny_pure (wpAny_bind (I.type.here (wpAny_bind ((looks_findIn X ht).here (wpAny_bind (wpAny_pure ?_))))))
  exact h
theorem xs_put{d:Addr}{es:List DictEntry}{n:Nat}{name:Str}{tk:Tok}{v:Value}{P:Fin→Shared→Prop}(D:s.heap.get? d=some (dictOf es n))(hr:es.any (·.refKey)=false)(hl:es.length≤10)
    (h: ∀h' es' n',Heap.SameBut d s.heap h'→h'.get? d=some (dictOf es' n')→es'.any (·.refKey)=false→es'.length≤es.length+1→P (.done (.ret .none)) {s with heap:=h',toks:=s.toks+1}):
    wpAny (model prog w) A (storeInDict d (.str name tk) name v) P E s:=by
  unfold storeInDict
  refine wpAny_bind (wpAny_pure (wpAny_bind ?_))
  unfold nsSet
  refine wpAny_bind (wpAny_bind (wpAny_askSetting (wpAny_pure (wpAny_bind (wpAny_mkText (wpAny_bind (wpAny_loadPart D ?_)))))))
  have c0:(!es.toArray.any (·.key.isStr name)&&es.toArray.any (·.refKey))=false:=by
    rw [←Array.any_toList,←Array.any_toList]
    show(_&&es.any _)=false
    rw [hr,Bool.and_false]
  show wpAny _ _ (if aRefKeyMayBeTheName name es.toArray=true then _ else _) _ _ _
  rw [aRefKeyMayBeTheName_at,c0]
  have D':(s.heap.update d (Obj.putName name (PyData.keyHash w.params name) (.str name s.toks) v)).get? d=some (dictOf (putL name (PyData.keyHash w.params name) (.str name s.toks) v es) (putN name es n)):=by
    rw [Heap.get?_update_self _ D (by rw [putName_dict];rfl),putName_dict]
  have key: ∀es:List DictEntry,es.any (·.refKey)=false→(putL name (PyData.keyHash w.params name) (.str name s.toks) v es).any (·.refKey)=false∧(putL name (PyData.keyHash w.params name) (.str name s.toks) v es).length≤es.length+1:=by
    intro es
    induction es with
    |nil=>intro _;exact⟨rfl,Nat.le_refl _⟩
    | cons e r ih=>
      intro hr
      rw [List.any_cons,Bool.or_eq_false_iff] at hr
      obtain⟨i1,i2⟩:=ih hr.2
      simp only [putL]
      split
      · exact⟨by rw [List.any_cons,hr.2,show(DictEntry.refKey ⟨e.hash,e.key,v⟩)=e.refKey from rfl,hr.1];rfl,by simp⟩
      · exact⟨by rw [List.any_cons,hr.1,i1];rfl,by simp only [List.length_cons];omega⟩
  obtain⟨k1,k2⟩:=key es hr
  refine wpAny_updatePart D ?_
  refine wpAny_bind (wpAny_lookBehind D' (pastItsLine_dict (by rw [List.size_toArray,sizeLine_eq];omega)) ?_)
  exact wpAny_pure (h _ _ _ (Heap.SameBut.update ..) D' k1 k2)
theorem xs_set{u:Addr}{dct:Option (Addr×List DictEntry×Nat)}{name:Str}{v:Value}{Q:Unit→Shared→Prop}(X:K.In s.heap){cd:ClassData}(hc:clsIn K C=some cd)(hm:cd.mro=excMro C M)(hd:cd.hasDict=true)(ht:findIn K (.ref C) name=some none)
    (hsa:findIn K (.ref C) "__setattr__"=some (some (.builtin "object.__setattr__"))) (he:s.heap.get? e=some (excObj C u (dct.map (·.1))))
    (hdc: ∀d es n,dct=some (d,es,n)→d≠e∧s.heap.get? d=some (dictOf es n)∧es.any (·.refKey)=false∧es.length≤10)
    (h: ∀h' d es n tk,h'.get? e=some (excObj C u (some d))→d≠e→h'.get? d=some (dictOf es n)→es.any (·.refKey)=false→es.length≤(dct.elim 0 (·.2.1.length))+1→
      (∀b o,b≠e→(∀d₀ es n,dct=some (d₀,es,n)→b≠d₀)→s.heap.get? b=some o→h'.get? b=some o)→(dct=none→s.heap.get? d=none)→(∀d₀ es n,dct=some (d₀,es,n)→d=d₀)→Q () {s with heap:=h',toks:=tk}):
    wpAny (model prog w) A (PySem.setAttr (.ref e) name v) Q E s:=by
  cases dct with
  | none=>
    have I:InstAt s.heap e (excObj C u none) C none:=⟨he,rfl,rfl,trivial⟩
    refine set_plain X I hsa (xs_open (s:={s with toks:=s.toks+1}) X I hc hm ht ?_)
    refine wpAny_bind (wpAny_pure (wpAny_bind (wpAny_bind (wpAny_loadPart he (wpAny_bind (looks_clsIn X hc _ _ _ _ (fun _ _ e=>e) ?_))))))
    rw [hd]
    have hne:e≠s.heap.objs.size:=Nat.ne_of_lt (Heap.lt_size he)
    have he1:=Heap.get?_push_of_some emptyDict he
    have he2:((s.heap.push emptyDict).update e fun o=>{o with dict:=some s.heap.objs.size}).get? e=some (excObj C u (some s.heap.objs.size)):=Heap.get?_update_self _ he1 rfl
    have hd2:((s.heap.push emptyDict).update e fun o=>{o with dict:=some s.heap.objs.size}).get? s.heap.objs.size=some (dictOf [] 0):=by
      rw [Heap.get?_update_other _ _ hne];exact Heap.get?_push_size _ rfl
    refine wpAny_bind (wpAny_alloc (wpAny_bind (wpAny_update he1 (wpAny_pure (a:=some s.heap.objs.size) (wpAny_bind (wpAny_pure ?_))))))
    refine xs_put (tk:=s.toks) (s:={s with heap:=(s.heap.push emptyDict).update e fun o=>{o with dict:=some s.heap.objs.size},toks:=s.toks+1}) hd2 rfl (by simp) fun h' es' n' sb D' k1 k2=>?_
    exact h h' s.heap.objs.size es' n' _ ((sb.2 e hne).trans he2) (Ne.symm hne) D' k1 k2 (fun b o nb _ eb=>(sb.2 b (Nat.ne_of_lt (Heap.lt_size eb))).trans ((Heap.get?_update_other _ _ (Ne.symm nb)).trans (Heap.get?_push_of_some _ eb))) (fun _=>none_size _) (fun _ _ _ q=>by cases q)
  | some p=>
    obtain⟨d,es,n⟩:=p
    obtain⟨d1,d2,d3,d4⟩:=hdc d es n rfl
    have I:InstAt s.heap e (excObj C u (some d)) C (some (dictOf es n)):=⟨he,rfl,rfl,d2⟩
    refine set_plain X I hsa (xs_open (s:={s with toks:=s.toks+1}) X I hc hm ht ?_)
    refine wpAny_bind (wpAny_pure (wpAny_bind (wpAny_bind (wpAny_loadPart he (wpAny_bind (looks_clsIn X hc _ _ _ _ (fun _ _ e=>e) ?_))))))
    rw [hd]
    refine wpAny_pure (a:=some d) (wpAny_bind (wpAny_pure ?_))
    refine xs_put (tk:=s.toks) (s:={s with toks:=s.toks+1}) d2 d3 d4 fun h' es' n' sb D' k1 k2=>?_
    exact h h' d es' n' _ ((sb.2 e (Ne.symm d1)).trans he) d1 D' k1 k2 (fun b o nb nd eb=>(sb.2 b (nd d es n rfl)).trans eb) (fun q=>by cases q) (fun _ _ _ q=>by cases q;rfl)
end
end Mine
end
section
open PySem PySem.Calls PySem.W
set_option maxRecDepth 100000
set_option genInjectivity false
set_option genSizeOf false
namespace Mine
section
variable {T:Tabs}{G:Gx}{fn:Fn}{n:Nat}
theorem fn_enter (O:Okay T G.K) {f:Nat} (X:FnOk T G.K f fn) (hdbg: ∀k,(T.nm k==("__debug__":Str))=false∧(T.nm k==("__classdict__":Str))=false) {A:Around} {outer:List Env} {s:Shared} {rs:List Value} {R:Result→Shared→Prop}
    (hf:A.frames=some outer) (hh:A.handled=none) (hd:A.depth<1000) (KI:G.K.In s.heap) (lim:s.heap.NoLimit) (h1:rs.length≤fn.np) (h2:fn.np≤rs.length+fn.defs.length)
    (k: ∀(C:CxS T G fn) (ds:List Value) h₁ tk,(∀P g,RepL T P g fn.defs ds)→C.env.locals=s.heap.objs.size→C.out=false→(∀i,C.cel i=none)→h₁.Ns s.heap.objs.size (fun x=>(((fn.ns.take fn.np).map T.nm).zip (rs++ds.drop (rs.length+fn.defs.length-fn.np))).reverse.lookup x)→
      (∀b o,s.heap.get? b=some o→h₁.get? b=some o)→C.A.units≤A.units+3→interactive C.env=false→
      wpAny (model PW G.w) C.A (execs (erSs T fn fn.body) C.env) (fun f s'=>R (.ok (.ret (match f with | .ret v=>v |_=> .none))) s')
        (fun e s'=>wpAny (model PW G.w) C.A («leaving» C.env e) (fun _ s''=>R (.error e) s'') (fun e' s''=>R (.error e') s'') s') {s with heap:=h₁,toks:=tk}):
    codeAny (model PW G.w) A (.call (.ref (T.fnAddr f)) ⟨rs,[]⟩) R s:=by
  obtain⟨oc,od,osl,name,qual,params,scope,dV,kV,doc,pm,an,cdv,ct,ds,ho,hcd,hk,hco,hgen,hsc,hds,hbind⟩:=X.obj
  unfold scopeOk at hsc
  simp only [Bool.and_eq_true,List.all_eq_true,Bool.not_eq_true'] at hsc
  obtain⟨⟨⟨hns,hgs⟩,hce⟩,hsu⟩:=hsc
  have hcell: ∀x∈scope.names,x.2≠ .cell:=fun x hx q=>by have:=hce x hx;rw [q] at this;simp at this
  refine codeAny_call_def (fd:=fnOf name qual params (erSs T fn fn.body) scope dV kV doc pm an cdv ct) (body:=erSs T fn fn.body) hd (KI _ _ ho) rfl lim (codeRec_of KI hcd) rfl (kp_binds KI (hbind rs h1 h2)) hcell ?_ (fun h₁ hns₁ hk₁=>?_) hco hgen hk
  · intro x hx
    obtain⟨i,hi,e⟩:=List.mem_map.mp (List.of_mem_zip hx).1
    rw [←e]
    exact hasKind_iff.mp (hns i (List.mem_of_mem_take hi))
  · generalize s.toks+_=tk
    let env:=callEnv (fnOf name qual params (erSs T fn fn.body) scope dV kV doc pm an cdv ct) s.heap.objs.size (T.fnAddr f)
    have nmem: ∀(l:List Nat) (i:Nat),i<l.length→l.getD i 0∈l:=fun l i hi=>by
      rw [List.getD_eq_getElem?_getD,List.getElem?_eq_getElem hi];exact List.getElem_mem hi
    let C:CxS T G fn:={
      A:=A.deeper env,env:=env,outer:=outer,frs:=env::outer,out:=false,cel:=fun _=>none,priv:= [s.heap.objs.size]
      frames:=Around.frames_deeper hf,hfrs:=fun _=>rfl,handled:=hh
      kind:=hk,glob:=rfl,blt:=rfl,frame:=fun _=>rfl
      loc:=fun i hi _=>hasKind_iff.mp (hns _ (nmem _ _ hi))
      cll:=fun i o a _ e=>by cases e
      clIn:=fun i _=>by rw [X.cl];rfl
      clNe:=fun i o a e=>by cases e
      clInj:=fun i j o o' a e=>by cases e
      privL:= .head _
      privC:=fun i a e=>by cases e
      privO:=fun i a e=>by cases e
      hidP:=fun _ a ha=>by rw [List.mem_singleton] at ha;subst ha;exact .head _
      glo:=fun i v e=>⟨hasKind_iff.mp (hgs _ (nmem _ _ (X.glo i v e).1)),(X.glo i v e).2⟩
      nosup:=fun q=>by
        have:=hasKind_iff.mpr (show scope.names.lookup ("super":Str)=_ from q)
        rw [hsu] at this;cases this
      nodbg:=fun k=>(hdbg k).1
      nocd:=fun k=>(hdbg k).2
      inj:=fun i j hi hj e=>by
        have:=O.tab.inj _ _ e
        rw [List.getD_eq_getElem?_getD,List.getD_eq_getElem?_getD,List.getElem?_eq_getElem hi,List.getElem?_eq_getElem hj] at this
        exact(List.getElem_inj X.nd).mp this}
    exact k C ds h₁ tk hds rfl rfl (fun _=>rfl) hns₁ hk₁ (Nat.le_refl _) (by show interactive env=false;unfold interactive;rw [show env.scope.kind= .function from hk];rfl)
end
end Mine
namespace Mine
section
variable {T:Tabs}{G:Gx}{fn:Fn}{n:Nat}{C:CxS T G fn}
theorem raw_loc{i:Nat}{p:Pos}{s:Shared}{m:Str→Option Value}{r:Value}{Q X:Value→Shared→Prop}(hc:C.cel i=none)(hi:i<fn.ns.length)(hN:s.heap.Ns C.env.locals m)(hr:m (nmOf T fn.ns i)=some r)(h:Q r s):
    wpAny (model PW G.w) C.A (eval (erE T fn (.loc i p)) C.env) Q X s:=
  wpAny_Name (wpAny_loadName_local C.kind (C.loc i hi hc) hN hr h) (C.nodbg _)
theorem raw_glob{i:Nat}{p:Pos}{s:Shared}{v:V}{Q X:Value→Shared→Prop}(hv:fn.gv[i]? =some v)(KI:G.K.In s.heap)(nb:s.heap.Ns builtinsNs G.mb)(h: ∀r,(∀P g,Rep T P g v r)→Q r s):
    wpAny (model PW G.w) C.A (eval (erE T fn (.glob i p)) C.env) Q X s:=by
  obtain⟨hk,r,hr,hrep⟩:=C.glo i v hv
  refine Name_function_global C.kind hk ?_ (C.nodbg _)
  unfold loadGlobal
  rw [C.glob]
  have hr':(nsIn G.K mainGlobals (nmOf T fn.gs i)=some (some r)∨(nsIn G.K mainGlobals (nmOf T fn.gs i)=some none∧bootBuiltins (nmOf T fn.gs i)=some r∧nmOf T fn.gs i≠"__name__")):=hr
  rcases hr' with hr |⟨h1,h2,h3⟩
  · exact wpAny_bind ((looks_nsIn KI hr).here (wpAny_pure (h r hrep)))
  · refine wpAny_bind ((looks_nsIn KI h1).here ?_)
    rw [C.blt]
    refine wpAny_bind (wpAny_nsGet (m:=G.mb) nb ?_)
    rw [show G.mb (nmOf T fn.gs i)=some r from(G.keyed _ h3).trans h2]
    exact wpAny_pure (h r hrep)
structure ExcOk(T:Tabs)(K:Frag)(a:Addr)(nw na:Nat):Prop where
  obj:IsExc K a
  sa:findIn K (.ref a) "__setattr__"=some (some (.builtin "object.__setattr__"))
  w:findIn K (.ref a) (T.nm nw)=some none
  at_:findIn K (.ref a) (T.nm na)=some none
theorem IsExc.cls{K:Frag}{a:Addr}(x:IsExc K a): ∃cd M,clsIn K a=some cd∧cd.mro=excMro a M∧cd.hasDict=true:=by
  obtain⟨nm,q,N,bs,M,sn,sub,ab,col,dd,k0,k1,k2,k3,k5,h⟩:=x
  exact⟨_,M,by unfold clsIn;rw [h],rfl,rfl⟩
theorem raw_store{K:Nat→List V→Sg→R V}{a e u:Addr}{i x j:Nat}{p q r p':Pos}{s:Shared}{m:Str→Option Value}{v:Value}{dct:Option (Addr×List DictEntry×Nat)}{Q:Flow→Shared→Prop}{X:Value→Shared→Prop}
    (hc: ∀i,C.cel i=none) (hi:i<fn.ns.length) (hj:j<fn.ns.length) (hN:s.heap.Ns C.env.locals m) (he0:m (nmOf T fn.ns i)=some (.ref e)) (hv:m (nmOf T fn.ns j)=some v) (KI:G.K.In s.heap) (XO:IsExc G.K a) (ht:findIn G.K (.ref a) (T.nm x)=some none)
    (hsa:findIn G.K (.ref a) "__setattr__"=some (some (.builtin "object.__setattr__"))) (he:s.heap.get? e=some (excObj a u (dct.map (·.1))))
    (hdc: ∀d es n,dct=some (d,es,n)→d≠e∧s.heap.get? d=some (dictOf es n)∧es.any (·.refKey)=false∧es.length≤10)
    (h: ∀h' d es n tk,h'.get? e=some (excObj a u (some d))→d≠e→h'.get? d=some (dictOf es n)→es.any (·.refKey)=false→es.length≤(dct.elim 0 (·.2.1.length))+1→
      (∀b o,b≠e→(∀d₀ es n,dct=some (d₀,es,n)→b≠d₀)→s.heap.get? b=some o→h'.get? b=some o)→(dct=none→s.heap.get? d=none)→(∀d₀ es n,dct=some (d₀,es,n)→d=d₀)→Q .next {s with heap:=h',toks:=tk}):
    wpAny (model PW G.w) C.A (exec (erS T fn (.asg (.attr (.loc i p) x q) (.loc j r) p')) C.env) Q X s:=by
  show wpAny _ _ (exec (.Assign [erT T fn (.attr (.loc i p) x q)] (erE T fn (.loc j r)) p') C.env) _ _ _
  refine wpAny_Assign_stores (raw_loc (hc j) hj hN hv ?_) rfl rfl
  rw [er_target]
  show wpAny _ _ (assign (.Attribute (erE T fn (.loc i p)) (T.nm x) q) C.env v) _ _ _
  rw [arm_assign_Attribute]
  refine wpAny_bind (wpAny_holding (raw_loc (hc i) hi hN he0 ?_))
  obtain⟨cd,M,h1,h2,h3⟩:=XO.cls
  refine wpAny_bind (wpAny_standAt (wpAny_bind (wpAny_holding (xs_set KI h1 h2 h3 ht hsa he hdc fun h' d es n tk a1 a2 a3 a4 a5 a6 a7 a8=>?_))))
  exact PyProof.Rows.wpAny_release' (h h' d es n tk a1 a2 a3 a4 a5 a6 a7 a8)
end
end Mine
namespace Mine
section
variable {G:Gx}
theorem mint_mem{P:Params}{ds:List Value}(h: ∀P g,RepL TT P g f_mint.defs ds):ds= [.none] :=by
  obtain⟨r,rs,rfl,h1,h2⟩:=repL_cons.mp (h P ⟨fun _=>none,[],[]⟩)
  rw [rep_none.mp h1,repL_nil.mp h2]
theorem made_exc(O:Okay TT G.K)(X:FnOk TT G.K 104 f_mint)(hdbg: ∀k,(TT.nm k==("__debug__":Str))=false∧(TT.nm k==("__classdict__":Str))=false){c:Nat}(XO:ExcOk TT G.K (TT.clsAddr c) 306 281)
    (hi:findIn G.K (.ref (TT.clsAddr c)) "__init__"=some (some (.ref (TT.fnAddr 104)))) (hfn:typeIn G.K (.ref (TT.fnAddr 104))=some (.type "function")):MakesExc TT G c:=fun A outer E s x tk hfr hh hd hu KI lim nb=>by
  obtain⟨nm,q,N,bs,M,sn,sub,ab,col,dd,k0,k1,k2,k3,k5,hK⟩:=XO.obj
  obtain⟨h,gens,dr,t,os⟩:=s
  have hC:=KI _ _ hK
  have hb1:([.ref M,.type "Exception",.type "BaseException",.type "object"] :List Value).contains (.type "Exception")=true:=by simp
  have hb2:([.ref M,.type "Exception",.type "BaseException",.type "object"] :List Value).contains (.type "AttributeError")=false:=by simp
  have hb3:([.ref M,.type "Exception",.type "BaseException",.type "object"] :List Value).contains (.type "NameError")=false:=by simp
  refine xc_call KI hb1 hb2 hb3 hC hi hfn (fun h₁ e hm=>?_) (by simp [sizeLine_eq])
  obtain⟨u,he,-,-⟩:=hm.there
  have ne_of: ∀b o,h.get? b=some o→b≠e:=fun b o eb q=>by rw [q,hm.new] at eb;cases eb
  have KI₁:=KI.keeps hm.keeps
  have lim₁:=lim.keeps hm.keeps
  have nb₁:=nb.keeps hm.keeps
  have hfr':(A.under (.builtin "type.__call__" ⟨.ref (TT.clsAddr c):: [.str x tk],[]⟩)).frames=some outer:=by simp only [Around.under];rw [pushEnvs_eq,hfr];rfl
  refine wpAny_call (fn_enter (rs:= [.ref e,.str x tk]) O X hdbg hfr' hh (by rw [PyProof.Rows.depth_under_make];omega) KI₁ lim₁ (by show 2≤3;omega) (by show 3≤2+1;omega) fun C ds h₂ tk₂ hds hL hO hcel hns hk hu' hint=>?_)
  obtain rfl:=mint_mem (P:=G.w.params) hds
  have hns':h₂.Ns C.env.locals (fun y=>([(TT.nm 281,Value.none),(TT.nm 306,.str x tk),(TT.nm 269,.ref e)] :List (Str×Value)).lookup y):=by rw [hL];exact hns
  have nmne: ∀i j,i≠j→(TT.nm i==TT.nm j)=false:=fun i j h=>beq_eq_false_iff_ne.mpr fun z=>h (O.tab.inj _ _ z)
  have m0:([(TT.nm 281,Value.none),(TT.nm 306,.str x tk),(TT.nm 269,.ref e)] :List (Str×Value)).lookup (nmOf TT f_mint.ns 0)=some (.ref e):=by
    show List.lookup (TT.nm 269) _=_
    rw [List.lookup_cons,nmne 269 281 (by decide),List.lookup_cons,nmne 269 306 (by decide)];simp [List.lookup_cons]
  have m1:([(TT.nm 281,Value.none),(TT.nm 306,.str x tk),(TT.nm 269,.ref e)] :List (Str×Value)).lookup (nmOf TT f_mint.ns 1)=some (.str x tk):=by
    show List.lookup (TT.nm 306) _=_
    rw [List.lookup_cons,nmne 306 281 (by decide)];simp [List.lookup_cons]
  have m2:([(TT.nm 281,Value.none),(TT.nm 306,.str x tk),(TT.nm 269,.ref e)] :List (Str×Value)).lookup (nmOf TT f_mint.ns 2)=some .none:=by
    show List.lookup (TT.nm 281) _=_
    simp [List.lookup_cons]
  have KI₂:=KI₁.keeps hk
  have nb₂:=nb₁.keeps hk
  have he₂:=hk _ _ he
  have neL:C.env.locals≠e:=fun z=>by
    have:=none_size h₁
    rw [←hL,z] at this
    have this:h₁.get? e=none:=this
    rw [he] at this;cases this
  show wpAny _ _ (execs (erSs TT f_mint b_mint) C.env) _ _ _
  refine wpAny_execs_cons ?_
  show wpAny _ _ (exec (.Expr (erE TT f_mint _) _) C.env) _ _ _
  refine wpAny_Expr (meth_open (a:= .glob 0 _) (es:= [.loc 0 _,.loc 1 _]) (by simp) (raw_glob (v:= .prim 8) rfl KI₂ nb₂ fun r hr=>?_)) hint rfl
  obtain rfl:=rep_prim.mp (hr G.w.params ⟨fun _=>none,[],[]⟩)
  rw [show TT.nm 302="__init__" from O.tab.init]
  refine xi_getm KI₂ (call_with (es:= [.loc 0 _,.loc 1 _]) (spliced_cons (raw_loc (hcel 0) (by decide) hns' m0 (spliced_cons (raw_loc (hcel 1) (by decide) hns' m1 (spliced_nil ⟨⟨.machine,.inr (.inl rfl),Looks.of_pure rfl⟩,?_⟩))))))
  refine xi_call hb1 (KI₂ _ _ hK) he₂ (by simp [sizeLine_eq]) fun h₃ u' kp he₃=>?_
  have KI₃:G.K.In h₃:=fun a o z=>kp a o (ne_of a o (KI a o z)) (KI₂ a o z)
  have hns₃:h₃.Ns C.env.locals _:=hns'.at' fun o z=>kp _ o neL z
  refine wpAny_execs_cons (raw_store (K:=fun _ _ _=> .stuck) (a:=TT.clsAddr c) (e:=e) (u:=u') (dct:=none) (fun i=>hcel i) (by decide) (by decide) hns₃ m0 m1 KI₃ XO.obj XO.w XO.sa he₃ (fun d es n z=>by cases z) fun h₄ d es n tk₄ a1 a2 a3 a4 a5 a6 a7 a8=>?_)
  have d3:=a7 rfl
  have neD: ∀b o,h₃.get? b=some o→b≠d:=fun b o eb z=>by
    have d3':h₃.get? d=none:=d3
    rw [z,d3'] at eb;cases eb
  have kp4: ∀b o,b≠e→h₃.get? b=some o→h₄.get? b=some o:=fun b o n1 eb=>a6 b o n1 (fun _ _ _ z=>by cases z) eb
  have KI₄:G.K.In h₄:=fun a o z=>kp4 a o (ne_of a o (KI a o z)) (KI₃ a o z)
  have hns₄:h₄.Ns C.env.locals _:=hns₃.at' fun o z=>kp4 _ o neL z
  refine wpAny_execs_cons (raw_store (K:=fun _ _ _=> .stuck) (a:=TT.clsAddr c) (e:=e) (u:=u') (dct:=some (d,es,n)) (fun i=>hcel i) (by decide) (by decide) hns₄ m0 m2 KI₄ XO.obj XO.at_ XO.sa a1 (fun d' es' n' z=>by cases z;exact⟨a2,a3,a4,by simp at a5;omega⟩) fun h₅ d' es' n' tk₅ b1 b2 b3 b4 b5 b6 b7 b8=>?_)
  have all: ∀b o,h.get? b=some o→h₅.get? b=some o:=fun b o eb=>by
    have e2:=hk b o (hm.keeps b o eb)
    have e3:=kp b o (ne_of b o eb) e2
    exact b6 b o (ne_of b o eb) (fun d₀ _ _ z=>by cases z;exact neD b o e3) (kp4 b o (ne_of b o eb) e3)
  exact wpAny_execs_nil ⟨rfl,e,u',some d',h₅,tk₅,rfl,hm.new,all,b1,rfl⟩
end
end Mine
end
section
open PySem PySem.W PyProof.Rows
set_option maxRecDepth 100000
set_option maxHeartbeats 0
namespace Mine.Tp
noncomputable def nthS:List Stmt→Nat→Stmt
  | [],_=> .Pass ⟨0,0,0,0⟩
  |s::_,0=>s
  |_::l,n+1=>nthS l n
noncomputable def stm(i:Nat):Stmt:=nthS (behindTheImports PW) i
noncomputable def sub(s:Stmt)(i:Nat):Stmt:=match s with | .ClassDef _ _ _ b _ _ _ _ _ _ _=>nthS b i |_=>s
noncomputable def lineOf:Stmt→Nat
  | .FunctionDef _ _ _ _ _ _ _ _ _ p=>p.line
  | .ClassDef _ _ _ _ _ _ _ _ _ _ p=>p.line
  |_=>0
noncomputable def nmOf:Stmt→Str
  | .FunctionDef n _ _ _ _ _ _ _ _ _=>n
  | .ClassDef n _ _ _ _ _ _ _ _ _ _=>n
  |_=>""
noncomputable abbrev N:Value:= .none
noncomputable def num(i:Nat):Value:= .int (Int.ofNat i) 0
noncomputable def tupO(l:List Value):Obj:=⟨.type "tuple",none,.seq ⟨l⟩ 0,#[]⟩
noncomputable def fldO(c:Value)(l:List Value):Obj:=⟨c,none,.fields ⟨l⟩,#[]⟩
noncomputable def toksV:List Str→Nat→List Value
  | [],_=> []
  |x::l,t=> .str x t::toksV l (t+1)
noncomputable def cutV(t:Nat):Value:= .str "/claim/cut.py" t
noncomputable def codeO(t:Nat)(nm qn:Str)(line ac f c:Nat)(d:Bool)(tb:Nat)(a b g:Value)(u:Nat):Obj:=
  fldO (.type "code") [.str nm t,.str qn (t+1),cutV (t+2),num line,num ac,num 0,num 0,num f,.ref c,.bool d,num 181,.ref tb,N,a,b,g,num u,num line,cutV (u+1)]
noncomputable def fnO(s:Stmt)(qn:Str)(md df:Value)(c:Nat):Obj:=match s with
  | .FunctionDef n ar b _ _ _ sc _ _ _=>⟨.type "function",none,.func ⟨n,qn,ar,.stmts b,sc,3,[],df,N,N,md,none,.ref c,N,0⟩,#[]⟩
  |_=>tupO []
noncomputable def fnI(s:Stmt)(qn:Str):Obj:=match s with
  | .FunctionDef n ar b _ _ _ sc _ _ _=>⟨N,none,.func ⟨n,qn,ar,.stmts b,sc,0,[],N,N,N,N,none,N,N,0⟩,#[]⟩
  |_=>tupO []
noncomputable def acOf:Stmt→Nat
  | .FunctionDef _ ar _ _ _ _ _ _ _ _=>ar.posonlyargs.length+ar.args.length
  |_=>0
noncomputable def fnB(a t:Nat)(s:Stmt)(qn:Str)(md df:Value)(ns:List Str):List Obj:=
  [tupO [],fldO N [],tupO (toksV ns (t+3)),tupO [],fnI s qn,codeO t (nmOf s) qn (lineOf s) (acOf s) 3 a true (a+1) (.ref (a+2)) (.ref (a+3)) (.ref (a+4)) (t+3+ns.length),fnO s qn md df (a+5)]
noncomputable def fnC(a t:Nat)(s:Stmt)(qn:Str)(md df:Value):List Obj:=
  [tupO [],fldO N [],fnI s qn,codeO t (nmOf s) qn (lineOf s) (acOf s) 3 a true (a+1) N N (.ref (a+2)) (t+3),fnO s qn md df (a+3)]
section
variable (P:Params)
noncomputable def ent(x:Str)(t:Nat)(v:Value):DictEntry:=⟨PyData.keyHash P x,.str x t,v⟩
noncomputable def dictO(l:List DictEntry)(n:Nat):Obj:=⟨.type "dict",none,.dict ⟨l⟩ n,#[]⟩
noncomputable def msE(s:Stmt):List (Nat×Nat)→Nat→List DictEntry→List DictEntry
  | [],_,z=>z
  |(t,f)::l,i,z=>ent P (nmOf (sub s i)) t (.ref f)::msE s l (i+1) z
noncomputable def msT(s:Stmt):List (Nat×Nat)→Nat→List Value
  | [],_=> []
  |(_,f)::l,i=>num (lineOf (sub s i))::num 4:: .ref (f-1)::msT s l (i+1)
noncomputable def clsH(a T:Nat)(s:Stmt)(md:Value)(bs _mro:List Value)(ms:List (Nat×Nat))(e u:Nat)(_st:List Str)(_gs:Nat)(_nw:String):List Obj:=
  [tupO (match bs with | [.type "object"] => [] |_=>bs),fldO (.type "builtin_function_or_method") [.builtin "type.__prepare__",.type "type"],
   dictO (ent P "__module__" (T+7) md::ent P "__qualname__" (T+9) (.str (nmOf s) (T+8))::ent P "__firstlineno__" (T+11) (.int (Int.ofNat (lineOf s)) (T+10))::msE P s ms 0 [ent P "__static_attributes__" u (.ref e)]) (4+ms.length),
   tupO [],fldO N (msT s ms 0),codeO (T+2) (nmOf s) (nmOf s) (lineOf s) 0 0 (a+3) false (a+4) N N N (T+5),
   ⟨.type "frame",none,.plain,#[some (.ref (a+5)),some (.ref 3),some (.ref (a+2)),none,some md,none,some (.ref 0)]⟩]
noncomputable def refsTo(n:Nat):List Nat→List Value
  | [] => []
  |a::l=>if Nat.blt a n=true then .ref a::refsTo n l else refsTo n l
noncomputable def clsT(n:Nat)(sb:List Nat)(a T:Nat)(s:Stmt)(md:Value)(bs mro:List Value)(ms:List (Nat×Nat))(e u:Nat)(st:List Str)(gs:Nat)(nw:String):List Obj:=
  let w:=fun(k:Nat) (t:Nat)=>fldO (.type "getset_descriptor") [.str "__weakref__" t,.ref (e+2),.builtin "ExceptionGroup.__weakref__",N]
  [tupO (toksV st (u-st.length)),
   dictO (ent P "__module__" (T+7) md::ent P "__firstlineno__" (T+11) (.int (Int.ofNat (lineOf s)) (T+10))::msE P s ms 0 (ent P "__static_attributes__" u (.ref e)::
     (match gs with
      |0=> [ent P "__doc__" (u+1) N]
      |1=> [ent P "__weakref__" (u+2) (.ref (e+3)),ent P "__doc__" (u+3) N]
      |_=> [ent P "__dict__" (u+2) (.ref (e+3)),ent P "__weakref__" (u+4) (.ref (e+4)),ent P "__doc__" (u+5) N]))) (2+gs),
   ⟨.type "type",none,.cls ⟨nmOf s,bs,mro,e+1,nmOf s,true,[],refsTo n sb,false,none,false⟩,
     #[(match bs with | [.type "object"] =>none |_=>some (.ref a)),none,some (.str (nmOf s) T),some (.str (nmOf s) (T+8)),some (.builtin nw),some (.bool true)]⟩] ++
  (match gs with
   |0=> []
   |1=> [w 0 (u+1)]
   |_=> [fldO (.type "getset_descriptor") [.str "__dict__" (u+1),.ref (e+2),.builtin "function.__dict__",.builtin "function.__dict__#set"],w 1 (u+3)])++
  [fldO (.type "super") [.ref (e+2),.ref (e+2),.ref (e+2)],fldO (.type "builtin_function_or_method") [.builtin "object.__init_subclass__",.ref (e+2)]]
noncomputable def m164:Value:= .str "__main__" 164
noncomputable def m194:Value:= .str "octetmint.basics" 194
noncomputable def m349:Value:= .str "octetmint.expressions" 349
noncomputable def m741:Value:= .str "octetmint.forms" 741
noncomputable def m751:Value:= .str "octetmint.flags" 751
noncomputable def m974:Value:= .str "octetmint.flow" 974
noncomputable def m984:Value:= .str "octetmint.deeds" 984
noncomputable def m1033:Value:= .str "octetmint.registers" 1033
noncomputable def m1136:Value:= .str "octetmint.machine" 1136
noncomputable def m1443:Value:= .str "octetmint.operands" 1443
noncomputable def m1724:Value:= .str "octetmint.rotates" 1724
noncomputable def m1917:Value:= .str "octetmint.transfers" 1917
noncomputable def m1977:Value:= .str "law_nn0096_01" 1977
noncomputable def ob2(P:Params)(n:Nat):List Obj:=
  let s:=stm 2
  (clsH P 22 196 s m194 [.type "Exception"] [.ref 46,.type "Exception",.type "BaseException",.type "object"] [(216,36),(223,43)] 44 226 ["at","what"] 1 "Exception.__new__")++([tupO [N]] ++(fnB 30 208 (sub s 0) "MintError.__init__" m194 (.ref 29) ["self","what","at"] ++(fnB 37 217 (sub s 1) "MintError.told" m194 N ["self"] ++((clsT P n [59,71,83] 22 196 s m194 [.type "Exception"] [.ref 46,.type "Exception",.type "BaseException",.type "object"] [(216,36),(223,43)] 44 226 ["at","what"] 1 "Exception.__new__")))))
noncomputable def ob3(P:Params)(n:Nat):List Obj:=
  let s:=stm 3
  (clsH P 50 234 s m194 [.ref 46] [.ref 59,.ref 46,.type "Exception",.type "BaseException",.type "object"] [] 57 246 [] 0 "Exception.__new__")++((clsT P n [] 50 234 s m194 [.ref 46] [.ref 59,.ref 46,.type "Exception",.type "BaseException",.type "object"] [] 57 246 [] 0 "Exception.__new__"))
noncomputable def ob4(P:Params)(n:Nat):List Obj:=
  let s:=stm 4
  (clsH P 62 250 s m194 [.ref 46] [.ref 71,.ref 46,.type "Exception",.type "BaseException",.type "object"] [] 69 262 [] 0 "Exception.__new__")++((clsT P n [] 62 250 s m194 [.ref 46] [.ref 71,.ref 46,.type "Exception",.type "BaseException",.type "object"] [] 69 262 [] 0 "Exception.__new__"))
noncomputable def ob5(P:Params)(n:Nat):List Obj:=
  let s:=stm 5
  (clsH P 74 266 s m194 [.ref 46] [.ref 83,.ref 46,.type "Exception",.type "BaseException",.type "object"] [] 81 278 [] 0 "Exception.__new__")++((clsT P n [] 74 266 s m194 [.ref 46] [.ref 83,.ref 46,.type "Exception",.type "BaseException",.type "object"] [] 81 278 [] 0 "Exception.__new__"))
noncomputable def ob16(P:Params)(n:Nat):List Obj:=
  let s:=stm 16
  (clsH P 142 353 s m349 [.type "object"] [.ref 165,.type "object"] [(372,155),(379,162)] 163 381 ["kind"] 2 "object.__new__")++(fnB 149 365 (sub s 0) "Expr.__init__" m349 N ["self","kind"] ++(fnB 156 373 (sub s 1) "Expr.told" m349 N ["self"] ++((clsT P n [193,219,245,271] 142 353 s m349 [.type "object"] [.ref 165,.type "object"] [(372,155),(379,162)] 163 381 ["kind"] 2 "object.__new__"))))
noncomputable def ob17(P:Params)(n:Nat):List Obj:=
  let s:=stm 17
  (clsH P 170 389 s m349 [.ref 165] [.ref 193,.ref 165,.type "object"] [(408,183),(415,190)] 191 418 ["kind","worth"] 0 "object.__new__")++(fnB 177 401 (sub s 0) "Number.__init__" m349 N ["self","worth"] ++(fnB 184 409 (sub s 1) "Number.told" m349 N ["self"] ++((clsT P n [] 170 389 s m349 [.ref 165] [.ref 193,.ref 165,.type "object"] [(408,183),(415,190)] 191 418 ["kind","worth"] 0 "object.__new__"))))
noncomputable def ob18(P:Params)(n:Nat):List Obj:=
  let s:=stm 18
  (clsH P 196 422 s m349 [.ref 165] [.ref 219,.ref 165,.type "object"] [(441,209),(448,216)] 217 451 ["kind","name"] 0 "object.__new__")++(fnB 203 434 (sub s 0) "Symbol.__init__" m349 N ["self","name"] ++(fnB 210 442 (sub s 1) "Symbol.told" m349 N ["self"] ++((clsT P n [] 196 422 s m349 [.ref 165] [.ref 219,.ref 165,.type "object"] [(441,209),(448,216)] 217 451 ["kind","name"] 0 "object.__new__"))))
noncomputable def ob19(P:Params)(n:Nat):List Obj:=
  let s:=stm 19
  (clsH P 222 455 s m349 [.ref 165] [.ref 245,.ref 165,.type "object"] [(475,235),(482,242)] 243 486 ["body","kind","sign"] 0 "object.__new__")++(fnB 229 467 (sub s 0) "Unary.__init__" m349 N ["self","sign","body"] ++(fnB 236 476 (sub s 1) "Unary.told" m349 N ["self"] ++((clsT P n [] 222 455 s m349 [.ref 165] [.ref 245,.ref 165,.type "object"] [(475,235),(482,242)] 243 486 ["body","kind","sign"] 0 "object.__new__"))))
noncomputable def ob20(P:Params)(n:Nat):List Obj:=
  let s:=stm 20
  (clsH P 248 490 s m349 [.ref 165] [.ref 271,.ref 165,.type "object"] [(511,261),(522,268)] 269 527 ["kind","left","right","sign"] 0 "object.__new__")++(fnB 255 502 (sub s 0) "Binary.__init__" m349 N ["self","sign","left","right"] ++(fnB 262 512 (sub s 1) "Binary.told" m349 N ["self","inner","spine","worth","part"] ++((clsT P n [] 248 490 s m349 [.ref 165] [.ref 271,.ref 165,.type "object"] [(511,261),(522,268)] 269 527 ["kind","left","right","sign"] 0 "object.__new__"))))
noncomputable def ob22(P:Params)(n:Nat):List Obj:=
  let s:=stm 22
  (clsH P 281 540 s m349 [.type "object"] [.ref 340,.type "object"] [(563,295),(570,302),(577,309),(584,316),(591,323),(599,330),(607,337)] 338 611 ["minus","plus","worth"] 2 "object.__new__")++([tupO [.str "" 552,.str "" 553]] ++(fnB 289 554 (sub s 0) "Affine.__init__" m349 (.ref 288) ["self","worth","plus","minus"] ++(fnB 296 564 (sub s 1) "Affine.told" m349 N ["self"] ++(fnB 303 571 (sub s 2) "Affine.is_number" m349 N ["self"] ++(fnB 310 578 (sub s 3) "Affine.is_symbol" m349 N ["self"] ++(fnB 317 585 (sub s 4) "Affine.negate" m349 N ["self"] ++(fnB 324 592 (sub s 5) "Affine.add" m349 N ["self","other"] ++(fnB 331 600 (sub s 6) "Affine.places" m349 N ["self","known"] ++((clsT P n [] 281 540 s m349 [.type "object"] [.ref 340,.type "object"] [(563,295),(570,302),(577,309),(584,316),(591,323),(599,330),(607,337)] 338 611 ["minus","plus","worth"] 2 "object.__new__"))))))))))
noncomputable def ob24(P:Params)(n:Nat):List Obj:=
  let s:=stm 24
  (clsH P 350 625 s m349 [.type "object"] [.ref 388,.type "object"] [(644,364),(653,371),(661,378),(671,385)] 386 673 ["equates"] 2 "object.__new__")++([tupO [N]] ++(fnB 358 637 (sub s 0) "Scope.__init__" m349 (.ref 357) ["self","equates"] ++(fnB 365 645 (sub s 1) "Scope.put" m349 N ["self","name","affine"] ++(fnB 372 654 (sub s 2) "Scope.find" m349 N ["self","name"] ++(fnB 379 662 (sub s 3) "Scope.settled" m349 N ["self","affine","left","found"] ++((clsT P n [] 350 625 s m349 [.type "object"] [.ref 388,.type "object"] [(644,364),(653,371),(661,378),(671,385)] 386 673 ["equates"] 2 "object.__new__")))))))
noncomputable def ob46(P:Params)(n:Nat):List Obj:=
  let s:=stm 46
  (clsH P 443 769 s m751 [.type "object"] [.ref 515,.type "object"] [(787,456),(794,463),(802,470),(810,477),(818,484),(825,491),(834,498),(846,505),(853,512)] 513 861 ["af","cf","df","of","pf","sf","zf"] 2 "object.__new__")++(fnB 450 781 (sub s 0) "Flags.__init__" m751 N ["self"] ++(fnB 457 788 (sub s 1) "Flags.told" m751 N ["self"] ++(fnB 464 795 (sub s 2) "Flags.pack" m751 N ["self","low"] ++(fnB 471 803 (sub s 3) "Flags.unpack" m751 N ["self","number"] ++(fnB 478 811 (sub s 4) "Flags.unpack_low" m751 N ["self","octet"] ++(fnB 485 819 (sub s 5) "Flags.copy" m751 N ["self"] ++(fnB 492 826 (sub s 6) "Flags.get" m751 N ["self","name","names"] ++(fnB 499 835 (sub s 7) "Flags.put" m751 N ["self","name","worth","spots","spot","number"] ++(fnB 506 847 (sub s 8) "Flags.show" m751 N ["self"] ++((clsT P n [] 443 769 s m751 [.type "object"] [.ref 515,.type "object"] [(787,456),(794,463),(802,470),(810,477),(818,484),(825,491),(834,498),(846,505),(853,512)] 513 861 ["af","cf","df","of","pf","sf","zf"] 2 "object.__new__")))))))))))
noncomputable def ob70(P:Params)(n:Nat):List Obj:=
  let s:=stm 70
  (clsH P 625 1043 s m1033 [.type "object"] [.ref 676,.type "object"] [(1065,638),(1072,645),(1079,652),(1086,659),(1093,666),(1100,673)] 674 1105 ["kind","name","number","size"] 2 "object.__new__")++(fnB 632 1055 (sub s 0) "Register.__init__" m1033 N ["self","name","kind","number","size"] ++(fnB 639 1066 (sub s 1) "Register.code" m1033 N ["self"] ++(fnB 646 1073 (sub s 2) "Register.is_extended" m1033 N ["self"] ++(fnB 653 1080 (sub s 3) "Register.is_high" m1033 N ["self"] ++(fnB 660 1087 (sub s 4) "Register.needs_rex" m1033 N ["self"] ++(fnB 667 1094 (sub s 5) "Register.told" m1033 N ["self"] ++((clsT P n [] 625 1043 s m1033 [.type "object"] [.ref 676,.type "object"] [(1065,638),(1072,645),(1079,652),(1086,659),(1093,666),(1100,673)] 674 1105 ["kind","name","number","size"] 2 "object.__new__"))))))))
noncomputable def ob77(P:Params)(n:Nat):List Obj:=
  let s:=stm 77
  (clsH P 702 1142 s m1136 [.type "object"] [.ref 791,.type "object"] [(1160,715),(1168,722),(1177,729),(1188,736),(1199,743),(1208,750),(1214,755),(1220,760),(1227,767),(1238,774),(1245,781),(1252,788)] 789 1254 ["held"] 2 "object.__new__")++(fnB 709 1154 (sub s 0) "Memory.__init__" m1136 N ["self"] ++(fnB 716 1161 (sub s 1) "Memory.octet" m1136 N ["self","place"] ++(fnB 723 1169 (sub s 2) "Memory.set_octet" m1136 N ["self","place","octet"] ++(fnB 730 1178 (sub s 3) "Memory.read" m1136 N ["self","place","width","worth","at"] ++(fnB 737 1189 (sub s 4) "Memory.write" m1136 N ["self","place","width","worth","at"] ++(fnB 744 1200 (sub s 5) "Memory.load" m1136 N ["self","place","octets"] ++(fnC 751 1209 (sub s 6) "Memory.octets" m1136 N++(fnC 756 1215 (sub s 7) "Memory.written" m1136 N++(fnB 761 1221 (sub s 8) "Memory.spans" m1136 N ["self"] ++(fnB 768 1228 (sub s 9) "Memory.find" m1136 N ["self","octets","begin","end","place"] ++(fnB 775 1239 (sub s 10) "Memory.copy" m1136 N ["self"] ++(fnB 782 1246 (sub s 11) "Memory.told" m1136 N ["self"] ++((clsT P n [] 702 1142 s m1136 [.type "object"] [.ref 791,.type "object"] [(1160,715),(1168,722),(1177,729),(1188,736),(1199,743),(1208,750),(1214,755),(1220,760),(1227,767),(1238,774),(1245,781),(1252,788)] 789 1254 ["held"] 2 "object.__new__"))))))))))))))
noncomputable def ob79(P:Params)(n:Nat):List Obj:=
  let s:=stm 79
  (clsH P 803 1271 s m1136 [.type "object"] [.ref 908,.type "object"] [(1290,816),(1298,823),(1308,830),(1319,837),(1325,842),(1334,849),(1343,856),(1353,863),(1362,870),(1372,877),(1381,884),(1390,891),(1398,898),(1405,905)] 906 1415 ["begin","flags","is_halted","iset","memory","regs","rip","segments","xmm"] 2 "object.__new__")++(fnB 810 1283 (sub s 0) "State.__init__" m1136 N ["self","iset"] ++(fnB 817 1291 (sub s 1) "State.get" m1136 N ["self","register"] ++(fnB 824 1299 (sub s 2) "State.put" m1136 N ["self","register","worth","old"] ++(fnB 831 1309 (sub s 3) "State.put_low" m1136 N ["self","register","size","worth","old"] ++(fnC 838 1320 (sub s 4) "State.registers" m1136 N++(fnB 843 1326 (sub s 5) "State.offset" m1136 N ["self","mem","total"] ++(fnB 850 1335 (sub s 6) "State.place" m1136 N ["self","mem","base"] ++(fnB 857 1344 (sub s 7) "State.size_of" m1136 N ["self","operand","instruction","one"] ++(fnB 864 1354 (sub s 8) "State.read" m1136 N ["self","operand","size"] ++(fnB 871 1363 (sub s 9) "State.write" m1136 N ["self","operand","size","worth"] ++(fnB 878 1373 (sub s 10) "State.push" m1136 N ["self","worth","width"] ++(fnB 885 1382 (sub s 11) "State.pop" m1136 N ["self","width","worth"] ++(fnB 892 1391 (sub s 12) "State.told" m1136 N ["self","bases"] ++(fnB 899 1399 (sub s 13) "State.copy" m1136 N ["self"] ++((clsT P n [] 803 1271 s m1136 [.type "object"] [.ref 908,.type "object"] [(1290,816),(1298,823),(1308,830),(1319,837),(1325,842),(1334,849),(1343,856),(1353,863),(1362,870),(1372,877),(1381,884),(1390,891),(1398,898),(1405,905)] 906 1415 ["begin","flags","is_halted","iset","memory","regs","rip","segments","xmm"] 2 "object.__new__"))))))))))))))))
noncomputable def ob83(P:Params)(n:Nat):List Obj:=
  let s:=stm 83
  (clsH P 927 1445 s m1443 [.type "object"] [.ref 964,.type "object"] [(1464,940),(1471,947),(1478,954),(1485,961)] 962 1487 ["kind"] 2 "object.__new__")++(fnB 934 1457 (sub s 0) "Operand.__init__" m1443 N ["self","kind"] ++(fnB 941 1465 (sub s 1) "Operand.told" m1443 N ["self"] ++(fnB 948 1472 (sub s 2) "Operand.symbol" m1443 N ["self"] ++(fnB 955 1479 (sub s 3) "Operand.registers" m1443 N ["self"] ++((clsT P n [999,1033,1086] 927 1445 s m1443 [.type "object"] [.ref 964,.type "object"] [(1464,940),(1471,947),(1478,954),(1485,961)] 962 1487 ["kind"] 2 "object.__new__"))))))
noncomputable def ob84(P:Params)(n:Nat):List Obj:=
  let s:=stm 84
  (clsH P 969 1495 s m1443 [.ref 964] [.ref 999,.ref 964,.type "object"] [(1514,982),(1521,989),(1528,996)] 997 1530 ["register"] 0 "object.__new__")++(fnB 976 1507 (sub s 0) "Reg.__init__" m1443 N ["self","register"] ++(fnB 983 1515 (sub s 1) "Reg.told" m1443 N ["self"] ++(fnB 990 1522 (sub s 2) "Reg.registers" m1443 N ["self"] ++((clsT P n [] 969 1495 s m1443 [.ref 964] [.ref 999,.ref 964,.type "object"] [(1514,982),(1521,989),(1528,996)] 997 1530 ["register"] 0 "object.__new__")))))
noncomputable def ob85(P:Params)(n:Nat):List Obj:=
  let s:=stm 85
  (clsH P 1002 1534 s m1443 [.ref 964] [.ref 1033,.ref 964,.type "object"] [(1555,1016),(1562,1023),(1569,1030)] 1031 1572 ["name","worth"] 0 "object.__new__")++([tupO [.str "" 1546]] ++(fnB 1010 1547 (sub s 0) "Imm.__init__" m1443 (.ref 1009) ["self","worth","name"] ++(fnB 1017 1556 (sub s 1) "Imm.told" m1443 N ["self"] ++(fnB 1024 1563 (sub s 2) "Imm.symbol" m1443 N ["self"] ++((clsT P n [] 1002 1534 s m1443 [.ref 964] [.ref 1033,.ref 964,.type "object"] [(1555,1016),(1562,1023),(1569,1030)] 1031 1572 ["name","worth"] 0 "object.__new__"))))))
noncomputable def ob86(P:Params)(n:Nat):List Obj:=
  let s:=stm 86
  (clsH P 1036 1576 s m1443 [.ref 964] [.ref 1086,.ref 964,.type "object"] [(1604,1050),(1613,1057),(1620,1064),(1626,1069),(1633,1076),(1640,1083)] 1084 1648 ["base","index","name","scale","segment","size","worth"] 0 "object.__new__")++([tupO [.int 0 1588,.str "" 1589,.str "" 1590]] ++(fnB 1044 1591 (sub s 0) "Mem.__init__" m1443 (.ref 1043) ["self","base","index","scale","worth","size","segment","name"] ++(fnB 1051 1605 (sub s 1) "Mem.told" m1443 N ["self","base","index"] ++(fnB 1058 1614 (sub s 2) "Mem.symbol" m1443 N ["self"] ++(fnC 1065 1621 (sub s 3) "Mem.registers" m1443 N++(fnB 1070 1627 (sub s 4) "Mem.is_rip" m1443 N ["self"] ++(fnB 1077 1634 (sub s 5) "Mem.is_absolute" m1443 N ["self"] ++((clsT P n [] 1036 1576 s m1443 [.ref 964] [.ref 1086,.ref 964,.type "object"] [(1604,1050),(1613,1057),(1620,1064),(1626,1069),(1633,1076),(1640,1083)] 1084 1648 ["base","index","name","scale","segment","size","worth"] 0 "object.__new__")))))))))
noncomputable def ob87(P:Params)(n:Nat):List Obj:=
  let s:=stm 87
  (clsH P 1089 1652 s m1443 [.type "object"] [.ref 1137,.type "object"] [(1674,1103),(1680,1108),(1689,1115),(1697,1122),(1703,1127),(1712,1134)] 1135 1716 ["name","operands","prefix"] 2 "object.__new__")++([tupO [.str "" 1664]] ++(fnB 1097 1665 (sub s 0) "Instruction.__init__" m1443 (.ref 1096) ["self","name","operands","prefix"] ++(fnC 1104 1675 (sub s 1) "Instruction.told" m1443 N++(fnB 1109 1681 (sub s 2) "Instruction.memory_at" m1443 N ["self","at","operand"] ++(fnB 1116 1690 (sub s 3) "Instruction.memory" m1443 N ["self","at"] ++(fnC 1123 1698 (sub s 4) "Instruction.symbols" m1443 N++(fnB 1128 1704 (sub s 5) "Instruction.replaced" m1443 N ["self","at","operand"] ++((clsT P n [] 1089 1652 s m1443 [.type "object"] [.ref 1137,.type "object"] [(1674,1103),(1680,1108),(1689,1115),(1697,1122),(1703,1127),(1712,1134)] 1135 1716 ["name","operands","prefix"] 2 "object.__new__")))))))))
noncomputable def oc0(P:Params)(n:Nat)(z:List Obj):List Obj:=
  fnB 15 187 (stm 0) "_wall" m164 N ["k"] ++(
  ob2 P n++(
  ob3 P n++(
  ob4 P n++(
  ob5 P n++(
  fnB 86 282 (stm 6) "mask" m194 N ["size"] ++(
  fnB 93 289 (stm 7) "wrap" m194 N ["worth","size"] ++(
  fnB 100 297 (stm 8) "signed" m194 N ["worth","size","low"] ++(
  fnB 107 306 (stm 9) "fits_signed" m194 N ["worth","size","half"] ++(
  fnB 114 315 (stm 10) "extended" m194 N ["worth","size","wide"] ++(
  fnB 121 324 (stm 11) "bit" m194 N ["worth","n"] ++(
  fnB 128 332 (stm 12) "ones" m194 N ["worth","size","rest","count"] ++(
  z))))))))))))
noncomputable def oc1(P:Params)(n:Nat)(z:List Obj):List Obj:=
  fnB 135 342 (stm 13) "parity" m194 N ["worth"] ++(
  ob16 P n++(
  ob17 P n++(
  ob18 P n++(
  ob19 P n++(
  ob20 P n++(
  fnB 274 531 (stm 21) "left_spine" m349 N ["node","spine","inner"] ++(
  ob22 P n++(
  fnC 345 619 (stm 23) "affine_of" m349 N++(
  ob24 P n++(
  fnB 393 681 (stm 25) "quotient" m349 N ["one","other"] ++(
  fnB 400 690 (stm 27) "shifted" m349 N ["sign","one","count"] ++(
  z))))))))))))
noncomputable def oc2(P:Params)(n:Nat)(z:List Obj):List Obj:=
  fnB 407 700 (stm 29) "reckoned" m349 N ["sign","one","other"] ++(
  fnB 414 709 (stm 30) "combined" m349 N ["sign","left","right"] ++(
  fnB 421 719 (stm 32) "turned" m349 N ["sign","affine"] ++(
  [tupO [.str "" 727]] ++(fnB 429 728 (stm 33) "evaluate" m349 (.ref 428) ["node","scope","here","inner","spine","worth","part"])++(
  fnB 436 745 (stm 36) "condition_names" m741 N [] ++(
  ob46 P n++(
  fnB 520 869 (stm 47) "condition_number" m751 N ["condition"] ++(
  fnB 527 876 (stm 48) "holds_number" m751 N ["flags","number","pair","truth"] ++(
  fnB 534 886 (stm 49) "holds" m751 N ["flags","condition"] ++(
  fnB 541 894 (stm 50) "szp" m751 N ["flags","result","size","told"] ++(
  fnB 548 904 (stm 51) "add_flags" m751 N ["flags","a","b","carry","size","one","two","total","result"] ++(
  fnB 555 919 (stm 52) "sub_flags" m751 N ["flags","a","b","borrow","size","one","two","rest","result"] ++(
  z))))))))))))
noncomputable def oc3(P:Params)(n:Nat)(z:List Obj):List Obj:=
  fnB 562 934 (stm 53) "logic_flags" m751 N ["flags","result","size"] ++(
  fnB 569 943 (stm 54) "inc_flags" m751 N ["flags","a","size","kept","result"] ++(
  fnB 576 954 (stm 55) "dec_flags" m751 N ["flags","a","size","kept","result"] ++(
  fnB 583 965 (stm 56) "neg_flags" m751 N ["flags","a","size"] ++(
  fnB 590 976 (stm 58) "condition_of" m974 N ["name","stem"] ++(
  fnB 597 986 (stm 60) "combined" m984 N ["flags","name","a","b","size"] ++(
  fnB 604 998 (stm 62) "two_deed" m984 N ["state","instruction","target","source","size","a","b","result"] ++(
  fnB 611 1012 (stm 63) "one_deed" m984 N ["state","instruction","target","size","a","result"] ++(
  fnB 618 1024 (stm 64) "set_deed" m984 N ["state","instruction","truth"] ++(
  ob70 P n++(
  fnB 681 1113 (stm 71) "early_names" m1033 N ["size"] ++(
  fnB 688 1120 (stm 72) "late_ending" m1033 N ["size"] ++(
  z))))))))))))
noncomputable def oc4(P:Params)(n:Nat)(z:List Obj):List Obj:=
  fnB 695 1127 (stm 73) "gpr" m1033 N ["number","size","names"] ++(
  ob77 P n++(
  fnB 796 1262 (stm 78) "joined" m1136 N ["old","worth","size"] ++(
  ob79 P n++(
  fnB 913 1423 (stm 80) "done" m1136 N ["state","instruction","deeds","deed"] ++(
  fnB 920 1433 (stm 81) "perform" m1136 N ["state","rows","deeds","instruction"] ++(
  ob83 P n++(
  ob84 P n++(
  ob85 P n++(
  ob86 P n++(
  ob87 P n++(
  fnB 1142 1734 (stm 93) "masked_count" m1724 N ["count","size"] ++(
  z))))))))))))
noncomputable def oc5(P:Params)(n:Nat)(z:List Obj):List Obj:=
  fnB 1149 1742 (stm 94) "shifted" m1724 N ["name","worth","count","size","result","carry","whole"] ++(
  fnB 1156 1756 (stm 96) "turned_left" m1724 N ["worth","turn","size"] ++(
  fnB 1163 1765 (stm 97) "rotated" m1724 N ["name","worth","count","size","turn","result","carry"] ++(
  fnB 1170 1778 (stm 98) "rotated_through" m1724 N ["name","worth","carry","count","size","wide","turn","whole","result","out"] ++(
  fnB 1177 1794 (stm 99) "product" m1724 N ["one","other","size","is_signed","whole","is_wide"] ++(
  fnB 1184 1806 (stm 100) "quotient" m1724 N ["number","divisor","size","is_signed","whole","part","found"] ++(
  fnB 1191 1820 (stm 102) "clear_flags" m1724 N ["flags"] ++(
  fnB 1198 1827 (stm 103) "count_told" m1724 N ["state","operand","size","worth"] ++(
  fnB 1205 1837 (stm 104) "shift_deed" m1724 N ["state","instruction","name","target","size","count","worth","result","carry","over"] ++(
  fnB 1212 1853 (stm 105) "lay_wide" m1724 N ["flags","is_wide"] ++(
  fnB 1219 1861 (stm 106) "put_halves" m1724 N ["state","low","high","size"] ++(
  fnB 1226 1871 (stm 107) "halves" m1724 N ["state","size"] ++(
  z))))))))))))
noncomputable def oc6(P:Params)(n:Nat)(z:List Obj):List Obj:=
  fnB 1233 1879 (stm 108) "product_deed" m1724 N ["state","instruction","operands","size","one","low","high","is_wide","other"] ++(
  fnB 1240 1894 (stm 109) "quotient_deed" m1724 N ["state","instruction","operand","size","low","high"] ++(
  fnB 1247 1906 (stm 110) "conversion_deed" m1724 N ["state","name","size","small","worth"] ++(
  fnB 1254 1923 (stm 114) "exchange" m1917 N ["state","one","other","size","first","second"] ++(
  fnB 1261 1935 (stm 115) "move_deed" m1917 N ["state","instruction","name","one","other","size"] ++(
  fnB 1268 1947 (stm 116) "push_operand" m1917 N ["state","instruction","one","size"] ++(
  fnB 1275 1957 (stm 117) "pop_operand" m1917 N ["state","instruction","one","size","worth"] ++(
  fnB 1282 1968 (stm 118) "stack_deed" m1917 N ["state","instruction","name"] ++(
  fnC 1289 1979 (stm 120) "_law_pen" m1977 N++(
  fnB 1294 1985 (stm 121) "_law_draw" m1977 N ["pen","many","digit","spot","cell","great","mixed"] ++(
  fnB 1301 1998 (stm 122) "_law_pick" m1977 N ["pen","some"] ++(
  fnB 1308 2006 (stm 123) "_law_worth" m1977 N ["pen","way"] ++(
  z))))))))))))
noncomputable def oc7(P:Params)(n:Nat)(z:List Obj):List Obj:=
  fnB 1315 2014 (stm 124) "_law_reg" m1977 N ["number"] ++(
  fnB 1322 2021 (stm 125) "_law_do" m1977 N ["name","operands"] ++(
  fnB 1329 2029 (stm 126) "_law_fits" m1977 N ["worth"] ++(
  fnB 1336 2036 (stm 127) "_law_number" m1977 N ["worth"] ++(
  fnB 1343 2043 (stm 128) "_law_leaf" m1977 N ["pen","known","way","spot"] ++(
  fnB 1350 2053 (stm 129) "_law_ahead" m1977 N ["sign","body","node","worth","rows","due"] ++(
  fnB 1357 2065 (stm 130) "_law_sign" m1977 N ["sign","left","right","is_right"] ++(
  fnB 1364 2075 (stm 131) "_law_due" m1977 N ["sign","left","right","found","both"] ++(
  fnB 1371 2086 (stm 132) "_law_rows" m1977 N ["sign","rows","names"] ++(
  fnB 1378 2095 (stm 133) "_law_between" m1977 N ["sign","left","right","rows"] ++(
  fnB 1385 2105 (stm 134) "_law_tree" m1977 N ["pen","known","depth","way","sign","first"] ++(
  fnB 1392 2117 (stm 135) "_law_state" m1977 N ["known","home","state","number","spot"] ++(
  z))))))))))))
noncomputable def oc8(P:Params)(n:Nat)(z:List Obj):List Obj:=
  fnB 1399 2128 (stm 136) "_law_deed" m1977 N ["state","row"] ++(
  fnB 1406 2136 (stm 137) "_law_heard" m1977 N ["ask"] ++(
  fnC 1413 2143 (stm 138) "law" m1977 N++(
  z)))
noncomputable def obs(P:Params)(n:Nat):List Obj:=oc0 P n (oc1 P n (oc2 P n (oc3 P n (oc4 P n (oc5 P n (oc6 P n (oc7 P n (oc8 P n []))))))))
noncomputable def r3(x:Str)(t:Nat)(v:Value):Str×Nat×Value:=(x,t,v)
noncomputable def rows:List (Str×Nat×Value):= [r3 "_wall" 193 (.ref 21),r3 "MintError" 233 (.ref 46),r3 "OperandError" 249 (.ref 59),r3 "SymbolError" 265 (.ref 71),r3 "MachineError" 281 (.ref 83),r3 "mask" 288 (.ref 92),r3 "wrap" 296 (.ref 99),r3 "signed" 305 (.ref 106),r3 "fits_signed" 314 (.ref 113),r3 "extended" 323 (.ref 120),r3 "bit" 331 (.ref 127),r3 "ones" 341 (.ref 134),r3 "parity" 348 (.ref 141),r3 "MOST_SHIFT" 352 (.int 63 351),r3 "Expr" 388 (.ref 165),r3 "Number" 421 (.ref 193),r3 "Symbol" 454 (.ref 219),r3 "Unary" 489 (.ref 245),r3 "Binary" 530 (.ref 271),r3 "left_spine" 539 (.ref 280),r3 "Affine" 618 (.ref 340),r3 "affine_of" 624 (.ref 349),r3 "Scope" 680 (.ref 388),r3 "quotient" 688 (.ref 1190),r3 "quotient_expressions" 689 (.ref 399),r3 "shifted" 698 (.ref 1155),r3 "shifted_expressions" 699 (.ref 406),r3 "reckoned" 708 (.ref 413),r3 "combined" 717 (.ref 603),r3 "combined_expressions" 718 (.ref 420),r3 "turned" 726 (.ref 427),r3 "evaluate" 740 (.ref 435),r3 "CONDITIONS" 744 (.str "o no b ae e ne be a s ns p np l ge le g" 743),r3 "condition_names" 750 (.ref 442),r3 "CF" 754 (.int 0 753),r3 "PF" 756 (.int 2 755),r3 "AF" 758 (.int 4 757),r3 "ZF" 760 (.int 6 759),r3 "SF" 762 (.int 7 761),r3 "DF" 764 (.int 10 763),r3 "OF" 766 (.int 11 765),r3 "FLAG_NAMES" 768 (.str "cf pf af zf sf of df" 767),r3 "Flags" 868 (.ref 515),r3 "condition_number" 875 (.ref 526),r3 "holds_number" 885 (.ref 533),r3 "holds" 893 (.ref 540),r3 "szp" 903 (.ref 547),r3 "add_flags" 918 (.ref 554),r3 "sub_flags" 933 (.ref 561),r3 "logic_flags" 942 (.ref 568),r3 "inc_flags" 953 (.ref 575),r3 "dec_flags" 964 (.ref 582),r3 "neg_flags" 973 (.ref 589),r3 "condition_of" 983 (.ref 596),r3 "combined_deeds" 997 (.ref 603),r3 "two_deed" 1011 (.ref 610),r3 "one_deed" 1023 (.ref 617),r3 "set_deed" 1032 (.ref 624),r3 "NAMES_8" 1036 (.str "al cl dl bl spl bpl sil dil" 1035),r3 "NAMES_16" 1038 (.str "ax cx dx bx sp bp si di" 1037),r3 "NAMES_32" 1040 (.str "eax ecx edx ebx esp ebp esi edi" 1039),r3 "NAMES_64" 1042 (.str "rax rcx rdx rbx rsp rbp rsi rdi" 1041),r3 "Register" 1112 (.ref 676),r3 "early_names" 1119 (.ref 687),r3 "late_ending" 1126 (.ref 694),r3 "gpr" 1135 (.ref 701),r3 "STACK" 1139 (.int 4 1138),r3 "TRAPS" 1141 (.str "ud2 int int3 syscall cpuid" 1140),r3 "Memory" 1261 (.ref 791),r3 "joined" 1270 (.ref 802),r3 "State" 1422 (.ref 908),r3 "done" 1432 (.ref 919),r3 "perform" 1442 (.ref 926),r3 "Operand" 1494 (.ref 964),r3 "Reg" 1533 (.ref 999),r3 "Imm" 1575 (.ref 1033),r3 "Mem" 1651 (.ref 1086),r3 "Instruction" 1723 (.ref 1137),r3 "SHIFTS" 1727 (.str "shl shr sar" 1726),r3 "ROTATES" 1729 (.str "rol ror" 1728),r3 "CONVERSIONS" 1731 (.str "cbw cwde cdqe" 1730),r3 "SPREADS" 1733 (.str "cwd cdq cqo" 1732),r3 "masked_count" 1741 (.ref 1148),r3 "shifted_rotates" 1755 (.ref 1155),r3 "turned_left" 1764 (.ref 1162),r3 "rotated" 1777 (.ref 1169),r3 "rotated_through" 1793 (.ref 1176),r3 "product" 1805 (.ref 1183),r3 "quotient_rotates" 1819 (.ref 1190),r3 "clear_flags" 1826 (.ref 1197),r3 "count_told" 1836 (.ref 1204),r3 "shift_deed" 1852 (.ref 1211),r3 "lay_wide" 1860 (.ref 1218),r3 "put_halves" 1870 (.ref 1225),r3 "halves" 1878 (.ref 1232),r3 "product_deed" 1893 (.ref 1239),r3 "quotient_deed" 1905 (.ref 1246),r3 "conversion_deed" 1916 (.ref 1253),r3 "RSP" 1920 (.int 4 1919),r3 "RBP" 1922 (.int 5 1921),r3 "exchange" 1934 (.ref 1260),r3 "move_deed" 1946 (.ref 1267),r3 "push_operand" 1956 (.ref 1274),r3 "pop_operand" 1967 (.ref 1281),r3 "stack_deed" 1976 (.ref 1288),r3 "_law_pen" 1984 (.ref 1293),r3 "_law_draw" 1997 (.ref 1300),r3 "_law_pick" 2005 (.ref 1307),r3 "_law_worth" 2013 (.ref 1314),r3 "_law_reg" 2020 (.ref 1321),r3 "_law_do" 2028 (.ref 1328),r3 "_law_fits" 2035 (.ref 1335),r3 "_law_number" 2042 (.ref 1342),r3 "_law_leaf" 2052 (.ref 1349),r3 "_law_ahead" 2064 (.ref 1356),r3 "_law_sign" 2074 (.ref 1363),r3 "_law_due" 2085 (.ref 1370),r3 "_law_rows" 2094 (.ref 1377),r3 "_law_between" 2104 (.ref 1384),r3 "_law_tree" 2116 (.ref 1391),r3 "_law_state" 2127 (.ref 1398),r3 "_law_deed" 2135 (.ref 1405),r3 "_law_heard" 2142 (.ref 1412),r3 "law" 2148 (.ref 1417)]
noncomputable def codes:List (Nat×Nat):= [(1,20),(5,27),(16,55),(18,67),(20,79),(22,91),(24,98),(26,105),(31,112),(34,119),(36,126),(38,133),(45,140),(49,147),(56,175),(64,201),(72,227),(81,253),(95,279),(103,286),(127,348),(138,355),(161,398),(168,405),(175,412),(189,419),(198,426),(206,434),(223,441),(234,448),(283,525),(287,532),(306,539),(308,546),(314,553),(322,560),(330,567),(335,574),(340,581),(345,588),(348,595),(354,602),(369,609),(376,616),(389,623),(397,630),(419,686),(429,693),(437,700),(447,707),(491,801),(495,808),(591,918),(601,925),(605,932),(618,974),(629,1007),(641,1041),(669,1094),(699,1147),(701,1154),(712,1161),(714,1168),(723,1175),(733,1182),(741,1189),(756,1196),(759,1203),(762,1210),(782,1217),(786,1224),(792,1231),(796,1238),(810,1245),(816,1252),(828,1259),(835,1266),(851,1273),(855,1280),(860,1287),(877,1292),(879,1299),(896,1306),(898,1313),(903,1320),(905,1327),(907,1334),(909,1341),(911,1348),(919,1355),(932,1362),(939,1369),(951,1376),(959,1383),(964,1390),(976,1397),(984,1404),(1000,1411),(1006,1416)]
noncomputable def olds:Nat→Nat
  |688=>399
  |698=>406
  |_=>420
noncomputable def rowsE(n:Nat):Nat→List (Str×Nat×Value)→List DictEntry
  |0,_=> []
  |_,[] => []
  |m+1,(x,t,v)::l=>ent P x t (match v with | .ref a=>if Nat.blt a n=true then v else .ref (olds t)|_=>v)::rowsE n m l
noncomputable def codesE(n:Nat):List (Nat×Nat)→List Value
  | [] => []
  |(l,a)::r=>if Nat.blt a n=true then num l::num 0:: .ref a::codesE n r else codesE n r
noncomputable def mainO(n:Nat)(mn:Value)(m:Nat):Obj:=match boot_o_3 P with
  |⟨c,d,.dict ⟨⟨h,k,_⟩::l⟩ _,s⟩=>⟨c,d,.dict ⟨⟨h,k,mn⟩::(l++rowsE P n (m-9) rows)⟩ m,s⟩
  |o=>o
noncomputable def subsO(n:Nat):Obj:=if Nat.blt n 46=true then boot_o_2 P else⟨N,none,.dict ⟨[ent P "type.__subclasses__.Exception.0" 230 (.int 46 0),ent P "type.__subclasses__.Exception.n" 231 (.int 1 0)]⟩ 2,#[]⟩
noncomputable def alt:List Obj→Bool→List Obj
  | [],_=> []
  |o::l,true=>o::alt l false
  |_::l,false=>alt l true
noncomputable def build:Nat→List Obj→BT
  |0,_=> .nil
  |_,[] => .nil
  |d+1,o::l=> .node o (build d (alt l true)) (build d (alt l false))
noncomputable def upto:Nat→List Obj→List Obj
  |0,_=> []
  |_,[] => []
  |n+1,o::l=>o::upto n l
noncomputable def treeAt(n:Nat)(mn:Value)(m:Nat):BT:=build 11 (upto n ([boot_o_0 P,boot_o_1 P,subsO P n,mainO P n mn m,boot_o_4 P,boot_o_5 P,boot_o_6 P,boot_o_7 P,boot_o_8 P,boot_o_9 P,boot_o_10 P,tupO [],fldO N (codesE n codes),
  codeO 182 "<module>" "<module>" 1 0 0 11 false 12 N N N 185,⟨.type "frame",none,.plain,#[some (.ref 13),some (.ref 3),some (.ref 3),none,some m164,none,some (.ref 0)]⟩] ++obs P n))
end
noncomputable def sl(i n:Nat):List Stmt:=((behindTheImports PW).drop i).take n
noncomputable def topEnv:Env:={scope:=PW.main.scope,locals:=mainNs,globals:=mainNs,cells:= [],code:= .ref 13,frame:=some 14}
theorem fast_seg: @segRunT treeTable=PySem.W.Fast.tw10110043849684766642 PySem.W.Fast.tw14364793385576792824:=by rw [←PySem.W.Fast.te10110043849684766642,←PySem.W.Fast.te14364793385576792824]
noncomputable def Seg(N:Nat)(t:Params→BT)(n k:Nat)(p:Pos)(l:List Stmt)(t':Params→BT)(n' k':Nat)(p':Pos):Prop:=
  ∀ w:World,(fun(q:Program) (b:List Stmt) (os:OsState)=>segRunT treeTable q w 11 (some (.ref 6)) 1 N ⟨t w.params,n,{},⟨[]⟩,{},k,os⟩ (piecesOf l topEnv (Code.body b topEnv) p [topFrame ⟨0,0,0,0⟩]))
    =fun _ b os=>some (Flow.next,⟨t' w.params,n',{},⟨[]⟩,{},k',os⟩,Code.body b topEnv,p')
noncomputable def tr0(P:Params):BT:=treeAt P 15 m164 9
noncomputable def tr1(P:Params):BT:=treeAt P 142 m349 23
noncomputable def tr2(P:Params):BT:=treeAt P 248 m349 27
noncomputable def tr3(P:Params):BT:=treeAt P 428 m349 40
noncomputable def tr4(P:Params):BT:=treeAt P 625 m1033 71
noncomputable def tr5(P:Params):BT:=treeAt P 803 m1136 79
noncomputable def tr6(P:Params):BT:=treeAt P 969 m1443 83
noncomputable def tr7(P:Params):BT:=treeAt P 1089 m1443 86
noncomputable def tr8(P:Params):BT:=treeAt P 1308 m1977 117
noncomputable def topTree(P:Params):BT:=treeAt P 1418 m1977 133
theorem seg0:Seg 1201 tr0 15 187 ⟨0,0,0,0⟩ (sl 0 16) tr1 142 353 ⟨48,0,48,10⟩:=by intro w;rw [fast_seg];kernel_rfl
theorem seg1:Seg 1087 tr1 142 353 ⟨48,0,48,10⟩ (sl 16 4) tr2 248 490 ⟨72,0,80,53⟩:=by intro w;rw [fast_seg];kernel_rfl
theorem seg2:Seg 1265 tr2 248 490 ⟨72,0,80,53⟩ (sl 20 13) tr3 428 727 ⟨198,0,205,48⟩:=by intro w;rw [fast_seg];kernel_rfl
theorem seg3:Seg 1212 tr3 428 727 ⟨198,0,205,48⟩ (sl 33 37) tr4 625 1043 ⟨396,0,396,8⟩:=by intro w;rw [fast_seg];kernel_rfl
theorem seg4:Seg 1104 tr4 625 1043 ⟨396,0,396,8⟩ (sl 70 9) tr5 803 1271 ⟨491,0,494,40⟩:=by intro w;rw [fast_seg];kernel_rfl
theorem seg5:Seg 1044 tr5 803 1271 ⟨491,0,494,40⟩ (sl 79 5) tr6 969 1495 ⟨605,0,617,17⟩:=by intro w;rw [fast_seg];kernel_rfl
theorem seg6:Seg 1034 tr6 969 1495 ⟨605,0,617,17⟩ (sl 84 3) tr7 1089 1652 ⟨641,0,668,17⟩:=by intro w;rw [fast_seg];kernel_rfl
theorem seg7:Seg 1272 tr7 1089 1652 ⟨641,0,668,17⟩ (sl 87 36) tr8 1308 2006 ⟨896,0,897,42⟩:=by intro w;rw [fast_seg];kernel_rfl
theorem seg8:Seg 494 tr8 1308 2006 ⟨896,0,897,42⟩ (sl 123 16) topTree 1418 2149 ⟨1006,0,1033,55⟩:=by intro w;rw [fast_seg];kernel_rfl
end Mine.Tp
end
section
open PySem PySem.Calls PySem.W PyProof.Rows
set_option maxRecDepth 100000
set_option genInjectivity false
set_option genSizeOf false
set_option backward.match.sparseCases false
namespace Mine
noncomputable def rNone:Value→Bool | .none=>true |_=>false
noncomputable def rBool(b:Bool):Value→Bool | .bool c=>b==c |_=>false
noncomputable def rInt(i:Int):Value→Bool | .int j _=>i==j |_=>false
noncomputable def rStr(s:Str):Value→Bool | .str t _=>s==t |_=>false
noncomputable def rRef(a:Nat):Value→Bool | .ref b=>Nat.beq a b |_=>false
noncomputable def rBt(s:String):Value→Bool | .builtin t=>s==t |_=>false
noncomputable def rTy(s:String):Value→Bool | .type t=>s==t |_=>false
noncomputable def primC(p:Nat)(r:Value):Bool:=match primVal p with
  | .builtin s=>rBt s r
  | .type s=>rTy s r
  |_=>false
noncomputable def repC(T:Tabs)(v:V)(r:Value):Bool:=match v with
  | .none=>rNone r
  | .bool b=>rBool b r
  | .int i=>rInt i r
  | .str x=>rStr (T.nm x) r
  | .fn f=>rRef (T.fnAddr f) r
  | .cls c=>rRef (T.clsAddr c) r
  | .prim p=>primC p r
  |_=>false
noncomputable def repsC(T:Tabs):List V→List Value→Bool
  | [],rs=>rs.isEmpty
  | v::vs,rs=>match rs with
    | [] =>false
    |r::rs=>repC T v r&&repsC T vs rs
theorem rNone_eq{r:Value}(h:rNone r=true):r= .none:=by cases r<;>first |rfl |exact no_true h
theorem rBool_eq{b:Bool}{r:Value}(h:rBool b r=true):r= .bool b:=by cases r<;>first |exact no_true h |rw [←beq_iff_eq.mp h]
theorem rInt_eq{i:Int}{r:Value}(h:rInt i r=true): ∃t,r= .int i t:=by cases r<;>first |exact no_true h |exact⟨_,by rw [beq_iff_eq.mp h]⟩
theorem rStr_eq{s:Str}{r:Value}(h:rStr s r=true): ∃t,r= .str s t:=by cases r<;>first |exact no_true h |exact⟨_,by rw [beq_iff_eq.mp h]⟩
theorem rRef_eq{a:Nat}{r:Value}(h:rRef a r=true):r= .ref a:=by cases r<;>first |exact no_true h |rw [←Nat.eq_of_beq_eq_true h]
theorem rBt_eq{s:String}{r:Value}(h:rBt s r=true):r= .builtin s:=by cases r<;>first |exact no_true h |rw [←beq_iff_eq.mp h]
theorem rTy_eq{s:String}{r:Value}(h:rTy s r=true):r= .type s:=by cases r<;>first |exact no_true h |rw [←beq_iff_eq.mp h]
theorem primC_eq{p:Nat}{r:Value}(h:primC p r=true):r=primVal p:=by
  unfold primC at h
  generalize primVal p=q at h ⊢
  cases q<;>first |exact no_true h |exact rBt_eq h |exact rTy_eq h
theorem repC_rep{T:Tabs}{P:Params}{g:Gh}{v:V}{r:Value}(h:repC T v r=true):Rep T P g v r:=by
  cases v with
  |none=>rw [rNone_eq h];exact .none
  |bool b=>rw [rBool_eq h];exact .bool _
  |int i=>obtain⟨t,rfl⟩:=rInt_eq h;exact .int _ _
  |str x=>obtain⟨t,rfl⟩:=rStr_eq h;exact .str _ _
  |fn f=>rw [rRef_eq h];exact rep_fn.mpr rfl
  |cls c=>rw [rRef_eq h];exact rep_cls.mpr rfl
  |prim p=>exact rep_prim.mpr (primC_eq h)
  |_=>exact no_true h
theorem repsC_rep{T:Tabs}{P:Params}{g:Gh}: ∀{vs:List V} {rs:List Value},repsC T vs rs=true→RepL T P g vs rs
  | [],rs,h=>by cases List.isEmpty_iff.mp h;exact .nil
  |_::_,[],h=>no_true h
  |v::vs,r::rs,h=>have q:=Bool.and_eq_true _ _▸(show(repC T v r&&repsC T vs rs)=true from h); .cons (repC_rep q.1) (repsC_rep q.2)
noncomputable def gloC(T:Tabs)(K:Frag)(x:Nat)(v:V):Bool:=match nsIn K mainGlobals (T.nm x) with
  |some (some r)=>repC T v r
  | some none=>(match bootBuiltins (T.nm x) with
    |some r=>repC T v r&& !(T.nm x==("__name__":Str))
    |none=>false)
  |none=>false
theorem gloC_ok{T:Tabs}{K:Frag}{x:Nat}{v:V}(h:gloC T K x v=true):GloOk T K x v:=by
  unfold gloC at h
  split at h
  · rename_i r e;exact⟨r,.inl e,fun P g=>repC_rep h⟩
  · rename_i e
    split at h
    · rename_i r e'
      simp only [Bool.and_eq_true,Bool.not_eq_true',beq_eq_false_iff_ne] at h
      exact⟨r,.inr ⟨e,e',h.2⟩,fun P g=>repC_rep h.1⟩
    · cases h
  · cases h
noncomputable def oIn(K:Frag)(a:Nat):Obj:=match K.lookup a with |some o=>o |none=>default
noncomputable def fdIn(K:Frag)(a:Nat):FuncData:=match K.lookup a with |some ⟨_,_,.func fd,_⟩=>fd |_=>default
noncomputable def seqIn(K:Frag)(v:Value):List Value:=match v with
  | .ref a=>(match K.lookup a with |some ⟨_,_,.seq xs _,_⟩=>xs.toList |_=> [])
  |_=> []
noncomputable def V.isFn(f:Nat):V→Bool | .fn g=>Nat.beq f g |_=>false
noncomputable def V.isCls(f:Nat):V→Bool | .cls g=>Nat.beq f g |_=>false
noncomputable def V.isPrim(f:Nat):V→Bool | .prim g=>Nat.beq f g |_=>false
noncomputable def eqV(v w:V):Bool:=match w with
  | .fn f=>v.isFn f
  | .cls f=>v.isCls f
  | .prim f=>v.isPrim f
  | .int i=>v.isI i
  | .str x=>v.isS x
  |_=>false
theorem isFn_eq{f:Nat}{v:V}(h:v.isFn f=true):v= .fn f:=by cases v<;>first |(cases h;done)|rw [Nat.eq_of_beq_eq_true h]
theorem isCls_eq{f:Nat}{v:V}(h:v.isCls f=true):v= .cls f:=by cases v<;>first |(cases h;done)|rw [Nat.eq_of_beq_eq_true h]
theorem isPrim_eq{f:Nat}{v:V}(h:v.isPrim f=true):v= .prim f:=by cases v<;>first |(cases h;done)|rw [Nat.eq_of_beq_eq_true h]
theorem isI_eq{f:Int}{v:V}(h:v.isI f=true):v= .int f:=by cases v<;>first |(cases h;done)|rw [beq_iff_eq.mp h]
theorem isS_eq{f:Nat}{v:V}(h:v.isS f=true):v= .str f:=by cases v<;>first |(cases h;done)|rw [beq_iff_eq.mp h]
theorem eqV_eq{v w:V}(h:eqV v w=true):v=w:=by
  cases w<;>first |(cases h;done)|exact isFn_eq h |exact isCls_eq h |exact isPrim_eq h |exact isI_eq h |exact isS_eq h
noncomputable def gvC(T:Tabs)(K:Frag)(gt:List (Nat×V)):List Nat→List V→Bool
  |_,[] =>true
  | xs,v::vs=>match xs with
    | [] =>false
    |x::xs=>(tab1 x gt).any (eqV · v)&&gvC T K gt xs vs
noncomputable def nodupC:List Nat→Bool
  | [] =>true
  |x::xs=>xs.all (fun y=>!(Nat.beq x y))&&nodupC xs
theorem nodupC_ok: ∀{l:List Nat},nodupC l=true→l.Nodup
  | [],_=> .nil
  | x::xs,h=>by
    simp only [nodupC,Bool.and_eq_true,List.all_eq_true,Bool.not_eq_true'] at h
    exact List.nodup_cons.mpr ⟨fun m=>(by have:=h.1 x m;rw [Nat.beq_refl] at this;cases this),nodupC_ok h.2⟩
theorem gvC_ok{T:Tabs}{K:Frag}{gt:List (Nat×V)}(hg: ∀x v,tab1 x gt=some v→GloOk T K x v): ∀{vs:List V} {xs:List Nat},gvC T K gt xs vs=true→ ∀i v,vs[i]? =some v→i<xs.length∧GloOk T K (xs.getD i 0) v
  | [],_,_,i,v,e=>by cases e
  |w::vs,[],h,i,v,e=>by cases h
  | w ::vs,x::xs,h,i,v,e=>by
    obtain⟨h1,h2⟩:=Bool.and_eq_true _ _▸(show((tab1 x gt).any (eqV · w)&&gvC T K gt xs vs)=true from h)
    cases i with
    | zero=>
      cases e
      obtain⟨u,q,r⟩:=Option.any_eq_true_iff_get .. |>.mp h1|>fun⟨a,b⟩=>(⟨_,Option.eq_some_of_isSome a,b⟩: ∃u,tab1 x gt=some u∧eqV u w=true)
      exact⟨Nat.succ_pos _,hg x w (eqV_eq r▸q)⟩
    |succ i=>exact⟨Nat.succ_lt_succ (gvC_ok hg h2 i v e).1,(gvC_ok hg h2 i v e).2⟩
noncomputable def fnC(T:Tabs)(K:Frag)(gt:List (Nat×V))(fd:FuncData)(fn:Fn):Bool:=
  codeIn K fd.code fd.qualname&&(fd.scope.kind== .function)&& !fd.scope.isCoroutine&& !fd.scope.isGenerator&&scopeOk T fn fd.scope&&repsC T fn.defs (seqIn K fd.defaults)&&gvC T K gt fn.gs fn.gv&&nodupC fn.ns&&Nat.ble fn.np fn.ns.length&&fn.cl.isEmpty
noncomputable abbrev fnAs(T:Tabs)(K:Frag)(a:Nat)(fn:Fn):FuncData:=
  fnOf (fdIn K a).name (fdIn K a).qualname (fdIn K a).params (erSs T fn fn.body) (fdIn K a).scope (fdIn K a).defaults (fdIn K a).kwdefaults (fdIn K a).doc (fdIn K a).pyModule (fdIn K a).annotations (fdIn K a).code (fdIn K a).closureTuple
theorem FnOk.of{T:Tabs}{K:Frag}{gt:List (Nat×V)}{f:Nat}{fn:Fn}(hg: ∀x v,tab1 x gt=some v→GloOk T K x v)
    (hl:K.lookup (T.fnAddr f)=some ⟨(oIn K (T.fnAddr f)).cls,(oIn K (T.fnAddr f)).dict,.func (fnAs T K (T.fnAddr f) fn),(oIn K (T.fnAddr f)).slots⟩)
    (hc:fnC T K gt (fdIn K (T.fnAddr f)) fn=true)
    (hb: ∀rs:List Value,rs.length≤fn.np→fn.np≤rs.length+fn.defs.length→ ∀S,
      peek K S (bindArgs (fnAs T K (T.fnAddr f) fn) ⟨rs,[]⟩)=some (((fn.ns.take fn.np).map T.nm).zip (rs++(seqIn K (fdIn K (T.fnAddr f)).defaults).drop (rs.length+fn.defs.length-fn.np)))):FnOk T K f fn:=by
  unfold fnC at hc
  simp only [Bool.and_eq_true,Bool.not_eq_true',beq_iff_eq] at hc
  obtain⟨⟨⟨⟨⟨⟨⟨⟨⟨h1,h2⟩,h3⟩,h4⟩,h5⟩,h6⟩,h7⟩,h8⟩,h9⟩,h10⟩:=hc
  exact⟨⟨_,_,_,_,_,_,_,_,_,_,_,_,_,_,_,hl,h1,h2,h3,h4,h5,fun P g=>repsC_rep h6,hb⟩,gvC_ok hg h7,nodupC_ok h8,Nat.le_of_ble_eq_true h9,List.isEmpty_iff.mp h10⟩
noncomputable def fragOf(t:BT)(as:List Nat):Frag:=as.map fun a=>(a,(t.get a).getD default)
theorem fragOf_in {t:BT} {n:Nat} {life:Life} {as:List Nat} (h:as.all (fun a=>Nat.blt a n&&(match t.get a with |some o=>!o.isFreed |none=>false))=true):(fragOf t as).In (absHeap t n life):=by
  intro a o e
  have key: ∀as:List Nat,as.all (fun a=>Nat.blt a n&&(match t.get a with |some o=>!o.isFreed |none=>false))=true→(fragOf t as).lookup a=some o→a<n∧t.get a=some o∧o.isFreed=false:=by
    intro as
    induction as with
    |nil=>intro _ e;simp [fragOf] at e
    | cons b as ih=>
      intro h e
      simp only [List.all_cons,Bool.and_eq_true] at h
      simp only [fragOf,List.map_cons,List.lookup_cons] at e
      cases q:a==b with
      |false=>rw [q] at e;exact ih (by simpa only [List.all_eq_true,Bool.and_eq_true] using h.2) e
      | true=>
        rw [q] at e
        have:=beq_iff_eq.mp q
        subst this
        have h2:=h.1.2
        split at h2
        · rename_i o' e'
          rw [e'] at e
          cases e
          exact⟨Nat.le_of_ble_eq_true h.1.1,e',by simpa using h2⟩
        · cases h2
  obtain⟨h1,h2,h3⟩:=key as h e
  rw [Heap.get?_some_iff]
  exact⟨by rw [absHeap_at,if_pos h1,h2];rfl,h3⟩
end Mine
end
section
open PySem PySem.Calls PySem.W PyProof.Rows
set_option maxRecDepth 100000
set_option maxHeartbeats 0
set_option genInjectivity false
set_option genSizeOf false
namespace Mine
noncomputable def topTree:Params→BT:=Tp.topTree
noncomputable def topHeap(P:Params):Heap:=absHeap (topTree P) 1418 {}
noncomputable def kAs:List Nat:= [2,3,29,35,36,45,46,70,71,82,83,91,92,98,99,105,106,112,113,126,127,133,134,140,141,164,165,182,183,192,193,208,209,218,219,234,235,244,245,260,261,270,271,279,280,288,294,295,301,302,308,309,322,323,329,330,339,340,348,349,357,363,364,370,371,377,378,384,385,387,388,398,399,405,406,412,413,419,420,426,427,428,434,435,441,442,455,456,514,515,525,526,532,533,539,540,546,547,553,554,560,561,567,568,588,589,595,596,602,603,609,610,616,617,623,624,637,638,675,676,686,687,700,701,714,715,721,722,728,729,735,736,742,743,790,791,801,802,815,816,822,823,829,830,836,837,848,849,855,856,862,863,869,870,876,877,883,884,890,891,907,908,918,919,925,926,939,940,963,964,981,982,998,999,1009,1015,1016,1032,1033,1043,1049,1050,1085,1086,1096,1102,1103,1136,1137,1147,1148,1154,1155,1182,1183,1189,1190,1196,1197,1203,1204,1210,1211,1217,1218,1224,1225,1231,1232,1238,1239,1245,1246,1252,1253,1266,1267,1273,1274,1280,1281,1287,1288,1292,1293,1299,1300,1306,1307,1313,1314,1320,1321,1327,1328,1334,1335,1341,1342,1348,1349,1355,1356,1362,1363,1369,1370,1376,1377,1383,1384,1390,1391,1397,1398,1404,1405,1411,1412,1416,1417]
noncomputable def KP(P:Params):Frag:=fragOf (topTree P) kAs
theorem kp_in(P:Params):(KP P).In (topHeap P):=fragOf_in (by kernel_rfl)
noncomputable def gloT:List (Nat×V):= [(2,.fn 0),(4,.fn 1),(9,.fn 5),(23,.prim 0),(24,.cls 1071),(25,.cls 4),(29,.prim 2),(33,.int 63),(40,.fn 9),(41,.fn 10),(49,.fn 11),(62,.fn 7),(63,.fn 13),(64,.fn 14),(65,.fn 12),(68,.str 67),(70,.fn 15),(71,.cls 1083),(80,.fn 17),(81,.fn 16),(84,.fn 4),(85,.fn 6),(92,.fn 19),(94,.fn 21),(106,.fn 20),(107,.fn 22),(116,.fn 25),(120,.fn 1575),(121,.fn 1582),(122,.fn 23),(123,.fn 18),(124,.fn 24),(129,.str 125),(130,.str 126),(131,.str 127),(132,.str 128),(137,.fn 29),(138,.cls 1059),(139,.cls 7),(140,.prim 7),(141,.fn 1694),(149,.str 146),(151,.fn 32),(155,.fn 2),(158,.fn 3),(166,.fn 34),(170,.fn 39),(171,.str 167),(172,.fn 35),(173,.str 168),(174,.fn 2169),(175,.fn 2176),(176,.fn 38),(134,.fn 30),(180,.fn 36),(181,.fn 42),(182,.fn 41),(184,.fn 37),(185,.fn 43),(189,.str 186),(190,.fn 1120),(191,.str 187),(197,.fn 2260),(206,.fn 48),(207,.fn 49),(208,.int 4),(209,.int 5),(211,.prim 3),(219,.prim 4),(221,.fn 52),(223,.cls 11),(224,.cls 14),(225,.cls 0),(226,.fn 56),(227,.fn 55),(228,.cls 12),(231,.fn 58),(232,.cls 1),(233,.cls 13),(238,.fn 57),(239,.cls 2),(246,.fn 61),(247,.fn 63),(248,.cls 3),(249,.fn 62),(252,.fn 59),(253,.fn 53),(254,.fn 60),(255,.fn 65),(256,.fn 64),(259,.cls 9),(260,.prim 1),(262,.fn 26),(263,.fn 27),(264,.fn 40),(265,.fn 44),(266,.fn 45),(267,.fn 46),(268,.fn 28),(272,.fn 8),(290,.cls 6),(291,.cls 8),(292,.fn 31),(299,.prim 5),(301,.int 4),(303,.cls 10),(305,.prim 6),(307,.prim 8),(315,.fn 51),(316,.fn 54),(317,.cls 5),(318,.fn 50),(319,.fn 47),(320,.fn 67),(321,.fn 66),(322,.fn 33),(323,.fn 2412)]
theorem glo_all(P:Params):(gloT.all fun p=>gloC TT (KP P) p.1 p.2)=true:=by kernel_rfl
theorem glo_ok(P:Params): ∀x v,tab1 x gloT=some v→GloOk TT (KP P) x v:=by
  intro x v e
  have key: ∀l:List (Nat×V),(l.all fun p=>gloC TT (KP P) p.1 p.2)=true→tab1 x l=some v→GloOk TT (KP P) x v:=by
    intro l
    induction l with
    |nil=>intro _ e;simp [tab1] at e
    | cons p l ih=>
      obtain⟨y,w⟩:=p
      intro h e
      simp only [List.all_cons,Bool.and_eq_true] at h
      simp only [tab1] at e
      by_cases q:x=y
      · rw [if_pos q] at e;cases e;subst q;exact gloC_ok h.1
      · rw [if_neg q] at e;exact ih h.2 e
  exact key _ (glo_all P) e
end Mine
end
section
open PySem PySem.Calls PySem.W PyProof.Rows
set_option maxRecDepth 100000
set_option maxHeartbeats 0
set_option genInjectivity false
set_option genSizeOf false
namespace Mine
noncomputable def Cur(β:Type):Nat→Type
  |0=>β
  |n+1=>Value→Cur β n
noncomputable def cur{β:Type}:(n:Nat)→(List Value→β)→Cur β n
  |0,f=>f []
  |n+1,f=>fun a=>cur n fun rs=>f (a::rs)
theorem cur_eq{β:Type}: ∀(n:Nat) {f g:List Value→β},cur n f=cur n g→ ∀rs:List Value,rs.length=n→f rs=g rs
  |0,_,_,h,rs,e=>by cases List.length_eq_zero_iff.mp e;exact h
  | n+1,_,_,h,rs,e=>by
    cases rs with
    |nil=>cases e
    |cons a rs=>exact cur_eq n (congrFun h a) rs (Nat.succ.inj e)
noncomputable def Curs(β:Type)(n:Nat):Nat→Type
  |0=>Cur β n
  |d+1=>Cur β (n-(d+1))×Curs β n d
noncomputable def curs{β:Type}{n:Nat}:(d:Nat)→(List Value→β)→Curs β n d
  |0,f=>cur n f
  |d+1,f=>(cur (n-(d+1)) f,curs d f)
theorem curs_eq{β:Type}{n:Nat}{f g:List Value→β}: ∀(d:Nat),(curs d f:Curs β n d)=curs d g→ ∀rs:List Value,rs.length≤n→n≤rs.length+d→f rs=g rs
  |0,h,rs,h1,h2=>cur_eq n h rs (Nat.le_antisymm h1 h2)
  | d+1,h,rs,h1,h2=>by
    by_cases q:rs.length=n-(d+1)
    · exact cur_eq _ (congrArg Prod.fst h) rs q
    · exact curs_eq d (congrArg Prod.snd h) rs h1 (by omega)
section
variable (P:Params)(f:Nat)(fn:Fn)
noncomputable def fLp(rs:List Value)(S:Setting):Option (List (Str×Value)):=peek (KP P) S (bindArgs (fnAs TT (KP P) (TT.fnAddr f) fn) ⟨rs,[]⟩)
noncomputable def fRp(rs:List Value)(_:Setting):Option (List (Str×Value)):=
  some (((fn.ns.take fn.np).map TT.nm).zip (rs++(seqIn (KP P) (fdIn (KP P) (TT.fnAddr f)).defaults).drop (rs.length+fn.defs.length-fn.np)))
noncomputable def fL:Option Obj×Bool×Curs (Setting→Option (List (Str×Value))) fn.np fn.defs.length:=
  ((KP P).lookup (TT.fnAddr f),fnC TT (KP P) gloT (fdIn (KP P) (TT.fnAddr f)) fn,curs _ (fLp P f fn))
noncomputable def fR:Option Obj×Bool×Curs (Setting→Option (List (Str×Value))) fn.np fn.defs.length:=
  (some ⟨(oIn (KP P) (TT.fnAddr f)).cls,(oIn (KP P) (TT.fnAddr f)).dict,.func (fnAs TT (KP P) (TT.fnAddr f) fn),(oIn (KP P) (TT.fnAddr f)).slots⟩,true,curs _ (fRp P f fn))
end
theorem fOk{P:Params}{f:Nat}{fn:Fn}(h:fL P f fn=fR P f fn):FnOk TT (KP P) f fn:=
  FnOk.of (glo_ok _) (congrArg Prod.fst h) (congrArg (fun z=>z.2.1) h) fun rs h1 h2 S=>congrFun (curs_eq _ (congrArg (fun z=>z.2.2) h) rs h1 h2) S
theorem ok_mask(P:Params):fL P 0 f_mask=fR P 0 f_mask:=by kernel_rfl
theorem ok_wrap(P:Params):fL P 1 f_wrap=fR P 1 f_wrap:=by kernel_rfl
theorem ok_0(P:Params):fL P 2 f_0=fR P 2 f_0:=by kernel_rfl
theorem ok_1(P:Params):fL P 3 f_1=fR P 3 f_1:=by kernel_rfl
theorem ok_bit(P:Params):fL P 4 f_bit=fR P 4 f_bit:=by kernel_rfl
theorem ok_ones(P:Params):fL P 5 f_ones=fR P 5 f_ones:=by kernel_rfl
theorem ok_2(P:Params):fL P 6 f_2=fR P 6 f_2:=by kernel_rfl
theorem ok_3(P:Params):fL P 7 f_3=fR P 7 f_3:=by kernel_rfl
theorem ok_4(P:Params):fL P 8 f_4=fR P 8 f_4:=by kernel_rfl
theorem ok_5(P:Params):fL P 9 f_5=fR P 9 f_5:=by kernel_rfl
theorem ok_6(P:Params):fL P 10 f_6=fR P 10 f_6:=by kernel_rfl
theorem ok_7(P:Params):fL P 11 f_7=fR P 11 f_7:=by kernel_rfl
theorem ok_8(P:Params):fL P 12 f_8=fR P 12 f_8:=by kernel_rfl
theorem ok_9(P:Params):fL P 13 f_9=fR P 13 f_9:=by kernel_rfl
theorem ok_10(P:Params):fL P 14 f_10=fR P 14 f_10:=by kernel_rfl
theorem ok_11(P:Params):fL P 15 f_11=fR P 15 f_11:=by kernel_rfl
theorem ok_12(P:Params):fL P 16 f_12=fR P 16 f_12:=by kernel_rfl
theorem ok_13(P:Params):fL P 17 f_13=fR P 17 f_13:=by kernel_rfl
theorem ok_14(P:Params):fL P 18 f_14=fR P 18 f_14:=by kernel_rfl
theorem ok_szp(P:Params):fL P 19 f_szp=fR P 19 f_szp:=by kernel_rfl
theorem ok_15(P:Params):fL P 20 f_15=fR P 20 f_15:=by kernel_rfl
theorem ok_16(P:Params):fL P 21 f_16=fR P 21 f_16:=by kernel_rfl
theorem ok_17(P:Params):fL P 22 f_17=fR P 22 f_17:=by kernel_rfl
theorem ok_18(P:Params):fL P 23 f_18=fR P 23 f_18:=by kernel_rfl
theorem ok_19(P:Params):fL P 24 f_19=fR P 24 f_19:=by kernel_rfl
theorem ok_20(P:Params):fL P 25 f_20=fR P 25 f_20:=by kernel_rfl
theorem ok_21(P:Params):fL P 26 f_21=fR P 26 f_21:=by kernel_rfl
theorem ok_22(P:Params):fL P 27 f_22=fR P 27 f_22:=by kernel_rfl
theorem ok_23(P:Params):fL P 28 f_23=fR P 28 f_23:=by kernel_rfl
theorem ok_24(P:Params):fL P 29 f_24=fR P 29 f_24:=by kernel_rfl
theorem ok_gpr(P:Params):fL P 30 f_gpr=fR P 30 f_gpr:=by kernel_rfl
theorem ok_25(P:Params):fL P 31 f_25=fR P 31 f_25:=by kernel_rfl
theorem ok_done(P:Params):fL P 32 f_done=fR P 32 f_done:=by kernel_rfl
theorem ok_26(P:Params):fL P 33 f_26=fR P 33 f_26:=by kernel_rfl
theorem ok_27(P:Params):fL P 34 f_27=fR P 34 f_27:=by kernel_rfl
theorem ok_28(P:Params):fL P 35 f_28=fR P 35 f_28:=by kernel_rfl
theorem ok_29(P:Params):fL P 36 f_29=fR P 36 f_29:=by kernel_rfl
theorem ok_30(P:Params):fL P 37 f_30=fR P 37 f_30:=by kernel_rfl
theorem ok_31(P:Params):fL P 38 f_31=fR P 38 f_31:=by kernel_rfl
theorem ok_32(P:Params):fL P 39 f_32=fR P 39 f_32:=by kernel_rfl
theorem ok_33(P:Params):fL P 40 f_33=fR P 40 f_33:=by kernel_rfl
theorem ok_34(P:Params):fL P 41 f_34=fR P 41 f_34:=by kernel_rfl
theorem ok_35(P:Params):fL P 42 f_35=fR P 42 f_35:=by kernel_rfl
theorem ok_36(P:Params):fL P 43 f_36=fR P 43 f_36:=by kernel_rfl
theorem ok_37(P:Params):fL P 44 f_37=fR P 44 f_37:=by kernel_rfl
theorem ok_38(P:Params):fL P 45 f_38=fR P 45 f_38:=by kernel_rfl
theorem ok_39(P:Params):fL P 46 f_39=fR P 46 f_39:=by kernel_rfl
theorem ok_40(P:Params):fL P 47 f_40=fR P 47 f_40:=by kernel_rfl
theorem ok_41(P:Params):fL P 48 f_41=fR P 48 f_41:=by kernel_rfl
theorem ok_42(P:Params):fL P 49 f_42=fR P 49 f_42:=by kernel_rfl
theorem ok_43(P:Params):fL P 50 f_43=fR P 50 f_43:=by kernel_rfl
theorem ok_44(P:Params):fL P 51 f_44=fR P 51 f_44:=by kernel_rfl
theorem ok_45(P:Params):fL P 52 f_45=fR P 52 f_45:=by kernel_rfl
theorem ok_46(P:Params):fL P 53 f_46=fR P 53 f_46:=by kernel_rfl
theorem ok_47(P:Params):fL P 54 f_47=fR P 54 f_47:=by kernel_rfl
theorem ok_48(P:Params):fL P 55 f_48=fR P 55 f_48:=by kernel_rfl
theorem ok_49(P:Params):fL P 56 f_49=fR P 56 f_49:=by kernel_rfl
theorem ok_50(P:Params):fL P 57 f_50=fR P 57 f_50:=by kernel_rfl
theorem ok_51(P:Params):fL P 58 f_51=fR P 58 f_51:=by kernel_rfl
theorem ok_52(P:Params):fL P 59 f_52=fR P 59 f_52:=by kernel_rfl
theorem ok_53(P:Params):fL P 60 f_53=fR P 60 f_53:=by kernel_rfl
theorem ok_54(P:Params):fL P 61 f_54=fR P 61 f_54:=by kernel_rfl
theorem ok_55(P:Params):fL P 62 f_55=fR P 62 f_55:=by kernel_rfl
theorem ok_56(P:Params):fL P 63 f_56=fR P 63 f_56:=by kernel_rfl
theorem ok_57(P:Params):fL P 64 f_57=fR P 64 f_57:=by kernel_rfl
theorem ok_58(P:Params):fL P 65 f_58=fR P 65 f_58:=by kernel_rfl
theorem ok_59(P:Params):fL P 66 f_59=fR P 66 f_59:=by kernel_rfl
theorem ok_60(P:Params):fL P 67 f_60=fR P 67 f_60:=by kernel_rfl
theorem ok_61(P:Params):fL P 68 f_61=fR P 68 f_61:=by kernel_rfl
theorem ok_62(P:Params):fL P 69 f_62=fR P 69 f_62:=by kernel_rfl
theorem ok_63(P:Params):fL P 70 f_63=fR P 70 f_63:=by kernel_rfl
theorem ok_64(P:Params):fL P 71 f_64=fR P 71 f_64:=by kernel_rfl
theorem ok_65(P:Params):fL P 72 f_65=fR P 72 f_65:=by kernel_rfl
theorem ok_66(P:Params):fL P 73 f_66=fR P 73 f_66:=by kernel_rfl
theorem ok_67(P:Params):fL P 74 f_67=fR P 74 f_67:=by kernel_rfl
theorem ok_68(P:Params):fL P 75 f_68=fR P 75 f_68:=by kernel_rfl
theorem ok_69(P:Params):fL P 76 f_69=fR P 76 f_69:=by kernel_rfl
theorem ok_70(P:Params):fL P 77 f_70=fR P 77 f_70:=by kernel_rfl
theorem ok_71(P:Params):fL P 78 f_71=fR P 78 f_71:=by kernel_rfl
theorem ok_72(P:Params):fL P 79 f_72=fR P 79 f_72:=by kernel_rfl
theorem ok_73(P:Params):fL P 80 f_73=fR P 80 f_73:=by kernel_rfl
theorem ok_74(P:Params):fL P 81 f_74=fR P 81 f_74:=by kernel_rfl
theorem ok_75(P:Params):fL P 82 f_75=fR P 82 f_75:=by kernel_rfl
theorem ok_76(P:Params):fL P 83 f_76=fR P 83 f_76:=by kernel_rfl
theorem ok_77(P:Params):fL P 84 f_77=fR P 84 f_77:=by kernel_rfl
theorem ok_78(P:Params):fL P 85 f_78=fR P 85 f_78:=by kernel_rfl
theorem ok_79(P:Params):fL P 86 f_79=fR P 86 f_79:=by kernel_rfl
theorem ok_80(P:Params):fL P 87 f_80=fR P 87 f_80:=by kernel_rfl
theorem ok_81(P:Params):fL P 88 f_81=fR P 88 f_81:=by kernel_rfl
theorem ok_82(P:Params):fL P 89 f_82=fR P 89 f_82:=by kernel_rfl
theorem ok_83(P:Params):fL P 90 f_83=fR P 90 f_83:=by kernel_rfl
theorem ok_84(P:Params):fL P 91 f_84=fR P 91 f_84:=by kernel_rfl
theorem ok_85(P:Params):fL P 92 f_85=fR P 92 f_85:=by kernel_rfl
theorem ok_86(P:Params):fL P 93 f_86=fR P 93 f_86:=by kernel_rfl
theorem ok_87(P:Params):fL P 94 f_87=fR P 94 f_87:=by kernel_rfl
theorem ok_88(P:Params):fL P 95 f_88=fR P 95 f_88:=by kernel_rfl
theorem ok_89(P:Params):fL P 96 f_89=fR P 96 f_89:=by kernel_rfl
theorem ok_90(P:Params):fL P 97 f_90=fR P 97 f_90:=by kernel_rfl
theorem ok_91(P:Params):fL P 98 f_91=fR P 98 f_91:=by kernel_rfl
theorem ok_92(P:Params):fL P 99 f_92=fR P 99 f_92:=by kernel_rfl
theorem ok_93(P:Params):fL P 100 f_93=fR P 100 f_93:=by kernel_rfl
theorem ok_94(P:Params):fL P 101 f_94=fR P 101 f_94:=by kernel_rfl
theorem ok_95(P:Params):fL P 102 f_95=fR P 102 f_95:=by kernel_rfl
theorem ok_96(P:Params):fL P 103 f_96=fR P 103 f_96:=by kernel_rfl
theorem ok_mint(P:Params):fL P 104 f_mint=fR P 104 f_mint:=by kernel_rfl
inductive AllF{α:Type}(P:Nat→α→Prop):Nat→List α→Prop where
  |nil {k}:AllF P k []
  |cons {k fn l} (h:P k fn) (t:AllF P (k+1) l):AllF P k (fn::l)
theorem AllF.get{α:Type}{P:Nat→α→Prop}{k:Nat}{l:List α}(x:AllF P k l): ∀(i:Nat) {fn:α},l[i]? =some fn→P (k+i) fn:=by
  induction x with
  |nil=>intro i fn e;cases e
  | @cons k f l h t ih=>
    intro i fn e
    cases i with
    |zero=>cases e;exact h
    |succ i=>rw [Nat.add_comm i,←Nat.add_assoc];exact ih i e
theorem fns_ok(P:Params): ∀f fn,TT.fn f=some fn→FnOk TT (KP P) f fn:=fun f fn e=>
  Nat.zero_add f▸AllF.get (P:=FnOk TT (KP P)) (k:=0) (l:=fnL) (.cons (fOk (ok_mask P))<| .cons (fOk (ok_wrap P))<| .cons (fOk (ok_0 P))<| .cons (fOk (ok_1 P))<| .cons (fOk (ok_bit P))<| .cons (fOk (ok_ones P))<| .cons (fOk (ok_2 P))<| .cons (fOk (ok_3 P))<| .cons (fOk (ok_4 P))<| .cons (fOk (ok_5 P))<| .cons (fOk (ok_6 P))<| .cons (fOk (ok_7 P))<| .cons (fOk (ok_8 P))<| .cons (fOk (ok_9 P))<| .cons (fOk (ok_10 P))<| .cons (fOk (ok_11 P))<| .cons (fOk (ok_12 P))<| .cons (fOk (ok_13 P))<| .cons (fOk (ok_14 P))<| .cons (fOk (ok_szp P))<| .cons (fOk (ok_15 P))<| .cons (fOk (ok_16 P))<| .cons (fOk (ok_17 P))<| .cons (fOk (ok_18 P))<| .cons (fOk (ok_19 P))<| .cons (fOk (ok_20 P))<| .cons (fOk (ok_21 P))<| .cons (fOk (ok_22 P))<| .cons (fOk (ok_23 P))<| .cons (fOk (ok_24 P))<| .cons (fOk (ok_gpr P))<| .cons (fOk (ok_25 P))<| .cons (fOk (ok_done P))<| .cons (fOk (ok_26 P))<| .cons (fOk (ok_27 P))<| .cons (fOk (ok_28 P))<| .cons (fOk (ok_29 P))<| .cons (fOk (ok_30 P))<| .cons (fOk (ok_31 P))<| .cons (fOk (ok_32 P))<| .cons (fOk (ok_33 P))<| .cons (fOk (ok_34 P))<| .cons (fOk (ok_35 P))<| .cons (fOk (ok_36 P))<| .cons (fOk (ok_37 P))<| .cons (fOk (ok_38 P))<| .cons (fOk (ok_39 P))<| .cons (fOk (ok_40 P))<| .cons (fOk (ok_41 P))<| .cons (fOk (ok_42 P))<| .cons (fOk (ok_43 P))<| .cons (fOk (ok_44 P))<| .cons (fOk (ok_45 P))<| .cons (fOk (ok_46 P))<| .cons (fOk (ok_47 P))<| .cons (fOk (ok_48 P))<| .cons (fOk (ok_49 P))<| .cons (fOk (ok_50 P))<| .cons (fOk (ok_51 P))<| .cons (fOk (ok_52 P))<| .cons (fOk (ok_53 P))<| .cons (fOk (ok_54 P))<| .cons (fOk (ok_55 P))<| .cons (fOk (ok_56 P))<| .cons (fOk (ok_57 P))<| .cons (fOk (ok_58 P))<| .cons (fOk (ok_59 P))<| .cons (fOk (ok_60 P))<| .cons (fOk (ok_61 P))<| .cons (fOk (ok_62 P))<| .cons (fOk (ok_63 P))<| .cons (fOk (ok_64 P))<| .cons (fOk (ok_65 P))<| .cons (fOk (ok_66 P))<| .cons (fOk (ok_67 P))<| .cons (fOk (ok_68 P))<| .cons (fOk (ok_69 P))<| .cons (fOk (ok_70 P))<| .cons (fOk (ok_71 P))<| .cons (fOk (ok_72 P))<| .cons (fOk (ok_73 P))<| .cons (fOk (ok_74 P))<| .cons (fOk (ok_75 P))<| .cons (fOk (ok_76 P))<| .cons (fOk (ok_77 P))<| .cons (fOk (ok_78 P))<| .cons (fOk (ok_79 P))<| .cons (fOk (ok_80 P))<| .cons (fOk (ok_81 P))<| .cons (fOk (ok_82 P))<| .cons (fOk (ok_83 P))<| .cons (fOk (ok_84 P))<| .cons (fOk (ok_85 P))<| .cons (fOk (ok_86 P))<| .cons (fOk (ok_87 P))<| .cons (fOk (ok_88 P))<| .cons (fOk (ok_89 P))<| .cons (fOk (ok_90 P))<| .cons (fOk (ok_91 P))<| .cons (fOk (ok_92 P))<| .cons (fOk (ok_93 P))<| .cons (fOk (ok_94 P))<| .cons (fOk (ok_95 P))<| .cons (fOk (ok_96 P))<| .cons (fOk (ok_mint P)) .nil) f e
end Mine
end
section
open PySem PySem.Calls PySem.W PyProof.Rows
set_option maxRecDepth 100000
set_option maxHeartbeats 0
set_option genInjectivity false
set_option genSizeOf false
namespace Mine
noncomputable def vRf(a:Nat):Value→Bool | .ref b=>Nat.beq a b |_=>false
noncomputable def vBt(x:String):Value→Bool | .builtin y=>x==y |_=>false
noncomputable def vTy(x:String):Value→Bool | .type y=>x==y |_=>false
noncomputable def vCf(a:Nat):CFound→Bool | .val v=>vRf a v |_=>false
noncomputable def isNo(r:Option (Option Value)):Bool:=r.any Option.isNone
noncomputable def isRf(a:Nat)(r:Option (Option Value)):Bool:=r.any fun o=>o.any (vRf a)
noncomputable def isBt(x:String)(r:Option (Option Value)):Bool:=r.any fun o=>o.any (vBt x)
noncomputable def isTy(x:String)(r:Option Value):Bool:=r.any (vTy x)
noncomputable def isCf(a:Nat)(r:Option CFound):Bool:=r.any (vCf a)
theorem any_of{α:Type}{r:Option α}{p:α→Bool}{x:α}(h:r.any p=true)(k: ∀y,p y=true→y=x):r=some x:=by
  cases r with
  |none=>cases h
  |some y=>exact congrArg some (k y h)
theorem vRf_eq{a:Nat}(v:Value)(h:vRf a v=true):v= .ref a:=by
  cases v with
  |ref b=>exact congrArg Value.ref (Nat.eq_of_beq_eq_true h).symm
  |_=>exact no_true h
theorem vBt_eq{a:String}(v:Value)(h:vBt a v=true):v= .builtin a:=by
  cases v with
  |builtin b=>exact congrArg Value.builtin (beq_iff_eq.mp h).symm
  |_=>exact no_true h
theorem vTy_eq{a:String}(v:Value)(h:vTy a v=true):v= .type a:=by
  cases v with
  |type b=>exact congrArg Value.type (beq_iff_eq.mp h).symm
  |_=>exact no_true h
theorem vCf_eq{a:Nat}(v:CFound)(h:vCf a v=true):v= .val (.ref a):=by
  cases v with
  |val b=>exact congrArg CFound.val (vRf_eq b h)
  |_=>exact no_true h
theorem isNo_eq{r}(h:isNo r=true):r=some none:=any_of h fun y e=>Option.isNone_iff_eq_none.mp e
theorem isRf_eq{a r}(h:isRf a r=true):r=some (some (.ref a)):=any_of h fun _ e=>any_of e vRf_eq
theorem isBt_eq{a r}(h:isBt a r=true):r=some (some (.builtin a)):=any_of h fun _ e=>any_of e vBt_eq
theorem isTy_eq{a r}(h:isTy a r=true):r=some (.type a):=any_of h vTy_eq
theorem isCf_eq{a r}(h:isCf a r=true):r=some (.val (.ref a)):=any_of h vCf_eq
noncomputable def clsC(T:Tabs)(K:Frag)(c:Nat)(C:Cls):Bool:=
  isBt "object.__getattribute__" (findIn K (.ref (T.clsAddr c)) "__getattribute__")&&
  (isNo (findIn K (.ref (T.clsAddr c)) "__getattr__")&&
  (isBt "object.__setattr__" (findIn K (.ref (T.clsAddr c)) "__setattr__")&&
  (plainOver K (T.clsAddr c)&&(hasDictIn K (T.clsAddr c)&&
  (C.names.all (fun x=>isNo (findIn K (.ref (T.clsAddr c)) (T.nm x)))&&
  (C.meths.all (fun p=>isRf (T.fnAddr p.2) (findIn K (.ref (T.clsAddr c)) (T.nm p.1))&&(isTy "function" (typeIn K (.ref (T.fnAddr p.2)))&&(isCf (T.fnAddr p.2) (findCls K (.ref (T.clsAddr c)) (.type "type") (T.nm p.1))&& !(C.names.contains p.1))))&&
  (readsIn K (T.clsAddr c) (.type "type")&&
  (isBt "type.__getattribute__" (specialIn K (.ref (T.clsAddr c)) "__getattribute__")&&
  (makesIn K (T.clsAddr c)&&(keepIn K (.ref (T.clsAddr c))&&
  (isRf (T.fnAddr C.init) (findIn K (.ref (T.clsAddr c)) "__init__")&&
  isTy "function" (typeIn K (.ref (T.fnAddr C.init))))))))))))))
theorem lookup_mem{x f:Nat}: ∀{l:List (Nat×Nat)},l.lookup x=some f→(x,f)∈l
  | [],e=>by simp at e
  | (a,b)::l,e=>by
    rw [List.lookup_cons] at e
    cases q:x==a with
    |true=>rw [q] at e;cases e;rw [beq_iff_eq.mp q];exact .head _
    |false=>rw [q] at e;exact .tail _ (lookup_mem e)
theorem ClsOk.of{T:Tabs}{K:Frag}{c:Nat}{C:Cls}(h:clsC T K c C=true):ClsOk T K c C:=by
  unfold clsC at h
  simp only [Bool.and_eq_true,List.all_eq_true,Bool.not_eq_true'] at h
  obtain⟨h1,h2,h3,h4,h5,h6,h7,h8,h9,h10,h11,h12,h13⟩:=h
  exact { ga:=isBt_eq h1,gk:=isNo_eq h2,sa:=isBt_eq h3,over:=h4,hasd:=h5,fld:=fun x hx=>isNo_eq (h6 x hx)
          met:=fun x f e=>let⟨a,b,c,d⟩:=h7 (x,f) (lookup_mem e);⟨isRf_eq a,isTy_eq b,isCf_eq c,d⟩
          reads:=h8,gt:=isBt_eq h9,makes:=h10,keep:=h11,init:=isRf_eq h12,initF:=isTy_eq h13}
theorem okc_Number(P:Params):ClsOk TT (KP P) 0 c_Number:=ClsOk.of (by kernel_rfl)
theorem okc_Symbol(P:Params):ClsOk TT (KP P) 1 c_Symbol:=ClsOk.of (by kernel_rfl)
theorem okc_Unary(P:Params):ClsOk TT (KP P) 2 c_Unary:=ClsOk.of (by kernel_rfl)
theorem okc_Binary(P:Params):ClsOk TT (KP P) 3 c_Binary:=ClsOk.of (by kernel_rfl)
theorem okc_Affine(P:Params):ClsOk TT (KP P) 4 c_Affine:=ClsOk.of (by kernel_rfl)
theorem okc_Scope(P:Params):ClsOk TT (KP P) 5 c_Scope:=ClsOk.of (by kernel_rfl)
theorem okc_Flags(P:Params):ClsOk TT (KP P) 6 c_Flags:=ClsOk.of (by kernel_rfl)
theorem okc_Register(P:Params):ClsOk TT (KP P) 7 c_Register:=ClsOk.of (by kernel_rfl)
theorem okc_Memory(P:Params):ClsOk TT (KP P) 8 c_Memory:=ClsOk.of (by kernel_rfl)
theorem okc_State(P:Params):ClsOk TT (KP P) 9 c_State:=ClsOk.of (by kernel_rfl)
theorem okc_Operand(P:Params):ClsOk TT (KP P) 10 c_Operand:=ClsOk.of (by kernel_rfl)
theorem okc_Reg(P:Params):ClsOk TT (KP P) 11 c_Reg:=ClsOk.of (by kernel_rfl)
theorem okc_Imm(P:Params):ClsOk TT (KP P) 12 c_Imm:=ClsOk.of (by kernel_rfl)
theorem okc_Mem(P:Params):ClsOk TT (KP P) 13 c_Mem:=ClsOk.of (by kernel_rfl)
theorem okc_Instruction(P:Params):ClsOk TT (KP P) 14 c_Instruction:=ClsOk.of (by kernel_rfl)
theorem clss_ok(P:Params): ∀c C,TT.cls c=some C→ClsOk TT (KP P) c C:=fun c C e=>Nat.zero_add c▸AllF.get (P:=ClsOk TT (KP P)) (k:=0) (l:=clsL) (.cons (okc_Number P)<| .cons (okc_Symbol P)<| .cons (okc_Unary P)<| .cons (okc_Binary P)<| .cons (okc_Affine P)<| .cons (okc_Scope P)<| .cons (okc_Flags P)<| .cons (okc_Register P)<| .cons (okc_Memory P)<| .cons (okc_State P)<| .cons (okc_Operand P)<| .cons (okc_Reg P)<| .cons (okc_Imm P)<| .cons (okc_Mem P)<| .cons (okc_Instruction P) .nil) c e
end Mine
namespace Mine
noncomputable def encS(l:List Nat):Nat:=l.foldl (fun n c=>n*1114112+c+1) 0
noncomputable def nmC:List Nat:= [160414972599381721190,184883016297072983529554025,152117643305932816492,135295889571960,165946530012881617009,145203210503027753063,111,159032081073812275317,154069206061470798049116277,154883432563268255860,149351880114732728421,169933840271944034316153233014906,150734761710321074293,153500547243933237350,178720255632827191050305638,163313347749257321503916147,153500529866505584742,0,8365221638601952386087278415667899759110972827536232843813298208652048895749900287862724540441169206908086312272929733419309969495942224730108131437911051109582084485381934678678068957481362169988255912175027558380730408507437917334522103726195,193964869918473209390857093251188,210361458286800070249633914806960783476,150987809826136939569741925,180260925401311560300101743,135295878430831,247496107095066683506635890295451581765435728459681675269374067,113289276663662674201056206848102,510804321621075116728014738175224217076696156749651000586728520160297778676705324368306307184,139019625103462,172557499117251010270462067,121642174054516,341780170500261350493163026375799080732353306074451485784998005,67960893,160414972599360553071,206278835255123609838392206681985054907398148853668970581,43,48,38,125,39,95,888287279332338702896351805375642336463086221869257153943004509738109868016718989115426754617532733625148906380656756,811292905282158695141132678013437999701239713328539092817560966701272423885847175055582070121223813363230769268,44,121642176282725,46,190531855558699129422376780234854,251615335977328954582525570689284350150573463830643,625439065434905286333946085201171348385257397109797821298668064636110493115206687685641312345128993,177179555440838489035833461,245019218379069810072690135595150951531806821,625439065434905286333946085201171348385257397109797821298668064636110493098259092056070474733781025,127,168217333862400867356601388826726,190531880209755615227708854108275,199114395309820505029444642013293,142437447311835463781,181801633890604730852507770,136905908516979802234,405947242910063262853956098257824444634428456153291216948354160167062012006,178720237655309350992937062,145203215468016631910,156266302987670061173,288261426016390533052080445854495471653513949813833400422,200830890934525940892071419576421,217321448253653198788353542177074111643451494,779199427222247353168828627226000459602367145221256096343168649582310515270854777755125642933977414132865568646037620,33,6800087697013756601417375584365207239993422975064672445581641087041309431667883533012965251815319986167797681928878035399300069109115642332043662570372746194279596321585138343004832012716383045982682078274594005375306155349475655784,179832855081168803976971519744269993162504689105919475796,237372963936417856709705977568056874497079380017263,453946178742417064386082396049086961172507532376008335489302032500966292587970562490484,256042739054116579292015842329626922401818022630185797559835270578291,124780647,111411303,137035879,129237095,125894759,158691273448127177773547636,156266302987660034163,180260948910395502622998633,344672859256473647630447929310896175073814428568365853912625869881459,505746885091071760437307030427040372485824711910499398668657266033747371978004661502856265843,197397862708557998230371783475317,161797866607418867813,122883427401845,193964852970873431135512850399354,109183079,98,99,154069186701055226204586106,145225862873200,180260944761734579617923181,143984620666993,169933849516092636565269484929144,275352612769433384641073521811323190435450402111604,107,143984597270645,138288792595080413303,160414986253059358830,121642176282724,143984593928291,143984615096419,124124677406833,121642187423845,161797854194971181173,124780659,232625485993616845172564840097468335361965376929908,321155540307955437207688774748648839813784440504699003733540980,238627438806941127150883310481054370708652148,221835709723406172111069834892922585191,159032081073792221285,184883020445721494057975910,178720261164363503410413670,312316402504319924164489991656999522153651285341135669541470319,200830860120715705277473490337909,199114379902926450338834587844710,407451116891671041331985307771870715705748923958241102660633356259129069357301876,131572151812196,125365914042468,137778369527912,251615325324335590291486278968044357543174412435572,239746669883484621786198528349764068667009287061620,263483942414390558739233673913121792519746892595316,161772658620361104130637940,328259881672583407568853950832450911778530709076866745003867433336935,2941465321337247173281270085984037891631664375913501371796339458966554368607172219490988282746801236925285973427261156387244916394119130070906417348603340922968397472273374792142618730,2608952104566108998272523729458500214197616598254474921919442854955867206489954664591893839576313174523257214654575098135533938488416483159521970691182644862363356540451291703786405994,1055993636308544705141155584930193136108121454485578313636517156244248259388215038403648621357955403455983365593589233692141753600376938,1626959197146523751920150979704600780553906975758130282534185572248072498459355073970154156246040153423137639006984151779173583201397298675557249104617274998893,168317542234406431287640271458777332686716981,168317542234406431287640271458777332683374643,168317542234406431287640271458777332681146423,151077757204308392053617833268807204921,561378986524609093479218086301468168767181654825914424826836525442011856358237675023956836467,129089662943347,115,171016782330632270028079220,300530854579122017093783822879066399705219882798108008790753396,262607974283355875544741381333554150846040653685576299184133090836595,176840011890972679488760496656855043387293811,143984613982323,321155503283614052131642572329402150150752192732585148907716712,139019622875237,130330904035445,251615335977328954572226529150709320463781372231781,212273843825121890062520640574241243237,1758343178849988867000356744910158713976586701616980539025175821587531781052523795737505811986324318998998171775316680658418084075690563856632258245558373,155609882744365627775189108,139671669225684336741,130958808280991564535234644,159032093486272217204,139671681638149849190,143984600612973,143984600612979,184883006616863335727824998,199114370658764019240248732418149,251615335977328954591108061138292754163113342140517,202711974494069758768794487968553566310,303477254122266230518278821071762946194265595491801035744608357,173366843846876234490789391302758,193150081131930975361002368941792690291,158691277596811684430676069,131572150698094,129089650688117,245019218379076676076758602377288493549617267,214186220781161254120665885010712002661,361085795591090280116239300630520055492614086105989822377791481380981,341780170500268471525780279757055560142792214103808452432363635,219923344782964058178993517269112324211,154883442493232644211,264460067597145285395106990105356602055069320785050796133,144186262617197450688486128812116,526577465804404301261945120445926597043343065035748823199297973078001436489364606943348,158727282193069277061242100110017822804,219923344782976383792975388552940879973,522038037102021850768517581903082910639641861618919200798856499878245129593221695406185,294638126896958696355120346297129274964985219631171718252855412,140260878450805,145203220432986570857,146586111958563815533,216098599453611504860463834219445223541,298839856065634071983942601735031248415465678471103381620,232235609513087116008200616588242626748416102,146586100787340509303,576551405061816635521697864200947277287917971074561855814171720545996316887505014808614666356,180232838671180585543399253606516,365718230616290044470619461551124347931361624536180429742739513202095292518,294638155987534513827946327393569818951526845783271761700323440,178720251484157579345330285,200353941840191138574742489805382237989769602726486362457833556,217321452078436291174068315523518059570921573,160639659148999252079222059344302768212,137778380669041,136537135120503,135295878430818,167329397954785640552,192248358886848826874564851400821,217321452078407110648303539416232187499380838,156266327812582146153,140260871766129,193964883784685049626741379104882,156266302987653349484,174098182714608432799219826,202547381937150161176856629608556,167935406838603026497208422,159032081073798905972,370933641068995324770231348737559814380365052664580932530252285935717,332941053853398107930670216090563270215305442983363304486797413,103023474114641,103023455174737,138288782665112682605,131572151812213,199114361414636160304436127793269,140260860625007,152117643305927245946,155609888275914352589668469,160414981288088305781,160231972257231801686294645,169476102881958112904216677,143984615096430,160414980046840528998,227878048532233072623626241306879832418664902164600,148949575008378,103023494168680,218032294140949466572413095959335474531585647540283907679191151,135603823011017422072163672129651,183588210084247638596803672813832831088,204537827913381305132362133525982300535652456,91852293144686,121642174054500,166394728772819153690558575,282852613351527894293971543145408134054093204566733675139825779,144186338111082311873899460034669,96817266425966,34,137778380669045,160414967634392842342,125365931868262,227878048532233072623626241306882598180614872301684,132499537513635276115869818,70189119,225843843327537047073715712020723397306155125,136905908516997628009,124124681863280,143984592814195,150190836154483,227878048532233072623626241306900575705902390706287,227878048532233072623626241306899192826789302370420,115005783073205841160608051036282,204537827913381305132362133525964923115798630,155609882744379281494048873,158691269299488597222883445,227878048532233072623626241306890895495013345656935,227878048532233072623626241306896427046220647891052,253881668406343253006853478954885881770259389953188429925,227878048532233072623626241306901958603634177867878,315129490766297445367645223876793998516936695284551473246780151693423,188815353771246858223006905467002,145203227880466546790,129418164787394048673775718,177179544377754693117935718,142743362863224,249280453207351217625242034934283492319952997,238627434982190648259072329098955155952762981,306773619259339591076267939287887771019883098445328023653,370933632229849587302686509680041116267382372787790106560110780612709,416918799775038536967056822536875303731745855102035551995429191722761322597,453946178742417064445169103565592031906366289894107081515219283353236186065729386578021,247149818581852240477963604710901497117147237,160414967634383929447,156266316641374437492,169476102881945700466557044,232625490254821075446708519585335849206232562794599,195062470103375003276879247344994222196,221835702857389778146468323221884502117,3682829924084306355117701799794414552176569001477213598551398749015248566949115162884920919969662603906036256797487878414728630822054358770046791502767247480460113248347608795354415367362475065460,112525415,145203215468009947237,174098178565930132374290534,172557475608194375366344821,184883007999736242615156841,109183093,275352578679864563343385004519264752584926733664373,146586119406019281013,150190833926254,142743356178545,152528501720807519350816879,247149818581829925976296285867753925140349044,114753652,115867764,109389177071157723036909684,133887296572508665067461723488378,183665863815764738870145572012133,136905891139558834278,163313347749244909048430713,178720237655291973550800998,136537123979374,221835702857369749160134964768132759669,142743351722088,150734766675317751925,216098604603124570687813900055014801528,129418120534984390219137100,204537803052516924526299489552122890984357984,152990213119360648267755131226143260773,193964879162594153871524397449337,180260953059048978124701798,165946517600426131573,166161165519103783006805525093677991270009199919215,100,199114364495996440574065828102245,180260935081515001879658597,149351875149752762485,150734761710315503719,122883418488933,152117660683369381990,204537827913381305132362133525979818044555375,253881668406343253006853478954919776971198778513589338217,129418141278339896256299110,306773647744049583346853714614835462700957792135843020901,261110236467331443165415334587679536737261973799013,227878048532233072623626241306879832402528714489957,253881668406343253006853478954913614216066069033470197862,216098577139092889947373971339298930798,253881668406343253006853478954896666599693187374710456421,112,123666544,109183078,102,123666534,110297190,116,123666548,113,123666545,109,115867750,121438310,104,109183085,111411309,112525421,110297197,143984609525869,122883435200621,143984601727085,125365918498925,142743347265657,142743349493881,142743350607993,142743348379769,142743367319665,142743348379761,142743367319658,142743350607978,146467087253555,146586113199808249908,221835737187423986643818179958618783853,154069207444357358622998629,124124665151608,138288805007523643494,138288781423872704614,124124688547941,124124667379826,142743362863213,142743362863219]
theorem nmC_eq:nmL.map (fun x=>encS (Str.ofString x).cps.toList)=nmC:=by kernel_rfl
theorem nmC_nd:nodupC nmC=true:=by kernel_rfl
theorem nm_short:nmL.all (fun x=>Nat.blt (Str.ofString x).cps.size 100)=true:=by kernel_rfl
theorem nm_far:nmL.all (fun x=>!(Str.ofString x==Str.ofString ".0")&& !(Str.ofString x==("__debug__":Str))&& !(Str.ofString x==("__classdict__":Str)))=true:=by kernel_rfl
theorem nmT_in{k:Nat}{x:String}(h:nmL[k]? =some x):nmT k=Str.ofString x:=by unfold nmT;rw [h]
theorem nmT_out{k:Nat}(h:nmL[k]? =none):nmT k=⟨(List.replicate (k+100) 97).toArray⟩:=by unfold nmT;rw [h]
theorem nmT_size{k:Nat}(h:nmL[k]? =none):(nmT k).cps.size=k+100:=by rw [nmT_out h];simp
theorem nmT_lt{k:Nat}{x:String}(h:nmL[k]? =some x):(nmT k).cps.size<100:=by
  rw [nmT_in h]
  have:=List.all_eq_true.mp nm_short x (List.mem_of_getElem? h)
  exact Nat.le_of_ble_eq_true this
theorem nmT_inj:Inj TT:=by
  intro i j e
  have e:nmT i=nmT j:=e
  cases hi:nmL[i]? with
  | none=>
    cases hj:nmL[j]? with
    |none=>have:=congrArg (fun x:Str=>x.cps.size) e;simp only [nmT_size hi,nmT_size hj] at this;omega
    |some y=>have:=congrArg (fun x:Str=>x.cps.size) e;simp only [nmT_size hi] at this;have:=nmT_lt hj;omega
  | some x=>
    cases hj:nmL[j]? with
    |none=>have:=congrArg (fun x:Str=>x.cps.size) e;simp only [nmT_size hj] at this;have:=nmT_lt hi;omega
    | some y=>
      have nd:nmC.Nodup:=nodupC_ok nmC_nd
      rw [nmT_in hi,nmT_in hj] at e
      have h1:nmC[i]? =some (encS (Str.ofString x).cps.toList):=by rw [←nmC_eq,List.getElem?_map,hi];rfl
      have h2:nmC[j]? =some (encS (Str.ofString x).cps.toList):=by rw [←nmC_eq,List.getElem?_map,hj,e];rfl
      obtain⟨l1,e1⟩:=List.getElem?_eq_some_iff.mp h1
      obtain⟨l2,e2⟩:=List.getElem?_eq_some_iff.mp h2
      exact(List.getElem_inj nd).mp (e1.trans e2.symm)
theorem nmT_far(k:Nat):(nmT k==Str.ofString ".0")=false∧(nmT k==("__debug__":Str))=false∧(nmT k==("__classdict__":Str))=false:=by
  cases hk:nmL[k]? with
  | none=>
    have hs:=nmT_size hk
    have big: ∀y:Str,y.cps.size<100→(nmT k==y)=false:=fun y hy=>by
      rw [beq_eq_false_iff_ne];intro q;rw [q] at hs;omega
    exact⟨big _ (by decide+kernel),big _ (by decide+kernel),big _ (by decide+kernel)⟩
  | some x=>
    have:=List.all_eq_true.mp nm_far x (List.mem_of_getElem? hk)
    rw [nmT_in hk]
    simpa only [Bool.and_eq_true,Bool.not_eq_true',and_assoc] using this
theorem tab1_mem{α:Type}{k:Nat}{a:α}: ∀{l:List (Nat×α)},tab1 k l=some a→(k,a)∈l
  | [],h=>by simp [tab1] at h
  | (i,b)::l,h=>by
    simp only [tab1] at h
    by_cases q:k=i
    · rw [if_pos q] at h;cases h;subst q;exact .head _
    · rw [if_neg q] at h;exact .tail _ (tab1_mem h)
theorem tab2_mem{α:Type}{k j:Nat}{a:α}: ∀{l:List (Nat×Nat×α)},tab2 k j l=some a→(k,j,a)∈l
  | [],h=>by simp [tab2] at h
  | (i,i',b)::l,h=>by
    simp only [tab2] at h
    by_cases q:k=i
    · rw [if_pos q] at h
      by_cases q':j=i'
      · rw [if_pos q'] at h;cases h;subst q;subst q';exact .head _
      · rw [if_neg q'] at h;exact .tail _ (tab2_mem h)
    · rw [if_neg q] at h;exact .tail _ (tab2_mem h)
theorem char_all:charL.all (fun p=>(match(nmT p.1).cps[p.2.1]? with |some c=>nmT p.2.2==⟨#[c]⟩ |none=>false)&&Nat.blt p.2.1 1000)=true:=by kernel_rfl
theorem len_all: ∀p∈lenL,(nmT p.1).length=p.2∧p.2<1000:=by decide+kernel
theorem cut_all: ∀p∈cutL,Txt.slice (nmT p.1) (some p.2.1) none=nmT p.2.2∧(nmT p.1).length≤1000:=by decide+kernel
theorem starts_all: ∀p∈startsL,Txt.startswith (nmT p.1) (nmT p.2.1)=p.2.2:=by decide+kernel
theorem split0_all: ∀p∈split0L,Txt.words (nmT p.1)=p.2.map nmT∧(nmT p.1).length≤1000∧(Builtin.Str.spaceWords (nmT p.1) ((nmT p.1).length+1)).length≤1000:=by decide+kernel
theorem split1_all: ∀p∈split1L,Txt.split (nmT p.1) (nmT p.2.1)=p.2.2.map nmT∧((nmT p.2.1).length==0)=false∧(nmT p.1).length≤1000∧
    (Builtin.Str.partsBetween (nmT p.1) (Builtin.Str.occurrences (nmT p.1) (nmT p.2.1) 0 (nmT p.1).length ((nmT p.1).length+1)) (nmT p.2.1).length).length≤1000:=by decide+kernel
theorem tk_char(x i y:Nat)(e:tab2 x i charL=some y): ∃c,(nmT x).cps[i]? =some c∧nmT y=⟨#[c]⟩∧i<1000:=by
  have:=List.all_eq_true.mp char_all _ (tab2_mem e)
  simp only [Bool.and_eq_true] at this
  obtain⟨h1,h2⟩:=this
  split at h1
  · rename_i c hc;exact⟨c,hc,beq_iff_eq.mp h1,Nat.le_of_ble_eq_true h2⟩
  · cases h1
theorem tk_empty:nmT 17="":=by kernel_rfl
theorem tk_init:nmT 302="__init__":=by kernel_rfl
theorem tk_len(x n:Nat)(e:tab1 x lenL=some n):(nmT x).length=n∧n<1000:=len_all (x,n) (tab1_mem e)
theorem tk_cut(x i y:Nat)(e:tab2 x i cutL=some y):Txt.slice (nmT x) (some i) none=nmT y∧(nmT x).length≤1000:=cut_all (x,i,y) (tab2_mem e)
theorem tk_starts(x y:Nat)(b:Bool)(e:tab2 x y startsL=some b):Txt.startswith (nmT x) (nmT y)=b:=starts_all (x,y,b) (tab2_mem e)
theorem tk_split0(x:Nat)(xs:List Nat)(e:tab1 x split0L=some xs):Txt.words (nmT x)=xs.map nmT∧(nmT x).length≤1000∧(Builtin.Str.spaceWords (nmT x) ((nmT x).length+1)).length≤1000:=split0_all (x,xs) (tab1_mem e)
theorem tk_split1(x y:Nat)(xs:List Nat)(e:tab2 x y split1L=some xs):Txt.split (nmT x) (nmT y)=xs.map nmT∧((nmT y).length==0)=false∧(nmT x).length≤1000∧
    (Builtin.Str.partsBetween (nmT x) (Builtin.Str.occurrences (nmT x) (nmT y) 0 (nmT x).length ((nmT x).length+1)) (nmT y).length).length≤1000:=split1_all (x,y,xs) (tab2_mem e)
theorem tab_ok:TabOk TT:=⟨nmT_inj,tk_char,tk_len,tk_cut,tk_starts,tk_split0,tk_split1,tk_empty,fun k=>(nmT_far k).1,tk_init⟩
theorem prog_ok(P:Params):FnsOk TT (KP P) where
  okay:=⟨tab_ok,glo_ok P 211 (.prim 3) rfl,clss_ok P⟩
  fn:=fns_ok P
  dbg k:=(nmT_far k).2
end Mine
end
section
open PySem PySem.Calls PySem.W
set_option maxRecDepth 100000
set_option maxHeartbeats 0
set_option genInjectivity false
set_option genSizeOf false
namespace Mine
noncomputable def clIn(K:Frag)(a:Nat):ClassData:=match K.lookup a with |some ⟨_,_,.cls cd,_⟩=>cd |_=>default
noncomputable def slIn(K:Frag)(a:Nat)(i:Nat):Option Value:=((oIn K a).slots.toList[i]?).join
noncomputable def mroIn1(K:Frag)(a:Nat):Addr:=match(clIn K a).mro with |_:: .ref m::_=>m |_=>0
theorem isExc_of{K:Frag}{a:Nat}(h:K.lookup a=some (excClassObj (clIn K a).name (clIn K a).qualname a (clIn K a).ns (clIn K a).bases [.ref (mroIn1 K a),.type "Exception",.type "BaseException",.type "object"] true (clIn K a).slotNames (clIn K a).subclasses (clIn K a).abstract (clIn K a).collection (oIn K a).dict (slIn K a 0) (slIn K a 1) (slIn K a 2) (slIn K a 3) (slIn K a 5) xNew)):IsExc K a:=
  ⟨_,_,_,_,_,_,_,_,_,_,_,_,_,_,_,h⟩
theorem isExc_sym(P:Params):IsExc (KP P) 71:=isExc_of (by kernel_rfl)
theorem isExc_mac(P:Params):IsExc (KP P) 83:=isExc_of (by kernel_rfl)
noncomputable def excC(K:Frag)(a:Nat):Bool:=isBt "object.__setattr__" (findIn K (.ref a) "__setattr__")&&(isNo (findIn K (.ref a) (TT.nm 306))&&(isNo (findIn K (.ref a) (TT.nm 281))&&(isRf 36 (findIn K (.ref a) "__init__")&&(isTy "function" (typeIn K (.ref 36))&&keepIn K (.ref a)))))
theorem excC_sym(P:Params):excC (KP P) 71=true:=by kernel_rfl
theorem excC_mac(P:Params):excC (KP P) 83=true:=by kernel_rfl
theorem exc_two{c:Nat}(h:TT.exc c=true):TT.clsAddr c=71∨TT.clsAddr c=83:=by
  have h:(Nat.beq c 1071||Nat.beq c 1083)=true:=h
  rw [Bool.or_eq_true] at h
  rcases h with h |h
  · rw [Nat.eq_of_beq_eq_true h];exact .inl rfl
  · rw [Nat.eq_of_beq_eq_true h];exact .inr rfl
theorem raise_ok{G:Gx}(hK:G.K=KP G.w.params):RaiseOk TT G:=by
  have cls: ∀c,TT.exc c=true→IsExc G.K (TT.clsAddr c):=fun c h=>by
    rw [hK]
    rcases exc_two h with q |q<;>rw [q]
    · exact isExc_sym _
    · exact isExc_mac _
  have chk: ∀c,TT.exc c=true→excC G.K (TT.clsAddr c)=true:=fun c h=>by
    rw [hK]
    rcases exc_two h with q |q<;>rw [q]
    · exact excC_sym _
    · exact excC_mac _
  have PO:=prog_ok G.w.params
  rw [←hK] at PO
  refine⟨fun c h=>?_,cls,fun c h=>?_⟩
  · have z:=chk c h
    unfold excC at z
    simp only [Bool.and_eq_true] at z
    obtain⟨z1,z2,z3,z4,z5,z6⟩:=z
    exact made_exc PO.okay (PO.fn 104 f_mint rfl) PO.dbg ⟨cls c h,isBt_eq z1,isNo_eq z2,isNo_eq z3⟩ (isRf_eq z4) (isTy_eq z5)
  · have z:=chk c h
    unfold excC at z
    simp only [Bool.and_eq_true] at z
    exact z.2.2.2.2.2
theorem prog_call{G:Gx}(hK:G.K=KP G.w.params)(n:Nat):KOk TT G n (call TT n):=by
  have PO:=prog_ok G.w.params
  rw [←hK] at PO
  exact call_ok PO (raise_ok hK) n
end Mine
end
section
open PySem PySem.W
set_option maxRecDepth 100000
set_option maxHeartbeats 0
set_option backward.match.sparseCases false
set_option genInjectivity false
set_option genSizeOf false
namespace Mine
inductive An where
  |c
  |b (x:Bool)
  |r (x:R V)
  |v (x:V)
  |m (f:Nat) (l:List V)
  |g (x:Sg)
  |h (x:V) (σ:Sg)
  |o (x:R Out)
inductive Tr(α:Type):Type 1 where
  |ok (a:α) (ps:List Prop) (as:List An)
  |need (q:List Prop)
noncomputable def AllP:List Prop→Prop
  | [] =>True
  |p::ps=>p∧AllP ps
section
variable {α β:Type}
noncomputable def Tr.pre(ps:List Prop)(t:Tr α):Tr α:=match t with | .ok a qs as=> .ok a (ps++qs) as | .need q=> .need q
noncomputable def Tr.bind(t:Tr (R α))(f:α→Sg→List An→Tr (R β)):Tr (R β):=match t with
  | .ok r ps as=>match r with
    | .ok a σ=>(f a σ as).pre ps
    | .exc c σ=> .ok (.exc c σ) ps as
    | .stuck=> .need []
  | .need q=> .need q
noncomputable def Tr.opt(o:Option α)(f:α→Tr β):Tr β:=match o with |some a=>f a |none=> .need []
noncomputable def Tr.grd(b:Bool)(t:Tr β):Tr β:=match b with |true=>t |false=> .need []
noncomputable def Tr.if(b:Bool)(x y:List An→Tr β)(as:List An):Tr β:=match as with
  | [] => .need [b=true]
  | a::as=>match a with
    | .b c=>cond c ((x as).pre [b=true]) ((y as).pre [b=false])
    |_=>cond b (x as) (y as)
noncomputable def Tr.chk(b:Bool)(x:List An→Tr β)(as:List An):Tr β:=match as with
  | [] => .need [b=true]
  | a::as=>match a with
    | .b _=>(x as).pre [b=true]
    |_=>Tr.grd b (x as)
noncomputable def Tr.chk2(far b:Bool)(x:List An→Tr β)(as:List An):Tr β:=match far with |false=>Tr.grd b (x as)|true=>Tr.chk b x as
noncomputable def Tr.val(far:Bool)(o:Option V)(f:V→List An→Tr β)(as:List An):Tr β:=match far with
  |false=>Tr.opt o fun u=>f u as
  | true=>match as with
    | [] => .need [o=none]
    | a::as=>match a with
      | .v u=>(f u as).pre [o=some u]
      |_=>Tr.opt o fun u=>f u as
noncomputable def Tr.bool(far:Bool)(o:Option Bool)(f:Bool→List An→Tr β)(as:List An):Tr β:=match far with
  |false=>Tr.opt o fun u=>f u as
  | true=>match as with
    | [] => .need [o=none]
    | a::as=>match a with
      | .b u=>(f u as).pre [o=some u]
      |_=>Tr.opt o fun u=>f u as
noncomputable def Tr.look(far:Bool)(o:Option (Nat×List V))(f:Nat×List V→List An→Tr β)(as:List An):Tr β:=match far with
  |false=>Tr.opt o fun u=>f u as
  | true=>match as with
    | [] => .need [o=none]
    | a::as=>match a with
      | .m k l=>(f (k,l) as).pre [o=some (k,l)]
      |_=>Tr.opt o fun u=>f u as
noncomputable def Tr.sto(far:Bool)(o:Option Sg)(f:Sg→List An→Tr β)(as:List An):Tr β:=match far with
  |false=>Tr.opt o fun u=>f u as
  | true=>match as with
    | [] => .need [o=none]
    | a::as=>match a with
      | .g u=>(f u as).pre [o=some u]
      |_=>Tr.opt o fun u=>f u as
noncomputable def Tr.both(far:Bool)(o:Option (V×Sg))(f:V×Sg→List An→Tr (R β))(as:List An):Tr (R β):=match as with
  | [] =>cond far (.need [o=none]) (Tr.opt o fun u=>f u [])
  | a::as=>match a with
    | .h u σ=>(f (u,σ) as).pre [o=some (u,σ)]
    |_=>Tr.opt o fun u=>f u (cond far as (a::as))
noncomputable def Tr.res(x:R V)(as:List An):Tr (R V):=match as with
  | [] => .need [x= .stuck]
  | a::as=>match a with
    | .r r=> .ok r [x=r] as
    |_=> .need [x= .stuck]
noncomputable def Tr.stm(far:Bool)(x:R Out)(f:List An→Tr (R Out))(as:List An):Tr (R Out):=match far with
  |false=>f as
  | true=>match as with
    | [] =>f []
    | a::as=>match a with
      | .o r=> .ok r [x=r] as
      |_=>f (a::as)
end
noncomputable def Sx.cpd:Sx→Bool | .ifs _ _ _ _=>true | .whl _ _ _=>true | .for _ _ _ _ _=>true |_=>false
noncomputable def V.far:V→Bool | .obj _ o _=>!o | .ref o _=>!o |_=>false
noncomputable def hard:Operator→Bool | .Add=>false | .Sub=>false | .BitAnd=>false | .BitOr=>false | .BitXor=>false |_=>true
noncomputable def V.seq:V→Bool | .lst _=>true | .tup _=>true |_=>false
noncomputable def farL:List V→Bool | [] =>false |v::_=>v.far||v.seq
noncomputable def Ex.lit:Ex→Bool | .int _ _ _=>true | .neg a _=>a.lit | .str _ _ _=>true |_=>false
noncomputable def runCall(n:Nat)(g:V)(vs:List V)(σ:Sg)(as:List An):Tr (R V):=match g with
  | .fn f=>Tr.res (call TT n f vs σ) as
  | .cls c=>Tr.res (construct TT (call TT n) c vs σ) as
  | .prim p=>Tr.val (farL vs) (primV TT σ p vs) (fun u as=> .ok (.ok u σ) [] as) as
  |_=> .need []
mutual
noncomputable def runE(n:Nat)(fn:Fn)(ρ:List (Option V)):Ex→Sg→List An→Tr (R V)
  | .loc i _,σ,as=>Tr.opt (ρ[i]?.bind id) fun v=> .ok (.ok v σ) [] as
  | .glob i _,σ,as=>Tr.opt fn.gv[i]? fun v=> .ok (.ok v σ) [] as
  | .int i _ _,σ,as=> .ok (.ok (.int i) σ) [] as
  | .str x _ _,σ,as=> .ok (.ok (.str x) σ) [] as
  | .bool b _ _,σ,as=> .ok (.ok (.bool b) σ) [] as
  | .none _ _,σ,as=> .ok (.ok .none σ) [] as
  | .bin op a b _,σ,as=>(runE n fn ρ a σ as).bind fun v σ as=>(runE n fn ρ b σ as).bind fun w σ as=>Tr.val (hard op||v.seq) (binV op v w) (fun u as=> .ok (.ok u σ) [] as) as
  | .mulM o a b _,σ,as=>(runE n fn ρ a σ as).bind fun v σ as=>(runE n fn ρ b σ as).bind fun w σ as=>Tr.opt (v.asLst.bind one) fun v=>Tr.opt w.asInt fun i=>
      Tr.chk (decide (0≤i)&&decide (i≤1000)&&(o||v.free)) (fun as=> .ok (.ok (.ref o (σ.nxt o)) (σ.new o (.list (List.replicate i.toNat v)))) [] as) as
  | .neg a _,σ,as=>(runE n fn ρ a σ as).bind fun v σ as=>Tr.opt v.asInt fun i=> .ok (.ok (.int (-i)) σ) [] as
  | .not a _,σ,as=>(runE n fn ρ a σ as).bind fun v σ as=>Tr.opt v.asBool fun b=> .ok (.ok (.bool (!b)) σ) [] as
  | .cmp op a b _,σ,as=>(runE n fn ρ a σ as).bind fun v σ as=>(runE n fn ρ b σ as).bind fun w σ as=>Tr.bool (v.far||w.far||v.seq) (cmpV σ op v w) (fun u as=> .ok (.ok (.bool u) σ) [] as) as
  | .cmp2 op op' a b c _,σ,as=>(runE n fn ρ a σ as).bind fun v σ as=>(runE n fn ρ b σ as).bind fun w σ as=>Tr.opt v.asInt fun i=>Tr.opt w.asInt fun j=>Tr.opt (cmpI op i j) fun d=>Tr.if d
      (fun as=>(runE n fn ρ c σ as).bind fun u σ as=>Tr.opt u.asInt fun k=>Tr.opt (cmpI op' j k) fun d=> .ok (.ok (.bool d) σ) [] as)
      (fun as=> .ok (.ok (.bool false) σ) [] as) as
  | .and es _,σ,as=>Tr.grd (!es.isEmpty) (runAnd n fn ρ es σ as)
  | .or es _,σ,as=>Tr.grd (!es.isEmpty) (runOr n fn ρ es σ as)
  | .ite t a b _,σ,as=>(runE n fn ρ t σ as).bind fun v σ as=>Tr.opt v.asBool fun c=>Tr.if c (fun as=>runE n fn ρ a σ as) (fun as=>runE n fn ρ b σ as) as
  | .tup es _ _,σ,as=>(runEs n fn ρ es σ as).bind fun v σ as=>Tr.opt v.asTup fun vs=>Tr.grd (decide (vs.length≤lineN)) (.ok (.ok (.tup vs) σ) [] as)
  | .lst es _,σ,as=>(runEs n fn ρ es σ as).bind fun v σ as=>Tr.opt v.asTup fun vs=>Tr.grd (decide (vs.length≤lineN)) (.ok (.ok (.lst vs) σ) [] as)
  | .lstM o es _,σ,as=>(runEs n fn ρ es σ as).bind fun v σ as=>Tr.opt v.asTup fun vs=>Tr.chk (decide (vs.length≤lineN)&&(o||freeL vs)) (fun as=> .ok (.ok (.ref o (σ.nxt o)) (σ.new o (.list vs))) [] as) as
  | .dictI o _,σ,as=> .ok (.ok (.ref o (σ.nxt o)) (σ.new o (.idict (fun _=>none) 0))) [] as
  | .dictS o xs es _,σ,as=>Tr.grd (es.all isC) ((runEs n fn ρ es σ as).bind fun v σ as=>Tr.opt v.asTup fun vs=>
      Tr.grd (decide (vs.length=xs.length)&&decide (vs.length≤15)&&decide (xs.map (·.1)).Nodup) (.ok (.ok (.ref o (σ.nxt o)) (σ.new o (.sdict (xs.map (·.1)) vs))) [] as))
  | .attr a x _,σ,as=>(runE n fn ρ a σ as).bind fun v σ as=>Tr.val v.far (attrV TT σ x v) (fun u as=> .ok (.ok u σ) [] as) as
  | .sub a b _,σ,as=>(runE n fn ρ a σ as).bind fun v σ as=>(runE n fn ρ b σ as).bind fun w σ as=>Tr.val (v.far|| !b.lit) (subV TT σ v w) (fun u as=> .ok (.ok u σ) [] as) as
  | .slcTo a h _ _,σ,as=>(runE n fn ρ a σ as).bind fun v σ as=>(runE n fn ρ h σ as).bind fun w σ as=>Tr.opt v.asLst fun vs=>Tr.opt w.asInt fun i=>
      Tr.chk (decide (0≤i)&&decide (vs.length≤lineN)) (fun as=> .ok (.ok (.lst (vs.take i.toNat)) σ) [] as) as
  | .slcOn a l _ _,σ,as=>(runE n fn ρ a σ as).bind fun v σ as=>(runE n fn ρ l σ as).bind fun w σ as=>Tr.opt w.asInt fun i=>Tr.grd (decide (0≤i)) (Tr.val v.far (cutV TT σ v i.toNat) (fun u as=> .ok (.ok u σ) [] as) as)
  | .call f es _,σ,as=>Tr.grd (isN f) ((runE n fn ρ f σ as).bind fun g σ as=>(runEs n fn ρ es σ as).bind fun v σ as=>Tr.opt v.asTup fun vs=>runCall n g vs σ as)
  | .meth a x es _ _,σ,as=>Tr.grd (decide (es.length<29)) ((runE n fn ρ a σ as).bind fun v σ as=>Tr.look v.far (mlook TT σ x v) (fun p as=>(runEs n fn ρ es σ as).bind fun v σ as=>Tr.opt v.asTup fun vs=>Tr.res (call TT n p.1 (p.2++vs) σ) as) as)
  | .bm m a es _ _,σ,as=>Tr.grd (decide (es.length<29)) ((runE n fn ρ a σ as).bind fun v σ as=>Tr.chk2 v.far (bmOk σ m v) (fun as=>(runEs n fn ρ es σ as).bind fun u σ as=>Tr.opt u.asTup fun vs=>Tr.both v.far (bmV TT σ m v vs) (fun p as=> .ok (.ok p.1 p.2) [] as) as) as)
  | .comp1 a x y _ _ _ _ _,σ,as=>Tr.grd (decide (y=TT.int)&& !(decide (x=y))) ((runE n fn ρ a σ as).bind fun v σ as=>Tr.res (R.opt (compI v) fun vs=> .ok (.lst vs) σ) as)
noncomputable def runEs(n:Nat)(fn:Fn)(ρ:List (Option V)):List Ex→Sg→List An→Tr (R V)
  | [],σ,as=> .ok (.ok (.tup []) σ) [] as
  |e::es,σ,as=>(runE n fn ρ e σ as).bind fun v σ as=>(runEs n fn ρ es σ as).bind fun u σ as=>Tr.opt u.asTup fun vs=> .ok (.ok (.tup (v::vs)) σ) [] as
noncomputable def runAnd(n:Nat)(fn:Fn)(ρ:List (Option V)):List Ex→Sg→List An→Tr (R V)
  | [],σ,as=> .ok (.ok (.bool true) σ) [] as
  |e::es,σ,as=>(runE n fn ρ e σ as).bind fun v σ as=>Tr.opt v.asBool fun b=>Tr.if b (fun as=>runAnd n fn ρ es σ as) (fun as=> .ok (.ok (.bool false) σ) [] as) as
noncomputable def runOr(n:Nat)(fn:Fn)(ρ:List (Option V)):List Ex→Sg→List An→Tr (R V)
  | [],σ,as=> .ok (.ok (.bool false) σ) [] as
  |e::es,σ,as=>(runE n fn ρ e σ as).bind fun v σ as=>Tr.opt v.asBool fun b=>Tr.if b (fun as=> .ok (.ok (.bool true) σ) [] as) (fun as=>runOr n fn ρ es σ as) as
end
noncomputable def runO(f:List (Option V)→Sg→List An→Tr (R Out))(o:Out)(σ:Sg)(as:List An):Tr (R Out):=match o with | .next ρ=>f ρ σ as | .ret v=> .ok (.ok (.ret v) σ) [] as
noncomputable def runT(n:Nat)(fn:Fn)(ρ:List (Option V))(v:V):Tg→Sg→List An→Tr (R Out)
  | .loc i _,σ,as=>Tr.grd (decide (i<ρ.length)) (.ok (.ok (.next (ρ.set i (some v))) σ) [] as)
  | .attr a x _,σ,as=>(runE n fn ρ a σ as).bind fun o σ as=>Tr.sto o.far (setAttr TT σ x v o) (fun σ as=> .ok (.ok (.next ρ) σ) [] as) as
  | .sub a b _,σ,as=>(runE n fn ρ a σ as).bind fun o σ as=>(runE n fn ρ b σ as).bind fun i σ as=>Tr.sto o.far (setSub σ o i v) (fun σ as=> .ok (.ok (.next ρ) σ) [] as) as
noncomputable def runTs(n:Nat)(fn:Fn):List Tg→List V→List (Option V)→Sg→List An→Tr (R Out)
  | [],vs,ρ,σ,as=>Tr.grd vs.isEmpty (.ok (.ok (.next ρ) σ) [] as)
  | t::ts,vs,ρ,σ,as=>match vs with
    | [] => .need []
    |v::vs=>(runT n fn ρ v t σ as).bind (runO (runTs n fn ts vs))
noncomputable def runF(b:V→List (Option V)→Sg→List An→Tr (R Out)):List V→List (Option V)→Sg→List An→Tr (R Out)
  | [],ρ,σ,as=> .ok (.ok (.next ρ) σ) [] as
  |v::vs,ρ,σ,as=>(b v ρ σ as).bind (runO (runF b vs))
mutual
noncomputable def runS(n:Nat)(fn:Fn):Sx→List (Option V)→Sg→List An→Tr (R Out)
  | .asg t e _,ρ,σ,as=>Tr.grd (!isComp e) ((runE n fn ρ e σ as).bind fun v σ as=>runT n fn ρ v t σ as)
  | .asgT ts _ _ e _,ρ,σ,as=>Tr.grd (!isComp e&&(!isTup e|| !ts.all (isLocT fn.cl))&&ts.all (locIn fn.ns.length)) ((runE n fn ρ e σ as).bind fun v σ as=>Tr.opt v.asTup fun vs=>Tr.grd (decide (ts.length=vs.length)) (runTs n fn ts vs ρ σ as))
  | .asgW i j _ _ _ _ a b _ _ _,ρ,σ,as=>Tr.grd (!(decide (i=j))&&decide (i<ρ.length)&&decide (j<ρ.length)&&nonC a&& !(fn.cl.contains i)&& !(fn.cl.contains j))
      ((runE n fn ρ a σ as).bind fun v σ as=>(runE n fn ρ b σ as).bind fun w σ as=> .ok (.ok (.next ((ρ.set j (some w)).set i (some v))) σ) [] as)
  | .asgW3 i j l _ _ _ _ _ a b c _ _ _,ρ,σ,as=>Tr.grd (!(decide (i=j))&& !(decide (i=l))&& !(decide (j=l))&&decide (i<ρ.length)&&decide (j<ρ.length)&&decide (l<ρ.length)&&nonC a&& !(fn.cl.contains i)&& !(fn.cl.contains j)&& !(fn.cl.contains l))
      ((runE n fn ρ a σ as).bind fun u σ as=>(runE n fn ρ b σ as).bind fun v σ as=>(runE n fn ρ c σ as).bind fun w σ as=> .ok (.ok (.next (((ρ.set l (some w)).set j (some v)).set i (some u))) σ) [] as)
  | .asgC i _ e x _ _ _ _ _ _ _ _,ρ,σ,as=>Tr.grd (decide (i<ρ.length)&& !(decide (fn.ns.getD i 0=x))&& !(fn.cl.contains i)) ((runE n fn ρ e σ as).bind fun v σ as=>Tr.opt (compS TT v) fun vs=> .ok (.ok (.next (ρ.set i (some (.ref true (σ.nxt true))))) (σ.new true (.list vs))) [] as)
  | .ex e _,ρ,σ,as=>Tr.grd (!isComp e) ((runE n fn ρ e σ as).bind fun v σ as=>Tr.grd v.quiet (.ok (.ok (.next ρ) σ) [] as))
  | .ret e _,ρ,σ,as=>(runE n fn ρ e σ as).bind fun v σ as=> .ok (.ok (.ret v) σ) [] as
  | .ret0 _,_,σ,as=> .ok (.ok (.ret .none) σ) [] as
  | .ifs t b c _,ρ,σ,as=>(runE n fn ρ t σ as).bind fun v σ as=>Tr.opt v.asBool fun d=>Tr.if d (fun as=>runSs n fn b ρ σ as) (fun as=>runSs n fn c ρ σ as) as
  | .whl t b p,ρ,σ,as=> .need [evalS TT (call TT n) fn (.whl t b p) ρ σ= .stuck]
  | .for i _ e b _,ρ,σ,as=>(runE n fn ρ e σ as).bind fun v σ as=>Tr.opt (iterV v) fun vs=>runF (fun v ρ σ as=>Tr.grd (decide (i<ρ.length)) (runSs n fn b (ρ.set i (some v)) σ as)) vs ρ σ as
  | .raise e _,ρ,σ,as=>Tr.opt (madeOf e) fun p=>Tr.opt (fn.gv[p.1]?.bind V.asCls) fun c=>Tr.grd (TT.exc c) (match runEs n fn ρ p.2 σ as with
    | .ok r ps as=>match r with
      | .ok v σ=>Tr.opt ((v.asTup.bind one).bind V.asStr) fun _=> .ok (.exc c σ) ps as
      | .exc c σ=> .ok (.exc c σ) ps as
      | .stuck=> .need []
    | .need q=> .need q)
noncomputable def runSs(n:Nat)(fn:Fn):List Sx→List (Option V)→Sg→List An→Tr (R Out)
  | [],ρ,σ,as=> .ok (.ok (.next ρ) σ) [] as
  |s::ss,ρ,σ,as=>(Tr.stm s.cpd (evalS TT (call TT n) fn s ρ σ) (fun as=>runS n fn s ρ σ as) as).bind (runO fun ρ σ as=>runSs n fn ss ρ σ as)
end
noncomputable def Tr.only{α β:Type}(t:Tr (R α))(f:α→Sg→List An→Tr (R β)):Tr (R β):=match t with
  | .ok r ps as=>match r with
    | .ok a σ=>(f a σ as).pre ps
    |_=> .need []
  | .need q=> .need q
noncomputable def runFn'(n:Nat)(fn:Fn)(vs:List V)(σ:Sg)(as:List An):Tr (R V):=Tr.opt (bindV fn vs) fun ρ=>match fn.pure with
  |true=>Tr.chk (freeL vs) (fun as=>(runSs n fn fn.body ρ ⟨σ.rw,[]⟩ as).only fun o σ' as=>Tr.val true (frz σ'.own o.val) (fun v as=> .ok (.ok v ⟨σ'.rw,σ.own⟩) [] as) as) as
  |false=>(runSs n fn fn.body ρ σ as).bind fun o σ' as=> .ok (.ok o.val σ') [] as
noncomputable def Snd{α:Type}(t:Tr α)(x:α):Prop:=match t with | .ok a ps _=>AllP ps→x=a | .need _=>True
theorem allP_app: ∀{ps qs:List Prop},AllP (ps++qs)→AllP ps∧AllP qs
  | [],_,h=>⟨trivial,h⟩
  |_::_,_,h=>⟨⟨h.1,(allP_app h.2).1⟩,(allP_app h.2).2⟩
section
variable {α β:Type}
theorem snd_pre{t:Tr α}{x:α}{ps:List Prop}(h:AllP ps→Snd t x):Snd (t.pre ps) x:=match t,h with
  | .ok _ _ _,h=>fun q=>h (allP_app q).1 (allP_app q).2
  | .need _,_=>trivial
theorem snd_bind{t:Tr (R α)}{x:R α}{f:α→Sg→List An→Tr (R β)}{g:α→Sg→R β}(h:Snd t x)(k: ∀a σ as,Snd (f a σ as) (g a σ)):Snd (t.bind f) (x.bind g):=match t,h with
  | .ok (.ok a σ) _ as,h=>snd_pre fun q=>by rw [h q];exact k a σ as
  | .ok (.exc _ _) _ _,h=>fun q=>by rw [h q];rfl
  | .ok .stuck _ _,_=>trivial
  | .need _,_=>trivial
theorem snd_only{t:Tr (R α)}{x:R α}{f:α→Sg→List An→Tr (R β)}{g:α→Sg→R β}(h:Snd t x)(k: ∀a σ as,Snd (f a σ as) (g a σ)):Snd (t.only f) (x.only g):=match t,h with
  | .ok (.ok a σ) _ as,h=>snd_pre fun q=>by rw [h q];exact k a σ as
  | .ok (.exc _ _) _ _,_=>trivial
  | .ok .stuck _ _,_=>trivial
  | .need _,_=>trivial
theorem snd_opt{o:Option α}{f:α→Tr (R β)}{g:α→R β}(h: ∀a,o=some a→Snd (f a) (g a)):Snd (Tr.opt o f) (R.opt o g):=match o,h with
  |some a,h=>h a rfl
  |none,_=>trivial
theorem snd_grd{b:Bool}{t:Tr (R β)}{x:R β}(h:Snd t x):Snd (Tr.grd b t) (R.grd b x):=match b with
  |true=>h
  |false=>trivial
theorem snd_eq{t:Tr α}{x y:α}(h:Snd t x)(e:x=y):Snd t y:=e▸h
theorem snd_cond{b:Bool}{t u:Tr α}{x y:α}(h:Snd t x)(k:Snd u y):Snd (cond b t u) (cond b x y):=match b with |true=>h |false=>k
theorem snd_if{b:Bool}{f g:List An→Tr α}{x y:α}(h: ∀as,Snd (f as) x)(k: ∀as,Snd (g as) y){as:List An}:Snd (Tr.if b f g as) (cond b x y):=by
  cases as with
  |nil=>trivial
  | cons a as=>
    cases a with
    | b c=>cases c with
      |true=>exact snd_pre fun q=>by rw [q.1];exact h as
      |false=>exact snd_pre fun q=>by rw [q.1];exact k as
    |_=>exact snd_cond (h as) (k as)
theorem snd_chk{b:Bool}{f:List An→Tr (R β)}{x:R β}(h: ∀as,Snd (f as) x){as:List An}:Snd (Tr.chk b f as) (R.grd b x):=by
  cases as with
  |nil=>trivial
  | cons a as=>
    cases a with
    |b c=>exact snd_pre fun q=>by rw [q.1];exact h as
    |_=>exact snd_grd (h as)
theorem snd_chk2{far b:Bool}{f:List An→Tr (R β)}{x:R β}(h: ∀as,Snd (f as) x){as:List An}:Snd (Tr.chk2 far b f as) (R.grd b x):=match far with
  |false=>snd_grd (h as)
  |true=>snd_chk h
theorem snd_hit{o:Option α}{u:α}{f:List An→Tr (R β)}{g:α→R β}{as:List An}(h: ∀as,Snd (f as) (g u)):Snd ((f as).pre [o=some u]) (R.opt o g):=snd_pre fun q=>by rw [q.1];exact h as
theorem snd_val{far:Bool}{o:Option V}{f:V→List An→Tr (R β)}{g:V→R β}(h: ∀a as,Snd (f a as) (g a)){as:List An}:Snd (Tr.val far o f as) (R.opt o g):=by
  cases far with
  |false=>exact snd_opt fun a _=>h a as
  | true=>
    cases as with
    |nil=>trivial
    |cons a as=>cases a<;>first |exact snd_hit (h _)|exact snd_opt fun a _=>h a as
theorem snd_bool{far:Bool}{o:Option Bool}{f:Bool→List An→Tr (R β)}{g:Bool→R β}(h: ∀a as,Snd (f a as) (g a)){as:List An}:Snd (Tr.bool far o f as) (R.opt o g):=by
  cases far with
  |false=>exact snd_opt fun a _=>h a as
  | true=>
    cases as with
    |nil=>trivial
    |cons a as=>cases a<;>first |exact snd_hit (h _)|exact snd_opt fun a _=>h a as
theorem snd_look{far:Bool}{o:Option (Nat×List V)}{f:Nat×List V→List An→Tr (R β)}{g:Nat×List V→R β}(h: ∀a as,Snd (f a as) (g a)){as:List An}:Snd (Tr.look far o f as) (R.opt o g):=by
  cases far with
  |false=>exact snd_opt fun a _=>h a as
  | true=>
    cases as with
    |nil=>trivial
    |cons a as=>cases a<;>first |exact snd_hit (h _)|exact snd_opt fun a _=>h a as
theorem snd_sto{far:Bool}{o:Option Sg}{f:Sg→List An→Tr (R β)}{g:Sg→R β}(h: ∀a as,Snd (f a as) (g a)){as:List An}:Snd (Tr.sto far o f as) (R.opt o g):=by
  cases far with
  |false=>exact snd_opt fun a _=>h a as
  | true=>
    cases as with
    |nil=>trivial
    |cons a as=>cases a<;>first |exact snd_hit (h _)|exact snd_opt fun a _=>h a as
theorem snd_both{far:Bool}{o:Option (V×Sg)}{f:V×Sg→List An→Tr (R β)}{g:V×Sg→R β}(h: ∀a as,Snd (f a as) (g a)){as:List An}:Snd (Tr.both far o f as) (R.opt o g):=by
  cases as with
  | nil=>
    cases far with
    |false=>exact snd_opt fun a _=>h a _
    |true=>trivial
  |cons a as=>cases a<;>first |exact snd_hit (h _)|exact snd_opt fun a _=>h a _
theorem snd_res{x:R V}{as:List An}:Snd (Tr.res x as) x:=by
  cases as with
  |nil=>trivial
  |cons a as=>cases a<;>first |trivial |exact fun q=>q.1
theorem snd_stm{far:Bool}{x:R Out}{f:List An→Tr (R Out)}(h: ∀as,Snd (f as) x){as:List An}:Snd (Tr.stm far x f as) x:=by
  cases far with
  |false=>exact h as
  | true=>
    cases as with
    |nil=>exact h []
    |cons a as=>cases a<;>first |exact fun q=>q.1 |exact h _
theorem snd_now{x:α}{as:List An}:Snd (.ok x [] as) x:=fun _=>rfl
end
theorem snd_prim{n p:Nat}(vs:List V)(σ:Sg){as:List An}:Snd (Tr.val (farL vs) (primV TT σ p vs) (fun u as=> .ok (.ok u σ) [] as) as) (R.opt (primV TT σ p vs) fun v=> .ok v σ):=by refine snd_val ?_;exact fun u as=>snd_now
theorem sndCall{n:Nat}(g:V)(vs:List V)(σ:Sg)(as:List An):Snd (runCall n g vs σ as) (callV TT (call TT n) g vs σ):=by
  cases g with
  |fn f=>exact snd_res
  |cls c=>exact snd_res
  |prim p=>exact snd_prim (n:=n) vs σ
  |_=>trivial
section
variable {n:Nat}{fn:Fn}
mutual
theorem sndE (ρ:List (Option V)): ∀(e:Ex) (σ:Sg) (as:List An),Snd (runE n fn ρ e σ as) (evalE TT (call TT n) fn ρ e σ)
  | .loc i _,σ,as=>snd_opt fun v _=>snd_now
  | .glob i _,σ,as=>snd_opt fun v _=>snd_now
  | .int i _ _,σ,as=>snd_now
  | .str x _ _,σ,as=>snd_now
  | .bool b _ _,σ,as=>snd_now
  | .none _ _,σ,as=>snd_now
  | .bin op a b _,σ,as=>snd_bind (sndE ρ a σ as) fun v σ as=>snd_bind (sndE ρ b σ as) fun w σ as=>by refine snd_val ?_;exact fun u as=>snd_now
  | .mulM o a b _,σ,as=>snd_bind (sndE ρ a σ as) fun v σ as=>snd_bind (sndE ρ b σ as) fun w σ as=>snd_opt fun v _=>snd_opt fun i _=>by refine snd_chk ?_;exact fun as=>snd_now
  | .neg a _,σ,as=>snd_bind (sndE ρ a σ as) fun v σ as=>snd_opt fun i _=>snd_now
  | .not a _,σ,as=>snd_bind (sndE ρ a σ as) fun v σ as=>snd_opt fun b _=>snd_now
  | .cmp op a b _,σ,as=>snd_bind (sndE ρ a σ as) fun v σ as=>snd_bind (sndE ρ b σ as) fun w σ as=>by refine snd_bool ?_;exact fun u as=>snd_now
  | .cmp2 op op' a b c _,σ,as=>snd_bind (sndE ρ a σ as) fun v σ as=>snd_bind (sndE ρ b σ as) fun w σ as=>snd_opt fun i _=>snd_opt fun j _=>snd_opt fun d _=>by
      refine snd_if ?_ ?_
      · refine fun as=>snd_bind (sndE ρ c σ as) ?_
        refine fun u σ as=>snd_opt ?_
        refine fun k _=>snd_opt ?_
        exact fun d _=>snd_now
      · exact fun as=>snd_now
  | .and es _,σ,as=>snd_grd (sndAnd ρ es σ as)
  | .or es _,σ,as=>snd_grd (sndOr ρ es σ as)
  | .ite t a b _,σ,as=>snd_bind (sndE ρ t σ as) fun v σ as=>snd_opt fun c _=>by
      refine snd_if ?_ ?_
      · exact fun as=>sndE ρ a σ as
      · exact fun as=>sndE ρ b σ as
  | .tup es _ _,σ,as=>snd_bind (sndEs ρ es σ as) fun v σ as=>snd_opt fun vs _=>snd_grd (snd_now)
  | .lst es _,σ,as=>snd_bind (sndEs ρ es σ as) fun v σ as=>snd_opt fun vs _=>snd_grd (snd_now)
  | .lstM o es _,σ,as=>snd_bind (sndEs ρ es σ as) fun v σ as=>snd_opt fun vs _=>by refine snd_chk ?_;exact fun as=>snd_now
  | .dictI o _,σ,as=>snd_now
  | .dictS o xs es _,σ,as=>snd_grd (snd_bind (sndEs ρ es σ as) fun v σ as=>snd_opt fun vs _=>snd_grd (snd_now))
  | .attr a x _,σ,as=>snd_bind (sndE ρ a σ as) fun v σ as=>by refine snd_val ?_;exact fun u as=>snd_now
  | .sub a b _,σ,as=>snd_bind (sndE ρ a σ as) fun v σ as=>snd_bind (sndE ρ b σ as) fun w σ as=>by refine snd_val ?_;exact fun u as=>snd_now
  | .slcTo a h _ _,σ,as=>snd_bind (sndE ρ a σ as) fun v σ as=>snd_bind (sndE ρ h σ as) fun w σ as=>snd_opt fun vs _=>snd_opt fun i _=>by refine snd_chk ?_;exact fun as=>snd_now
  | .slcOn a l _ _,σ,as=>snd_bind (sndE ρ a σ as) fun v σ as=>snd_bind (sndE ρ l σ as) fun w σ as=>by refine snd_opt ?_;refine fun i _=>snd_grd (snd_val ?_);exact fun u as=>snd_now
  | .call f es _,σ,as=>snd_grd (snd_bind (sndE ρ f σ as) fun g σ as=>snd_bind (sndEs ρ es σ as) fun v σ as=>snd_opt fun vs _=>sndCall g vs σ as)
  | .meth a x es _ _,σ,as=>snd_grd (snd_bind (sndE ρ a σ as) fun v σ as=>by refine snd_look ?_;refine fun p as=>snd_bind (sndEs ρ es σ as) ?_;refine fun u σ as=>snd_opt ?_;exact fun vs _=>snd_res)
  | .bm m a es _ _,σ,as=>snd_grd (snd_bind (sndE ρ a σ as) fun v σ as=>by refine snd_chk2 ?_;refine fun as=>snd_bind (sndEs ρ es σ as) ?_;refine fun u σ as=>snd_opt ?_;refine fun vs _=>snd_both ?_;exact fun p as=>snd_now)
  | .comp1 a x y _ _ _ _ _,σ,as=>snd_grd (snd_bind (sndE ρ a σ as) fun v σ as=>snd_res)
theorem sndEs(ρ:List (Option V)): ∀(es:List Ex) (σ:Sg) (as:List An),Snd (runEs n fn ρ es σ as) (evalEs TT (call TT n) fn ρ es σ)
  | [],σ,as=>snd_now
  |e::es,σ,as=>snd_bind (sndE ρ e σ as) fun v σ as=>snd_bind (sndEs ρ es σ as) fun u σ as=>snd_opt fun vs _=>snd_now
theorem sndAnd(ρ:List (Option V)): ∀(es:List Ex) (σ:Sg) (as:List An),Snd (runAnd n fn ρ es σ as) (evalAnd TT (call TT n) fn ρ es σ)
  | [],σ,as=>snd_now
  | e ::es,σ,as=>snd_bind (sndE ρ e σ as) fun v σ as=>snd_opt fun b _=>by
      refine snd_if ?_ ?_
      · exact fun as=>sndAnd ρ es σ as
      · exact fun as=>snd_now
theorem sndOr(ρ:List (Option V)): ∀(es:List Ex) (σ:Sg) (as:List An),Snd (runOr n fn ρ es σ as) (evalOr TT (call TT n) fn ρ es σ)
  | [],σ,as=>snd_now
  | e ::es,σ,as=>snd_bind (sndE ρ e σ as) fun v σ as=>snd_opt fun b _=>by
      refine snd_if ?_ ?_
      · exact fun as=>snd_now
      · exact fun as=>sndOr ρ es σ as
end
theorem snd_on{f:List (Option V)→Sg→List An→Tr (R Out)}{g:List (Option V)→Sg→R Out}(h: ∀ρ σ as,Snd (f ρ σ as) (g ρ σ))(o:Out)(σ:Sg)(as:List An):Snd (runO f o σ as) (Out.on g o σ):=match o with
  | .next ρ=>h ρ σ as
  | .ret v=>snd_now
theorem sndT(ρ:List (Option V))(v:V): ∀(t:Tg) (σ:Sg) (as:List An),Snd (runT n fn ρ v t σ as) (assignT TT (call TT n) fn ρ v t σ)
  | .loc i _,σ,as=>snd_grd (snd_now)
  | .attr a x _,σ,as=>snd_bind (sndE ρ a σ as) fun o σ as=>by refine snd_sto ?_;exact fun σ as=>snd_now
  | .sub a b _,σ,as=>snd_bind (sndE ρ a σ as) fun o σ as=>snd_bind (sndE ρ b σ as) fun i σ as=>by refine snd_sto ?_;exact fun σ as=>snd_now
theorem sndTs: ∀(ts:List Tg) (vs:List V) (ρ:List (Option V)) (σ:Sg) (as:List An),Snd (runTs n fn ts vs ρ σ as) (assignTs TT (call TT n) fn ts vs ρ σ)
  | [],vs,ρ,σ,as=>snd_grd (snd_now)
  |t::ts,[],ρ,σ,as=>trivial
  |t::ts,v::vs,ρ,σ,as=>snd_bind (sndT ρ v t σ as) fun o σ as=>snd_on (fun ρ σ as=>sndTs ts vs ρ σ as) o σ as
theorem sndF{b:V→List (Option V)→Sg→List An→Tr (R Out)}{b':V→List (Option V)→Sg→R Out}(h: ∀v ρ σ as,Snd (b v ρ σ as) (b' v ρ σ)): ∀(vs:List V) (ρ:List (Option V)) (σ:Sg) (as:List An),Snd (runF b vs ρ σ as) (loopF b' vs ρ σ)
  | [],ρ,σ,as=>snd_now
  |v::vs,ρ,σ,as=>snd_bind (h v ρ σ as) fun o σ as=>snd_on (fun ρ σ as=>sndF h vs ρ σ as) o σ as
theorem snd_raise{t:Tr (R V)}{x:R V}{c:Nat}(h:Snd t x):Snd (match t with
    | .ok r ps as=>match r with
      | .ok v σ=>Tr.opt ((v.asTup.bind one).bind V.asStr) fun _=> .ok (.exc c σ) ps as
      | .exc c σ=> .ok (.exc c σ) ps as
      | .stuck=> .need []
    | .need q=> .need q) (x.bind fun v σ=>R.opt ((v.asTup.bind one).bind V.asStr) fun _=>(.exc c σ:R Out)):=match t,h with
  | .ok (.ok v σ) ps as,h=>by
    cases hv:(v.asTup.bind one).bind V.asStr with
    |none=>simp only [hv];trivial
    | some w=>
      simp only [hv]
      exact fun q=>by rw [h q];show R.opt _ _=_;rw [hv];rfl
  | .ok (.exc _ _) _ _,h=>fun q=>by rw [h q];rfl
  | .ok .stuck _ _,_=>trivial
  | .need _,_=>trivial
mutual
theorem sndS: ∀(s:Sx) (ρ:List (Option V)) (σ:Sg) (as:List An),Snd (runS n fn s ρ σ as) (evalS TT (call TT n) fn s ρ σ)
  | .asg t e _,ρ,σ,as=>snd_grd (snd_bind (sndE ρ e σ as) fun v σ as=>sndT ρ v t σ as)
  | .asgT ts _ _ e _,ρ,σ,as=>snd_grd (snd_bind (sndE ρ e σ as) fun v σ as=>snd_opt fun vs _=>snd_grd (sndTs ts vs ρ σ as))
  | .asgW i j _ _ _ _ a b _ _ _,ρ,σ,as=>snd_grd (snd_bind (sndE ρ a σ as) fun v σ as=>snd_bind (sndE ρ b σ as) fun w σ as=>snd_now)
  | .asgW3 i j l _ _ _ _ _ a b c _ _ _,ρ,σ,as=>snd_grd (snd_bind (sndE ρ a σ as) fun v σ as=>snd_bind (sndE ρ b σ as) fun w σ as=>snd_bind (sndE ρ c σ as) fun w σ as=>snd_now)
  | .asgC i _ e x _ _ _ _ _ _ _ _,ρ,σ,as=>snd_grd (snd_bind (sndE ρ e σ as) fun v σ as=>snd_opt fun vs _=>snd_now)
  | .ex e _,ρ,σ,as=>snd_grd (snd_bind (sndE ρ e σ as) fun v σ as=>snd_grd (snd_now))
  | .ret e _,ρ,σ,as=>snd_bind (sndE ρ e σ as) fun v σ as=>snd_now
  | .ret0 _,_,σ,as=>snd_now
  | .ifs t b c _,ρ,σ,as=>snd_bind (sndE ρ t σ as) fun v σ as=>snd_opt fun d _=>snd_if (fun as=>sndSs b ρ σ as) (fun as=>sndSs c ρ σ as)
  | .whl t b _,ρ,σ,as=>trivial
  | .for i _ e b _,ρ,σ,as=>snd_bind (sndE ρ e σ as) fun v σ as=>snd_opt fun vs _=>sndF (b:=fun v ρ σ as=>Tr.grd (decide (i<ρ.length)) (runSs n fn b (ρ.set i (some v)) σ as)) (b':=fun v ρ σ=>R.grd (decide (i<ρ.length)) (evalSs TT (call TT n) fn b (ρ.set i (some v)) σ)) (fun v ρ σ as=>snd_grd (sndSs b _ σ as)) vs ρ σ as
  | .raise e _,ρ,σ,as=>snd_opt fun p _=>snd_opt fun c _=>snd_grd (snd_raise (sndEs ρ p.2 σ as))
theorem sndSs: ∀(ss:List Sx) (ρ:List (Option V)) (σ:Sg) (as:List An),Snd (runSs n fn ss ρ σ as) (evalSs TT (call TT n) fn ss ρ σ)
  | [],ρ,σ,as=>snd_now
  |s::ss,ρ,σ,as=>snd_bind (snd_stm (fun as=>sndS s ρ σ as)) fun o σ as=>snd_on (fun ρ σ as=>sndSs ss ρ σ as) o σ as
end
theorem sndFn(vs:List V)(σ:Sg)(as:List An):Snd (runFn' n fn vs σ as) (runFn TT (call TT n) fn vs σ):=snd_opt fun ρ _=>by
  cases fn.pure with
  |true=>exact snd_chk (fun as=>snd_only (sndSs fn.body ρ _ as) fun o σ' as=>by refine snd_val ?_;exact fun v as=>snd_now)
  |false=>exact snd_bind (sndSs fn.body ρ σ as) fun o σ' as=>snd_now
end
inductive Ev:List An→List Prop→Prop where
  |nil:Ev [] []
  |c {as ps} (t:Ev as ps):Ev (.c::as) ps
  |y {as ps} {b:Bool} (h:b=true) (t:Ev as ps):Ev (.b true::as) ((b=true)::ps)
  |n {as ps} {b:Bool} (h:b=false) (t:Ev as ps):Ev (.b false::as) ((b=false)::ps)
  |k {as ps} {o:Option Bool} {b:Bool} (h:o=some b) (t:Ev as ps):Ev (.b b::as) ((o=some b)::ps)
  |r {as ps} {x r:R V} (h:x=r) (t:Ev as ps):Ev (.r r::as) ((x=r)::ps)
  |v {as ps} {o:Option V} {u:V} (h:o=some u) (t:Ev as ps):Ev (.v u::as) ((o=some u)::ps)
  |m {as ps} {o:Option (Nat×List V)} {k:Nat} {l:List V} (h:o=some (k,l)) (t:Ev as ps):Ev (.m k l::as) ((o=some (k,l))::ps)
  |g {as ps} {o:Option Sg} {u:Sg} (h:o=some u) (t:Ev as ps):Ev (.g u::as) ((o=some u)::ps)
  |h {as ps} {o:Option (V×Sg)} {u:V} {σ:Sg} (h:o=some (u,σ)) (t:Ev as ps):Ev (.h u σ::as) ((o=some (u,σ))::ps)
  |o {as ps} {x r:R Out} (h:x=r) (t:Ev as ps):Ev (.o r::as) ((x=r)::ps)
theorem Ev.all{as:List An}{ps:List Prop}(e:Ev as ps):AllP ps:=by
  induction e with
  |nil=>trivial
  |c t ih=>exact ih
  |y h t ih=>exact⟨h,ih⟩
  |n h t ih=>exact⟨h,ih⟩
  |k h t ih=>exact⟨h,ih⟩
  |r h t ih=>exact⟨h,ih⟩
  |v h t ih=>exact⟨h,ih⟩
  |m h t ih=>exact⟨h,ih⟩
  |g h t ih=>exact⟨h,ih⟩
  |h h t ih=>exact⟨h,ih⟩
  |o h t ih=>exact⟨h,ih⟩
noncomputable def Tr.out{α:Type}(t:Tr α):Option (List Prop×α):=match t with | .ok a ps _=>some (ps,a)| .need _=>none
theorem snd_out{α:Type}{t:Tr α}{x r:α}{as:List An}{ps:List Prop}(s:Snd t x)(e:Ev as ps)(q:t.out=some (ps,r)):x=r:=match t,s,q with
  | .ok _ _ _,s,q=>by
    obtain⟨q1,q2⟩:=Prod.mk.inj (Option.some.inj q)
    exact(s (q1▸e.all)).trans q2
  | .need _,_,q=>nomatch q
theorem k_go{n f:Nat}{fn:Fn}{vs:List V}{σ:Sg}{r:R V}{as:List An}{ps:List Prop}(h:fnL[f]? =some fn)(e:Ev as ps)(q:(runFn' n fn vs σ as).out=some (ps,r)):call TT (n+1) f vs σ=r:=by
  show R.opt (fnL[f]?) _=r
  rw [h]
  exact snd_out (sndFn (n:=n) (fn:=fn) vs σ as) e q
theorem e_go{n:Nat}{fn:Fn}{ρ:List (Option V)}{x:Ex}{σ:Sg}{r:R V}{as:List An}{ps:List Prop}(e:Ev as ps)(q:(runE n fn ρ x σ as).out=some (ps,r)):evalE TT (call TT n) fn ρ x σ=r:=by
  exact snd_out (sndE (n:=n) (fn:=fn) ρ x σ as) e q
theorem s_go{n:Nat}{fn:Fn}{ρ:List (Option V)}{x:Sx}{σ:Sg}{r:R Out}{as:List An}{ps:List Prop}(e:Ev as ps)(q:(runS n fn x ρ σ as).out=some (ps,r)):evalS TT (call TT n) fn x ρ σ=r:=by
  exact snd_out (sndS (n:=n) (fn:=fn) x ρ σ as) e q
theorem ss_go{n:Nat}{fn:Fn}{ρ:List (Option V)}{x:List Sx}{σ:Sg}{r:R Out}{as:List An}{ps:List Prop}(e:Ev as ps)(q:(runSs n fn x ρ σ as).out=some (ps,r)):evalSs TT (call TT n) fn x ρ σ=r:=by
  exact snd_out (sndSs (n:=n) (fn:=fn) x ρ σ as) e q
end Mine
end
section
open PySem PySem.W
set_option maxRecDepth 100000
set_option smartUnfolding false
namespace Mine
theorem call_go{n f:Nat}{fn:Fn}{vs:List V}{σ:Sg}{r:R V}(h:fnL[f]? =some fn)(e:runFn TT (call TT n) fn vs σ=r):call TT (n+1) f vs σ=r:=by
  rw [←e];show R.opt fnL[f]? _=_
  rw [h];rfl
theorem run_go{n:Nat}{fn:Fn}{vs:List V}{σ:Sg}{ρ:List (Option V)}{r:R V}(hp:fn.pure=false)(hb:bindV fn vs=some ρ)
    (e:outR (evalSs TT (call TT n) fn fn.body ρ σ)=r):runFn TT (call TT n) fn vs σ=r:=by
  rw [←e];unfold runFn;rw [hb,hp];rfl
theorem lineN_eq:lineN=100000:=rfl
theorem sm_one:sm 1=true:=rfl
theorem sm_of{i:Int}{k:Nat}(h:i.natAbs<2 ^ k)(hk:k≤4000):sm i=true:=by
  unfold sm
  rw [decide_eq_true_eq]
  exact Nat.lt_of_lt_of_le h (Nat.pow_le_pow_right (by decide) hk)
theorem word_of{i:Int}(h0: -18446744073709551616<i)(h1:i<18446744073709551616):word i=true:=by
  unfold word
  rw [decide_eq_true_eq]
  have:(2:Nat)^ 64=18446744073709551616:=by decide
  omega
theorem sm_w{i:Int}(h0: -18446744073709551616<i)(h1:i<18446744073709551616):sm i=true:=by
  have:(2:Nat)^ 64=18446744073709551616:=by decide
  exact sm_of (k:=64) (by omega) (by decide)
section
variable {i j s:Int}
theorem bin_shl(h0:0≤s)(h1:s≤100000)(h:sm i=true):binV .LShift (.int i) (.int s)=some (.int (i*2 ^ s.toNat)):=by
  show(og _ _).map V.int=_
  rw [decide_eq_true h0,decide_eq_true h1,h];rfl
theorem bin_shl1(h0:0≤s)(h1:s≤1000):binV .LShift (.int 1) (.int s)=some (.int (2 ^ s.toNat)):=by
  rw [bin_shl h0 (Int.le_trans h1 (by decide)) sm_one,Int.one_mul]
theorem bin_shr(h0:0≤s):binV .RShift (.int i) (.int s)=some (.int (i/2 ^ s.toNat)):=by
  show(og _ _).map V.int=_
  rw [decide_eq_true h0]
  show some (V.int (i.fdiv (2 ^ s.toNat)))=_
  rw [Int.fdiv_eq_ediv_of_nonneg _ (Int.le_of_lt (Int.pow_pos (by decide)))]
theorem bin_mul(h:(word i||word j||(sm i&&sm j))=true):binV .Mult (.int i) (.int j)=some (.int (i*j)):=by
  show(og _ _).map V.int=_
  rw [h];rfl
theorem bin_div(h:0<j)(hs:sm j=true):binV .FloorDiv (.int i) (.int j)=some (.int (i/j)):=by
  show(og _ _).map V.int=_
  rw [hs,decide_eq_false (Int.ne_of_gt h)]
  show some (V.int (i.fdiv j))=_
  rw [Int.fdiv_eq_ediv_of_nonneg _ (Int.le_of_lt h)]
theorem bin_mod(h:0<j):binV .Mod (.int i) (.int j)=some (.int (i%j)):=by
  show(og _ _).map V.int=_
  rw [decide_eq_false (Int.ne_of_gt h)]
  show some (V.int (i.fmod j))=_
  rw [Int.fmod_eq_emod_of_nonneg _ (Int.le_of_lt h)]
end
theorem k_mask{n:Nat}{s:Int}{σ:Sg}(h0:0≤s)(h1:s≤1000):call TT (n+1) 0 [.int s] σ= .ok (.int (2 ^ s.toNat-1)) σ:=k_go rfl (.v (bin_shl1 h0 h1) .nil) rfl
theorem k_wrap{n:Nat}{i s:Int}{σ:Sg}(h0:0≤s)(h1:s≤1000):call TT (n+2) 1 [.int i,.int s] σ= .ok (.int (i%2 ^ s.toNat)) σ:=by
  rw [←kbt_mask];exact k_go rfl (.r (k_mask h0 h1) .nil) rfl
noncomputable def sg64(i:Int):Int:=if 9223372036854775808≤i%18446744073709551616 then i%18446744073709551616-18446744073709551616 else i%18446744073709551616
noncomputable def sg128(i:Int):Int:=if 170141183460469231731687303715884105728≤i%340282366920938463463374607431768211456 then i%340282366920938463463374607431768211456-340282366920938463463374607431768211456 else i%340282366920938463463374607431768211456
theorem top_of{a b:Int}(hb:0<b)(h0:0≤a)(h1:a<2*b):a/b=if b≤a then 1 else 0:=by
  split
  · have:a=(a-b)+1*b:=by omega
    rw [this,Int.add_mul_ediv_right _ _ (by omega),Int.ediv_eq_zero_of_lt (by omega) (by omega)];rfl
  · exact Int.ediv_eq_zero_of_lt (by omega) (by omega)
theorem k_signed{n:Nat}{i:Int}{σ:Sg}:call TT (n+3) 2 [.int i,.int 64] σ= .ok (.int (sg64 i)) σ:=by
  have t:=top_of (a:=i%18446744073709551616) (b:=9223372036854775808) (by decide) (by omega) (by omega)
  unfold sg64
  by_cases c:9223372036854775808≤i%18446744073709551616
  · rw [if_pos c] at t ⊢
    refine k_go rfl (.r (k_wrap ?_ ?_) (.v (bin_shr ?_) (.y (decide_eq_true t) (.v (bin_shl1 ?_ ?_) .nil)))) rfl
    all_goals decide
  · rw [if_neg c] at t ⊢
    have t': ¬i%18446744073709551616/9223372036854775808=1:=by rw [t];decide
    refine k_go rfl (.r (k_wrap ?_ ?_) (.v (bin_shr ?_) (.n (decide_eq_false t') .nil))) rfl
    all_goals decide
theorem k_signed128{n:Nat}{i:Int}{σ:Sg}:call TT (n+3) 2 [.int i,.int 128] σ= .ok (.int (sg128 i)) σ:=by
  have t:=top_of (a:=i%340282366920938463463374607431768211456) (b:=170141183460469231731687303715884105728) (by decide) (by omega) (by omega)
  unfold sg128
  by_cases c:170141183460469231731687303715884105728≤i%340282366920938463463374607431768211456
  · rw [if_pos c] at t ⊢
    refine k_go rfl (.r (k_wrap ?_ ?_) (.v (bin_shr ?_) (.y (decide_eq_true t) (.v (bin_shl1 ?_ ?_) .nil)))) rfl
    all_goals decide
  · rw [if_neg c] at t ⊢
    have t': ¬i%340282366920938463463374607431768211456/170141183460469231731687303715884105728=1:=by rw [t];decide
    refine k_go rfl (.r (k_wrap ?_ ?_) (.v (bin_shr ?_) (.n (decide_eq_false t') .nil))) rfl
    all_goals decide
noncomputable def fit(i:Int):Bool:=decide (-9223372036854775808≤i)&&decide (i<9223372036854775808)
theorem k_fits{n:Nat}{i:Int}{σ:Sg}:call TT (n+1) 3 [.int i,.int 64] σ= .ok (.bool (fit i)) σ:=by
  unfold fit
  by_cases c: -9223372036854775808≤i
  · rw [decide_eq_true c]
    exact k_go rfl (.v (bin_shl1 (s:=63) (by decide) (by decide)) (.y (decide_eq_true c) .nil)) (by kernel_rfl)
  · rw [decide_eq_false c]
    exact k_go rfl (.v (bin_shl1 (s:=63) (by decide) (by decide)) (.n (decide_eq_false c) .nil)) (by kernel_rfl)
theorem k_bit{n:Nat}{i s:Int}{σ:Sg}(h0:0≤s):call TT (n+1) 4 [.int i,.int s] σ= .ok (.int (i/2 ^ s.toNat%2)) σ:=by
  rw [show(2:Int)=2 ^ 1 from rfl,←kbt_mask]
  exact k_go rfl (.v (bin_shr h0) .nil) rfl
noncomputable def popc(n:Nat):Nat:=n%2+n/2%2+n/4%2+n/8%2+n/16%2+n/32%2+n/64%2+n/128%2
theorem popc_step: ∀n:Fin 256,n.val≠0→popc (n.val&&&(n.val-1))+1=popc n.val∧n.val&&&(n.val-1)<256:=by decide+kernel
theorem popc_pos: ∀n:Fin 256,n.val≠0→popc n.val≠0:=by decide+kernel
theorem popc_le: ∀n:Fin 256,popc n.val≤8:=by decide+kernel
theorem band_nat(a b:Nat):Builtin.bitAnd (a:Int) (b:Int)=((a&&& b:Nat):Int):=by
  rw [PyProof.Rows.bitAnd_pp (Int.natCast_nonneg _) (Int.natCast_nonneg _)];rfl
theorem ks_cons{T:Tabs}{K:Nat→List V→Sg→R V}{fn:Fn}{s:Sx}{ss:List Sx}{ρ ρ':List (Option V)}{σ σ':Sg}(h:evalS T K fn s ρ σ= .ok (.next ρ') σ'):evalSs T K fn (s::ss) ρ σ=evalSs T K fn ss ρ' σ':=by
  show(evalS T K fn s ρ σ).bind _=_
  rw [h];rfl
theorem loopW_yes{t:List (Option V)→Sg→R V}{b:List (Option V)→Sg→R Out}{n:Nat}{ρ ρ':List (Option V)}{σ σ' σ'':Sg}{r:R Out}(h:t ρ σ= .ok (.bool true) σ')(k:b ρ σ'= .ok (.next ρ') σ'')(e:loopW t b n ρ' σ''=r):loopW t b (n+1) ρ σ=r:=by
  show(t ρ σ).bind _=_
  rw [h]
  show(b ρ σ').bind _=_
  rw [k];exact e
theorem loopW_no{t:List (Option V)→Sg→R V}{b:List (Option V)→Sg→R Out}{n:Nat}{ρ:List (Option V)}{σ σ':Sg}(h:t ρ σ= .ok (.bool false) σ'):loopW t b (n+1) ρ σ= .ok (.next ρ) σ':=by
  show(t ρ σ).bind _=_
  rw [h];rfl
theorem ones_loop{t:List (Option V)→Sg→R V}{b:List (Option V)→Sg→R Out}{x y:Option V}{σ:Sg}
    (ht: ∀(r:Nat) (c:Int),t [x,y,some (.int r),some (.int c)] σ= .ok (.bool (decide (r≠0))) σ)
    (hb: ∀(r:Nat) (c:Int),r≠0→b [x,y,some (.int r),some (.int c)] σ= .ok (.next [x,y,some (.int ((r&&&(r-1):Nat):Int)),some (.int (c+1))]) σ):
    ∀(n:Nat) (r:Nat) (c:Int),r<256→popc r<n→loopW t b n [x,y,some (.int r),some (.int c)] σ= .ok (.next [x,y,some (.int 0),some (.int (c+popc r))]) σ
  |0,_,_,_,h=>absurd h (Nat.not_lt_zero _)
  | n +1,r,c,hr,h=>by
    by_cases c0:r=0
    · subst c0
      rw [loopW_no (ht 0 c),show popc 0=0 from rfl,show c+((0:Nat):Int)=c from Int.add_zero c];rfl
    · obtain ⟨i1,i2⟩:=popc_step ⟨r,hr⟩ c0
      refine loopW_yes (by rw [ht,decide_eq_true c0]) (hb r c c0) ?_
      simp only at i1 i2
      rw [ones_loop ht hb n _ _ i2 (by omega),←i1,Int.natCast_add,Int.add_comm (popc _:Int),←Int.add_assoc];rfl
theorem k_ones{n:Nat}{i:Int}{σ:Sg}:call TT (n+3) 5 [.int i,.int 8] σ= .ok (.int (popc (i%256).toNat)) σ:=by
  obtain⟨r,hr⟩: ∃r:Nat,i%256=r:=⟨(i%256).toNat,by omega⟩
  have h2:r<256:=by omega
  have hw:call TT (n+2) 1 [.int i,.int 8] σ= .ok (.int r) σ:=by rw [←hr];exact k_wrap (by decide) (by decide)
  have:=ones_loop (t:=fun ρ σ=>evalE TT (call TT (n+2)) f_ones ρ (.cmp .Gt (.loc 2 ⟨41,10,41,14⟩) (.int 0 0 ⟨41,17,41,18⟩) ⟨41,10,41,18⟩) σ)
    (b:=fun ρ σ=>evalSs TT (call TT (n+2)) f_ones [(.asg (.loc 2 ⟨42,8,42,12⟩) (.bin .BitAnd (.loc 2 ⟨42,15,42,19⟩) (.bin .Sub (.loc 2 ⟨42,22,42,26⟩) (.int 1 0 ⟨42,29,42,30⟩) ⟨42,22,42,30⟩) ⟨42,15,42,30⟩) ⟨42,8,42,30⟩),(.asg (.loc 3 ⟨43,8,43,13⟩) (.bin .Add (.loc 3 ⟨43,16,43,21⟩) (.int 1 0 ⟨43,24,43,25⟩) ⟨43,16,43,25⟩) ⟨43,8,43,25⟩)] ρ σ)
    (x:=some (.int i)) (y:=some (.int 8)) (σ:=σ) (fun r c=>by
      rw [show decide (r≠0)=decide ((r:Int)>0) from decide_eq_decide.mpr (by omega)];exact e_go .nil rfl) (fun r c h=>by
      have:(r:Int)-1=((r-1:Nat):Int):=by omega
      rw [←band_nat,←this];exact ss_go .nil rfl) 20 r 0 h2 (by have:=popc_le ⟨r,h2⟩;simp only at this;omega)
  rw [hr,←Int.zero_add (popc (r:Int).toNat:Int)]
  exact k_go rfl (.r hw (.o (x:=evalS TT (call TT (n+2)) f_ones (f_ones.body.getD 2 (.ret0 ⟨0,0,0,0⟩)) [some (.int i),some (.int 8),some (.int r),some (.int 0)] σ) this .nil)) (by kernel_rfl)
theorem k_parity{n:Nat}{i:Int}{σ:Sg}:call TT (n+4) 6 [.int i] σ= .ok (.int (1-(popc (i%256).toNat:Int)%2)) σ:=by
  exact k_go rfl (.r (k_ones (n:=n) (i:=i) (σ:=σ)) (.v (bin_mod (i:=popc (i%256).toNat) (j:=2) (by decide)) .nil)) (by kernel_rfl)
end Mine
end
section
open PySem PySem.W
set_option maxRecDepth 100000
set_option smartUnfolding false
set_option maxHeartbeats 0
namespace Mine
structure Fl where
  cf:Int
  pf:Int
  af:Int
  zf:Int
  sf:Int
  of:Int
  df:Int
structure M where
  regs:List V
  fl:Fl
  held:Int→Option Int
  n:Nat
noncomputable def cells(k:Nat)(m:M):List Cell:= [
  .dict [283,205,284,77,257,285,286,287,144] [.none,.ref false (k+1),.ref false (k+2),.obj 6 false (k+3),.obj 8 false (k+4),.int 0,.int 0,.ref false (k+6),.bool false],
  .list m.regs,.list (List.replicate 16 (.int 0)),.dict [73,76,86,74,75,72,276] [.int m.fl.cf,.int m.fl.pf,.int m.fl.af,.int m.fl.zf,.int m.fl.sf,.int m.fl.of,.int m.fl.df],
  .dict [277] [.ref false (k+5)],.idict m.held m.n,.sdict [288,289] [.int 0,.int 0]]
noncomputable def S(pre own:List Cell)(m:M):Sg:=⟨pre++cells pre.length m,own⟩
variable {pre own:List Cell}{m:M}
theorem S_get(i:Nat):(S pre own m).get false (pre.length+i)=(cells pre.length m)[i]? :=by
  show(pre++cells pre.length m)[pre.length+i]? =_
  rw [List.getElem?_append_right (by omega),Nat.add_sub_cancel_left]
noncomputable abbrev St9(pre:List Cell):V:= .obj 9 false pre.length
noncomputable abbrev Fl6(pre:List Cell):V:= .obj 6 false (pre.length+3)
noncomputable abbrev Mm8(pre:List Cell):V:= .obj 8 false (pre.length+4)
noncomputable abbrev Rs1(pre:List Cell):V:= .ref false (pre.length+1)
noncomputable abbrev Hd5(pre:List Cell):V:= .ref false (pre.length+5)
theorem S_get0:(S pre own m).get false pre.length=some (.dict [283,205,284,77,257,285,286,287,144] [.none,.ref false (pre.length+1),.ref false (pre.length+2),.obj 6 false (pre.length+3),.obj 8 false (pre.length+4),.int 0,.int 0,.ref false (pre.length+6),.bool false]):=S_get 0
theorem S_get1:(S pre own m).get false (pre.length+1)=some (.list m.regs):=S_get 1
theorem S_get3:(S pre own m).get false (pre.length+3)=some (.dict [73,76,86,74,75,72,276] [.int m.fl.cf,.int m.fl.pf,.int m.fl.af,.int m.fl.zf,.int m.fl.sf,.int m.fl.of,.int m.fl.df]):=S_get 3
theorem S_get4:(S pre own m).get false (pre.length+4)=some (.dict [277] [.ref false (pre.length+5)]):=S_get 4
theorem S_get5:(S pre own m).get false (pre.length+5)=some (.idict m.held m.n):=S_get 5
theorem S_set(i:Nat)(c:Cell):(S pre own m).set false (pre.length+i) c=⟨pre++(cells pre.length m).set i c,own⟩:=by
  show Sg.mk ((pre++cells pre.length m).set (pre.length+i) c) own=_
  rw [List.set_append_right _ _ (by omega),Nat.add_sub_cancel_left]
theorem at_obj{σ:Sg}{c k x:Nat}{C:Cls}{ks:List Nat}{vs:List V}(hc:TT.cls c=some C)(hg:σ.get false k=some (.dict ks vs)):attrV TT σ x (.obj c false k)=cond (C.names.contains x) (getF ks vs x) none:=by
  show(TT.cls c).bind _=_
  rw [hc]
  show((σ.get false k).bind Cell.asDict).bind _=_
  rw [hg];rfl
theorem aS(x:Nat):attrV TT (S pre own m) x (St9 pre)=cond (c_State.names.contains x) (getF [283,205,284,77,257,285,286,287,144] [.none,Rs1 pre,.ref false (pre.length+2),Fl6 pre,Mm8 pre,.int 0,.int 0,.ref false (pre.length+6),.bool false] x) none:=at_obj rfl S_get0
theorem aM(x:Nat):attrV TT (S pre own m) x (Mm8 pre)=cond (c_Memory.names.contains x) (getF [277] [Hd5 pre] x) none:=at_obj rfl S_get4
theorem aF(x:Nat):attrV TT (S pre own m) x (Fl6 pre)=cond (c_Flags.names.contains x) (getF [73,76,86,74,75,72,276] [.int m.fl.cf,.int m.fl.pf,.int m.fl.af,.int m.fl.zf,.int m.fl.sf,.int m.fl.of,.int m.fl.df] x) none:=at_obj rfl S_get3
theorem ml_obj{σ:Sg}{c k x:Nat}{C:Cls}{ks:List Nat}{vs:List V}(hc:TT.cls c=some C)(hg:σ.get false k=some (.dict ks vs)):mlook TT σ x (.obj c false k)=cond (ks.contains x) none ((C.meths.lookup x).map fun f=>(f,[.obj c false k])):=by
  show(TT.cls c).bind _=_
  rw [hc]
  show((σ.get false k).bind Cell.asDict).bind _=_
  rw [hg];rfl
theorem lS(x:Nat):mlook TT (S pre own m) x (St9 pre)=cond ([283,205,284,77,257,285,286,287,144].contains x) none ((c_State.meths.lookup x).map fun f=>(f,[St9 pre])):=ml_obj rfl S_get0
theorem lM(x:Nat):mlook TT (S pre own m) x (Mm8 pre)=cond ([277].contains x) none ((c_Memory.meths.lookup x).map fun f=>(f,[Mm8 pre])):=ml_obj rfl S_get4
theorem gR{rs:List V}{f:Fl}{hd:Int→Option Int}{c:Nat}{i:Int}{v:V}(h0:0≤i)(h1:i<100000)(h:rs[i.toNat]? =some v):subV TT (S pre own ⟨rs,f,hd,c⟩) (Rs1 pre) (.int i)=some v:=by
  show((S pre own _).get false (pre.length+1)).bind _=_
  rw [S_get1]
  show cond (_&&_) _ _=_
  rw [decide_eq_true h0,show decide (i<lineN)=true from decide_eq_true h1];exact h
theorem sR{rs:List V}{f:Fl}{hd:Int→Option Int}{c:Nat}{i w:Int}{v:V}(h0:0≤i)(h1:i<100000)(h:rs[i.toNat]? =some v):setSub (S pre own ⟨rs,f,hd,c⟩) (Rs1 pre) (.int i) (.int w)=some (S pre own ⟨rs.set i.toNat (.int w),f,hd,c⟩):=by
  show(((S pre own _).get false (pre.length+1)).bind _).map ((S pre own _).set false (pre.length+1))=_
  rw [S_get1]
  have h2:=(List.getElem?_eq_some_iff.mp h).1
  show(og (_&&_&&_&&_) _).map _=_
  rw [decide_eq_true h0,show decide (i<lineN)=true from decide_eq_true h1,decide_eq_true (show i< (rs.length:Int) by omega)]
  exact congrArg some (S_set 1 _)
noncomputable def putFl(f:Fl)(v:Int)(x:Nat):Option Fl:=
  cond (x==73) (some {f with cf:=v}) (cond (x==76) (some {f with pf:=v}) (cond (x==86) (some {f with af:=v}) (cond (x==74) (some {f with zf:=v}) (cond (x==75) (some {f with sf:=v}) (cond (x==72) (some {f with of:=v}) none)))))
theorem sF_go{x:Nat}{v:Int}{f:Fl}(h:putF [73,76,86,74,75,72,276] [.int m.fl.cf,.int m.fl.pf,.int m.fl.af,.int m.fl.zf,.int m.fl.sf,.int m.fl.of,.int m.fl.df] x (.int v)=some ([73,76,86,74,75,72,276],[.int f.cf,.int f.pf,.int f.af,.int f.zf,.int f.sf,.int f.of,.int f.df]))(hx:c_Flags.names.contains x=true):setAttr TT (S pre own m) x (.int v) (Fl6 pre)=some (S pre own {m with fl:=f}):=by
  show(((S pre own m).get false (pre.length+3)).bind Cell.asDict).bind _=_
  rw [S_get3]
  show cond (c_Flags.names.contains x&&_&&_) ((putF _ _ x (.int v)).map _) _=_
  rw [h,hx]
  exact congrArg some (S_set 3 _)
theorem sCf{v:Int}:setAttr TT (S pre own m) 73 (.int v) (Fl6 pre)=some (S pre own {m with fl:={m.fl with cf:=v} }):=sF_go rfl rfl
theorem sPf{v:Int}:setAttr TT (S pre own m) 76 (.int v) (Fl6 pre)=some (S pre own {m with fl:={m.fl with pf:=v} }):=sF_go rfl rfl
theorem sAf{v:Int}:setAttr TT (S pre own m) 86 (.int v) (Fl6 pre)=some (S pre own {m with fl:={m.fl with af:=v} }):=sF_go rfl rfl
theorem sZf{v:Int}:setAttr TT (S pre own m) 74 (.int v) (Fl6 pre)=some (S pre own {m with fl:={m.fl with zf:=v} }):=sF_go rfl rfl
theorem sSf{v:Int}:setAttr TT (S pre own m) 75 (.int v) (Fl6 pre)=some (S pre own {m with fl:={m.fl with sf:=v} }):=sF_go rfl rfl
theorem sOf{v:Int}:setAttr TT (S pre own m) 72 (.int v) (Fl6 pre)=some (S pre own {m with fl:={m.fl with of:=v} }):=sF_go rfl rfl
theorem sH{a v:Int}(h:m.n≤100000):setSub (S pre own m) (Hd5 pre) (.int a) (.int v)=some (S pre own {m with held:=fun x=>if x=a then some v else m.held x,n:=m.n+1}):=by
  show(((S pre own m).get false (pre.length+5)).bind _).map ((S pre own m).set false (pre.length+5))=_
  rw [S_get5]
  show(og _ _).map _=_
  rw [show decide (m.n≤lineN)=true from decide_eq_true h]
  exact congrArg some (S_set 5 _)
theorem oH:bmOk (S pre own m) .get (Hd5 pre)=true:=by
  show(((S pre own m).get false (pre.length+5)).bind Cell.asInts).isSome=_
  rw [S_get5];rfl
theorem vH{a d:Int}:bmV TT (S pre own m) .get (Hd5 pre) [.int a,.int d] =some (.int ((m.held a).getD d),S pre own m):=by
  show(((S pre own m).get false (pre.length+5)).bind Cell.asInts).bind _=_
  rw [S_get5];rfl
theorem cls6:TT.cls 6=some c_Flags:=rfl
theorem cls7:TT.cls 7=some c_Register:=rfl
theorem cls8:TT.cls 8=some c_Memory:=rfl
theorem cls9:TT.cls 9=some c_State:=rfl
theorem cls11:TT.cls 11=some c_Reg:=rfl
theorem cls12:TT.cls 12=some c_Imm:=rfl
theorem cls13:TT.cls 13=some c_Mem:=rfl
theorem cls14:TT.cls 14=some c_Instruction:=rfl
noncomputable def oct(f:Int→Option Int)(a:Int):Int:=(f (a%18446744073709551616)).getD 0
noncomputable def set1(f:Int→Option Int)(a v:Int):Int→Option Int:=fun x=>if x=a%18446744073709551616 then some v else f x
noncomputable def Oct(f:Int→Option Int):Prop:= ∀a v,f a=some v→0≤v∧v<256
theorem Oct.oct{f:Int→Option Int}(h:Oct f)(a:Int):0≤oct f a∧oct f a<256:=by
  unfold Mine.oct
  cases e:f (a%18446744073709551616) with
  |none=>exact⟨by decide,by decide⟩
  |some v=>exact h _ _ e
theorem Oct.sm{f:Int→Option Int}(h:Oct f)(a:Int):sm (Mine.oct f a)=true:=by
  have:=h.oct a
  exact sm_w (by omega) (by omega)
theorem Oct.set1{f:Int→Option Int}(h:Oct f){a v:Int}(h0:0≤v)(h1:v<256):Oct (set1 f a v):=by
  intro b w e
  unfold Mine.set1 at e
  split at e
  · cases e;exact⟨h0,h1⟩
  · exact h _ _ e
noncomputable def rd8(f:Int→Option Int)(p:Int):Int:=oct f p+oct f (p+1)*256+oct f (p+2)*65536+oct f (p+3)*16777216+oct f (p+4)*4294967296+oct f (p+5)*1099511627776+oct f (p+6)*281474976710656+oct f (p+7)*72057594037927936
noncomputable def wr8(f:Int→Option Int)(p w:Int):Int→Option Int:=
  set1 (set1 (set1 (set1 (set1 (set1 (set1 (set1 f p (w%256)) (p+1) (w/256%256)) (p+2) (w/65536%256)) (p+3) (w/16777216%256)) (p+4) (w/4294967296%256)) (p+5) (w/1099511627776%256)) (p+6) (w/281474976710656%256)) (p+7) (w/72057594037927936%256)
theorem k_wrap64{n:Nat}{i:Int}{σ:Sg}:call TT (n+2) 1 [.int i,.int 64] σ= .ok (.int (i%18446744073709551616)) σ:=k_wrap (by decide) (by decide)
theorem k_wrap8{n:Nat}{i:Int}{σ:Sg}:call TT (n+2) 1 [.int i,.int 8] σ= .ok (.int (i%256)) σ:=k_wrap (by decide) (by decide)
theorem bin_mul8{j k:Int}(h:8*j=k):binV .Mult (.int 8) (.int j)=some (.int k):=by rw [←h];exact bin_mul rfl
theorem bin_shlP{i s P:Int}(h:sm i=true)(h0:0≤s)(h1:s≤100000)(hP:2 ^ s.toNat=P):binV .LShift (.int i) (.int s)=some (.int (i*P)):=by rw [←hP];exact bin_shl h0 h1 h
theorem bin_shrP{i s P:Int}(h0:0≤s)(hP:2 ^ s.toNat=P):binV .RShift (.int i) (.int s)=some (.int (i/P)):=by rw [←hP];exact bin_shr h0
theorem bin_shr0{i:Int}:binV .RShift (.int i) (.int 0)=some (.int i):=by rw [bin_shrP (P:=1) (by decide) rfl,Int.ediv_one]
theorem rd8_go{f:Int→Option Int}{p:Int}:rd8 f p=0+oct f (p+0)*1+oct f (p+1)*256+oct f (p+2)*65536+oct f (p+3)*16777216+oct f (p+4)*4294967296+oct f (p+5)*1099511627776+oct f (p+6)*281474976710656+oct f (p+7)*72057594037927936:=by
  rw [Int.zero_add,Int.add_zero,Int.mul_one];rfl
theorem k_octet{n:Nat}{a:Int}:call TT (n+3) 84 [Mm8 pre,.int a] (S pre own m)= .ok (.int (oct m.held a)) (S pre own m):=by
  exact k_go rfl (.v (aM 277)<| .y oH<| .r k_wrap64<| .h vH .nil) rfl
theorem k_set_octet{n:Nat}{a v:Int}(h:m.n≤100000):call TT (n+3) 85 [Mm8 pre,.int a,.int v] (S pre own m)= .ok .none (S pre own {m with held:=set1 m.held a v,n:=m.n+1}):=by
  exact k_go rfl (.v (aM 277)<| .r k_wrap64<| .g (sH h) .nil) rfl
theorem bm255(x:Int):Builtin.bitAnd x 255=x%256:=kbt_mask x 8
theorem k_so(j:Nat){n n0:Nat}{a v:Int}{r:List V}{f:Fl}{hd:Int→Option Int}(h:n0+8≤100000)(hj:j<8):call TT (n+3) 85 [Mm8 pre,.int a,.int (Builtin.bitAnd v 255)] (S pre own ⟨r,f,hd,n0+j⟩)= .ok .none (S pre own ⟨r,f,set1 hd a (v%256),n0+(j+1)⟩):=by
  rw [bm255];exact k_set_octet (Nat.le_trans (Nat.add_le_add_left (Nat.le_of_lt hj) n0) h)
theorem k_so0{n:Nat}{a v:Int}(h:m.n+8≤100000):call TT (n+3) 85 [Mm8 pre,.int (a+0),.int (Builtin.bitAnd v 255)] (S pre own m)= .ok .none (S pre own ⟨m.regs,m.fl,set1 m.held a (v%256),m.n+1⟩):=by
  rw [Int.add_zero];exact k_so 0 h (by decide)
theorem k_read8{n:Nat}{p:Int}{rs:List V}{f:Fl}{hd:Int→Option Int}{c:Nat}(h:Oct hd):call TT (n+4) 86 [Mm8 pre,.int p,.int 8] (S pre own ⟨rs,f,hd,c⟩)= .ok (.int (rd8 hd p)) (S pre own ⟨rs,f,hd,c⟩):=by
  rw [rd8_go]
  have a:=h.sm
  exact k_go rfl (.m (lM 279)<| .r k_octet<| .v (bin_mul8 (k:=0) (by rfl))<| .v (bin_shlP (P:=1) (by simp [*]) (by decide) (by decide) (by rfl))<| .m (lM 279)<| .r k_octet<| .v (bin_mul8 (k:=8) (by rfl))<| .v (bin_shlP (P:=256) (by simp [*]) (by decide) (by decide) (by rfl))<| .m (lM 279)<| .r k_octet<| .v (bin_mul8 (k:=16) (by rfl))<| .v (bin_shlP (P:=65536) (by simp [*]) (by decide) (by decide) (by rfl))<| .m (lM 279)<| .r k_octet<| .v (bin_mul8 (k:=24) (by rfl))<| .v (bin_shlP (P:=16777216) (by simp [*]) (by decide) (by decide) (by rfl))<| .m (lM 279)<| .r k_octet<| .v (bin_mul8 (k:=32) (by rfl))<| .v (bin_shlP (P:=4294967296) (by simp [*]) (by decide) (by decide) (by rfl))<| .m (lM 279)<| .r k_octet<| .v (bin_mul8 (k:=40) (by rfl))<| .v (bin_shlP (P:=1099511627776) (by simp [*]) (by decide) (by decide) (by rfl))<| .m (lM 279)<| .r k_octet<| .v (bin_mul8 (k:=48) (by rfl))<| .v (bin_shlP (P:=281474976710656) (by simp [*]) (by decide) (by decide) (by rfl))<| .m (lM 279)<| .r k_octet<| .v (bin_mul8 (k:=56) (by rfl))<| .v (bin_shlP (P:=72057594037927936) (by simp [*]) (by decide) (by decide) (by rfl)) .nil) rfl
theorem k_write8{n:Nat}{p w:Int}{rs:List V}{f:Fl}{hd:Int→Option Int}{c:Nat}(h:c+8≤100000):call TT (n+4) 87 [Mm8 pre,.int p,.int 8,.int w] (S pre own ⟨rs,f,hd,c⟩)= .ok .none (S pre own ⟨rs,f,wr8 hd p w,c+8⟩):=by
  exact k_go rfl (.m (lM 282)<| .v (bin_mul8 (k:=0) (by rfl))<| .v bin_shr0<| .r (k_so0 h)<| .m (lM 282)<| .v (bin_mul8 (k:=8) (by rfl))<| .v (bin_shrP (P:=256) (by decide) (by rfl))<| .r (k_so 1 h (by decide))<| .m (lM 282)<| .v (bin_mul8 (k:=16) (by rfl))<| .v (bin_shrP (P:=65536) (by decide) (by rfl))<| .r (k_so 2 h (by decide))<| .m (lM 282)<| .v (bin_mul8 (k:=24) (by rfl))<| .v (bin_shrP (P:=16777216) (by decide) (by rfl))<| .r (k_so 3 h (by decide))<| .m (lM 282)<| .v (bin_mul8 (k:=32) (by rfl))<| .v (bin_shrP (P:=4294967296) (by decide) (by rfl))<| .r (k_so 4 h (by decide))<| .m (lM 282)<| .v (bin_mul8 (k:=40) (by rfl))<| .v (bin_shrP (P:=1099511627776) (by decide) (by rfl))<| .r (k_so 5 h (by decide))<| .m (lM 282)<| .v (bin_mul8 (k:=48) (by rfl))<| .v (bin_shrP (P:=281474976710656) (by decide) (by rfl))<| .r (k_so 6 h (by decide))<| .m (lM 282)<| .v (bin_mul8 (k:=56) (by rfl))<| .v (bin_shrP (P:=72057594037927936) (by decide) (by rfl))<| .r (k_so 7 h (by decide)) .nil) rfl
end Mine
end
section
open PySem PySem.W
set_option maxRecDepth 100000
set_option smartUnfolding false
namespace Mine
variable {pre own:List Cell}{m:M}
noncomputable abbrev rg(nm:Nat)(num s:Int):V:= .inst 7 [.str nm,.str 134,.int num,.int s]
noncomputable abbrev oReg(r:V):V:= .inst 11 [.str 298,r]
noncomputable abbrev oImm(w:Int):V:= .inst 12 [.str 162,.int w,.str 17]
noncomputable abbrev oMem(r:V)(w:Int):V:= .inst 13 [.str 296,r,.none,.int 1,.int w,.int 64,.str 17,.str 17]
noncomputable abbrev ins(nm:Nat)(ops:List V):V:= .inst 14 [.str nm,.tup ops,.str 17]
theorem bin_div8:binV .FloorDiv (.int 64) (.int 8)=some (.int 8):=rfl
theorem k_get{rs:List V}{f:Fl}{hd:Int→Option Int}{c:Nat}{n:Nat}{nm:Nat}{num s w:Int}(h0:0≤num)(h1:num<100000)(h:rs[num.toNat]? =some (.int w))(h2:0≤s)(h3:s≤1000):
    call TT (n+3) 89 [St9 pre,rg nm num s] (S pre own ⟨rs,f,hd,c⟩)= .ok (.int (w%2 ^ s.toNat)) (S pre own ⟨rs,f,hd,c⟩):=by
  exact k_go rfl (.c<| .v (aS 205)<| .v (gR h0 h1 h)<| .r (k_wrap h2 h3) .nil) rfl
theorem k_joined64{n:Nat}{o w:Int}{σ:Sg}:call TT (n+3) 31 [.int o,.int w,.int 64] σ= .ok (.int w) σ:=by
  exact k_go rfl (.c<| .c<| .c .nil) rfl
theorem k_joined8{n:Nat}{o w:Int}{σ:Sg}:call TT (n+3) 31 [.int o,.int w,.int 8] σ= .ok (.int (o-o%256+w)) σ:=by
  exact k_go rfl (.c<| .r k_wrap8 .nil) rfl
theorem k_put64{rs:List V}{f:Fl}{hd:Int→Option Int}{c:Nat}{n:Nat}{nm:Nat}{num w old:Int}(h0:0≤num)(h1:num<100000)(h:rs[num.toNat]? =some (.int old)):
    call TT (n+4) 90 [St9 pre,rg nm num 64,.int w] (S pre own ⟨rs,f,hd,c⟩)= .ok .none (S pre own ⟨rs.set num.toNat (.int (w%18446744073709551616)),f,hd,c⟩):=by
  exact k_go rfl (.r k_wrap64<| .c<| .v (aS 205)<| .v (gR h0 h1 h)<| .r k_joined64<| .v (aS 205)<| .g (sR h0 h1 h) .nil) rfl
theorem k_put8{rs:List V}{f:Fl}{hd:Int→Option Int}{c:Nat}{n:Nat}{nm:Nat}{num w old:Int}(h0:0≤num)(h1:num<100000)(h:rs[num.toNat]? =some (.int old)):
    call TT (n+4) 90 [St9 pre,rg nm num 8,.int w] (S pre own ⟨rs,f,hd,c⟩)= .ok .none (S pre own ⟨rs.set num.toNat (.int (old-old%256+w%256)),f,hd,c⟩):=by
  exact k_go rfl (.r k_wrap8<| .c<| .v (aS 205)<| .v (gR h0 h1 h)<| .r k_joined8<| .v (aS 205)<| .g (sR h0 h1 h) .nil) rfl
theorem k_put_low64{rs:List V}{f:Fl}{hd:Int→Option Int}{c:Nat}{n:Nat}{nm:Nat}{num w old:Int}(h0:0≤num)(h1:num<100000)(h:rs[num.toNat]? =some (.int old)):
    call TT (n+5) 91 [St9 pre,rg nm num 64,.int 64,.int w] (S pre own ⟨rs,f,hd,c⟩)= .ok .none (S pre own ⟨rs.set num.toNat (.int (w%18446744073709551616)),f,hd,c⟩):=by
  exact k_go rfl (.c<| .c<| .m (lS 177)<| .r (k_put64 h0 h1 h) .nil) rfl
theorem k_put_low8{rs:List V}{f:Fl}{hd:Int→Option Int}{c:Nat}{n:Nat}{nm:Nat}{num w old:Int}(h0:0≤num)(h1:num<100000)(h:rs[num.toNat]? =some (.int old)):
    call TT (n+5) 91 [St9 pre,rg nm num 8,.int 8,.int w] (S pre own ⟨rs,f,hd,c⟩)= .ok .none (S pre own ⟨rs.set num.toNat (.int (old-old%256+w%256)),f,hd,c⟩):=by
  exact k_go rfl (.c<| .c<| .m (lS 177)<| .r (k_put8 h0 h1 h) .nil) rfl
theorem k_get64{rs:List V}{f:Fl}{hd:Int→Option Int}{c:Nat}{n:Nat}{nm:Nat}{num w:Int}(h0:0≤num)(h1:num<100000)(h:rs[num.toNat]? =some (.int w)):
    call TT (n+3) 89 [St9 pre,rg nm num 64] (S pre own ⟨rs,f,hd,c⟩)= .ok (.int (w%18446744073709551616)) (S pre own ⟨rs,f,hd,c⟩):=k_get h0 h1 h (by decide) (by decide)
theorem k_offset{rs:List V}{f:Fl}{hd:Int→Option Int}{c:Nat}{n:Nat}{nm:Nat}{num w d:Int}(h0:0≤num)(h1:num<100000)(h:rs[num.toNat]? =some (.int w)):
    call TT (n+4) 92 [St9 pre,oMem (rg nm num 64) d] (S pre own ⟨rs,f,hd,c⟩)= .ok (.int ((d+w%18446744073709551616)%18446744073709551616)) (S pre own ⟨rs,f,hd,c⟩):=by
  exact k_go rfl (.c<| .m (lS 163)<| .r (k_get64 h0 h1 h)<| .c<| .r k_wrap64 .nil) rfl
theorem WW(a:Int):a%18446744073709551616%18446744073709551616=a%18446744073709551616:=Int.emod_emod_of_dvd _ (Int.dvd_refl _)
theorem k_place{rs:List V}{f:Fl}{hd:Int→Option Int}{c:Nat}{n:Nat}{nm:Nat}{num w d:Int}(h0:0≤num)(h1:num<100000)(h:rs[num.toNat]? =some (.int w)):
    call TT (n+5) 93 [St9 pre,oMem (rg nm num 64) d] (S pre own ⟨rs,f,hd,c⟩)= .ok (.int ((d+w%18446744073709551616)%18446744073709551616)) (S pre own ⟨rs,f,hd,c⟩):=by
  have e:((d+w%18446744073709551616)%18446744073709551616+0)%18446744073709551616=(d+w%18446744073709551616)%18446744073709551616:=by rw [Int.add_zero,WW]
  rw [←e]
  exact k_go rfl (.c<| .m (lS 196)<| .r (k_offset h0 h1 h)<| .r k_wrap64 .nil) rfl
theorem k_size1{num s:Int}{r q z:Nat}{x:V}{σ:Sg}:call TT (z+1) 94 [St9 pre,oReg (rg r num s),ins q [x]] σ= .ok (.int s) σ:=by
  exact k_go rfl (.c<| .c<| .c .nil) rfl
theorem k_size2{num s:Int}{r q z:Nat}{x y:V}{σ:Sg}:call TT (z+1) 94 [St9 pre,oReg (rg r num s),ins q [x,y]] σ= .ok (.int s) σ:=by
  exact k_go rfl (.c<| .c<| .c .nil) rfl
theorem k_sizeM{num w:Int}{r q:Nat}{z:Nat}{x:V}{σ:Sg}:call TT (z+1) 94 [St9 pre,oMem (rg r num 64) w,ins q [x]] σ= .ok (.int 64) σ:=by
  exact k_go rfl (.c<| .c<| .c<| .c<| .c<| .c .nil) rfl
theorem k_read_reg{rs:List V}{f:Fl}{hd:Int→Option Int}{c:Nat}{n:Nat}{nm:Nat}{num w s:Int}(h0:0≤num)(h1:num<100000)(h:rs[num.toNat]? =some (.int w))(h2:0≤s)(h3:s≤1000):
    call TT (n+6) 95 [St9 pre,oReg (rg nm num s),.int s] (S pre own ⟨rs,f,hd,c⟩)= .ok (.int (w%2 ^ s.toNat)) (S pre own ⟨rs,f,hd,c⟩):=by
  rw [←Int.emod_emod_of_dvd w (Int.dvd_refl (2 ^ s.toNat))]
  exact k_go rfl (.c<| .m (lS 163)<| .r (k_get h0 h1 h h2 h3)<| .r (k_wrap h2 h3) .nil) rfl
theorem k_read_imm{n:Nat}{w s:Int}(h2:0≤s)(h3:s≤1000):
    call TT (n+6) 95 [St9 pre,oImm w,.int s] (S pre own m)= .ok (.int (w%2 ^ s.toNat)) (S pre own m):=by
  exact k_go rfl (.c<| .c<| .r (k_wrap h2 h3) .nil) rfl
theorem k_read_mem{rs:List V}{f:Fl}{hd:Int→Option Int}{c:Nat}{n:Nat}{nm:Nat}{num w d:Int}(h0:0≤num)(h1:num<100000)(h:rs[num.toNat]? =some (.int w))(ho:Oct hd):
    call TT (n+6) 95 [St9 pre,oMem (rg nm num 64) d,.int 64] (S pre own ⟨rs,f,hd,c⟩)= .ok (.int (rd8 hd ((d+w%18446744073709551616)%18446744073709551616))) (S pre own ⟨rs,f,hd,c⟩):=by
  exact k_go rfl (.c<| .c<| .v (aS 257)<| .m (lM 110)<| .m (lS 278)<| .r (k_place h0 h1 h)<| .v bin_div8<| .r (k_read8 ho) .nil) rfl
theorem k_write64{rs:List V}{f:Fl}{hd:Int→Option Int}{c:Nat}{n:Nat}{nm:Nat}{num w old:Int}(h0:0≤num)(h1:num<100000)(h:rs[num.toNat]? =some (.int old)):
    call TT (n+6) 96 [St9 pre,oReg (rg nm num 64),.int 64,.int w] (S pre own ⟨rs,f,hd,c⟩)= .ok .none (S pre own ⟨rs.set num.toNat (.int (w%18446744073709551616)),f,hd,c⟩):=by
  exact k_go rfl (.c<| .m (lS 300)<| .r (k_put_low64 h0 h1 h) .nil) rfl
theorem k_write8r{rs:List V}{f:Fl}{hd:Int→Option Int}{c:Nat}{n:Nat}{nm:Nat}{num w old:Int}(h0:0≤num)(h1:num<100000)(h:rs[num.toNat]? =some (.int old)):
    call TT (n+6) 96 [St9 pre,oReg (rg nm num 8),.int 8,.int w] (S pre own ⟨rs,f,hd,c⟩)= .ok .none (S pre own ⟨rs.set num.toNat (.int (old-old%256+w%256)),f,hd,c⟩):=by
  exact k_go rfl (.c<| .m (lS 300)<| .r (k_put_low8 h0 h1 h) .nil) rfl
theorem gR4{rs:List V}{f:Fl}{hd:Int→Option Int}{c:Nat}{v:V}(h:rs[4]? =some v):subV TT (S pre own ⟨rs,f,hd,c⟩) (Rs1 pre) (.int 4)=some v:=gR (by decide) (by decide) h
theorem sR4{rs:List V}{f:Fl}{hd:Int→Option Int}{c:Nat}{w:Int}{v:V}(h:rs[4]? =some v):setSub (S pre own ⟨rs,f,hd,c⟩) (Rs1 pre) (.int 4) (.int w)=some (S pre own ⟨rs.set 4 (.int w),f,hd,c⟩):=sR (by decide) (by decide) h
theorem k_push{rs:List V}{f:Fl}{hd:Int→Option Int}{c:Nat}{n:Nat}{w a:Int}(h:rs[4]? =some (.int a))(hn:c+8≤100000):
    call TT (n+5) 97 [St9 pre,.int w,.int 8] (S pre own ⟨rs,f,hd,c⟩)= .ok .none (S pre own ⟨rs.set 4 (.int ((a-8)%18446744073709551616)),f,wr8 hd ((a-8)%18446744073709551616) w,c+8⟩):=by
  have h3:(rs.set 4 (.int ((a-8)%18446744073709551616)))[4]? =some (.int ((a-8)%18446744073709551616)):=List.getElem?_set_self (List.getElem?_eq_some_iff.mp h).1
  exact k_go rfl (.v (aS 205)<| .v (gR4 h)<| .r k_wrap64<| .v (aS 205)<| .g (sR4 h)<| .v (aS 257)<| .m (lM 111)<| .v (aS 205)<| .v (gR4 h3)<| .r (k_write8 hn) .nil) rfl
theorem k_pop{rs:List V}{f:Fl}{hd:Int→Option Int}{c:Nat}{n:Nat}{a:Int}(h:rs[4]? =some (.int a))(ho:Oct hd):
    call TT (n+5) 98 [St9 pre,.int 8] (S pre own ⟨rs,f,hd,c⟩)= .ok (.int (rd8 hd a)) (S pre own ⟨rs.set 4 (.int ((a+8)%18446744073709551616)),f,hd,c⟩):=by
  exact k_go rfl (.v (aS 257)<| .m (lM 110)<| .v (aS 205)<| .v (gR4 h)<| .r (k_read8 ho)<| .v (aS 205)<| .v (gR4 h)<| .r k_wrap64<| .v (aS 205)<| .g (sR4 h) .nil) rfl
end Mine
namespace Mine
variable {pre own:List Cell}{m:M}
noncomputable def szpF(fl:Fl)(t:Int):Fl:=⟨fl.cf,1-(popc (t%256).toNat:Int)%2,fl.af,if t=0 then 1 else 0,t/9223372036854775808%2,fl.of,fl.df⟩
theorem k_bit63{n:Nat}{i:Int}{σ:Sg}:call TT (n+1) 4 [.int i,.int 63] σ= .ok (.int (i/9223372036854775808%2)) σ:=k_bit (by decide)
theorem k_szp{n:Nat}{r:Int}:call TT (n+5) 19 [Fl6 pre,.int r,.int 64] (S pre own m)= .ok (.int (r%18446744073709551616)) (S pre own {m with fl:=szpF m.fl (r%18446744073709551616)}):=by
  unfold szpF
  by_cases c:r%18446744073709551616=0
  · have cb:(r%18446744073709551616==0)=true:=beq_iff_eq.mpr c
    rw [if_pos c]
    exact k_go rfl (.r k_wrap64<| .r k_bit63<| .g sSf<| .y cb<| .g sZf<| .r k_parity<| .g sPf .nil) rfl
  · have cb:=beq_false_of_ne c
    rw [if_neg c]
    exact k_go rfl (.r k_wrap64<| .r k_bit63<| .g sSf<| .n cb<| .g sZf<| .r k_parity<| .g sPf .nil) rfl
noncomputable def addF(fl:Fl)(a b c:Int):Fl:=
  {szpF fl ((a%18446744073709551616+b%18446744073709551616+c)%18446744073709551616) with cf:=(a%18446744073709551616+b%18446744073709551616+c)/18446744073709551616,af:=(Builtin.bitAnd (a%18446744073709551616) 15+Builtin.bitAnd (b%18446744073709551616) 15+c)/16,of:=Builtin.bitAnd (Builtin.bitXor (a%18446744073709551616) ((a%18446744073709551616+b%18446744073709551616+c)%18446744073709551616)) (Builtin.bitXor (b%18446744073709551616) ((a%18446744073709551616+b%18446744073709551616+c)%18446744073709551616))/9223372036854775808%2}
theorem k_add_flags{n:Nat}{a b c:Int}:call TT (n+6) 20 [Fl6 pre,.int a,.int b,.int c,.int 64] (S pre own m)= .ok (.int ((a%18446744073709551616+b%18446744073709551616+c)%18446744073709551616)) (S pre own {m with fl:=addF m.fl a b c}):=by
  exact k_go rfl (.r k_wrap64<| .r k_wrap64<| .r k_szp<| .v (bin_shrP (P:=18446744073709551616) (by decide) (by rfl))<| .g sCf<| .v (bin_shrP (P:=16) (by decide) (by rfl))<| .g sAf<| .r k_bit63<| .g sOf .nil) rfl
noncomputable def subF(fl:Fl)(a b c:Int):Fl:=
  {szpF fl ((a%18446744073709551616-b%18446744073709551616-c)%18446744073709551616) with cf:=if a%18446744073709551616-b%18446744073709551616-c<0 then 1 else 0,af:=if Builtin.bitAnd (a%18446744073709551616) 15-Builtin.bitAnd (b%18446744073709551616) 15-c<0 then 1 else 0,of:=Builtin.bitAnd (Builtin.bitXor (a%18446744073709551616) (b%18446744073709551616)) (Builtin.bitXor (a%18446744073709551616) ((a%18446744073709551616-b%18446744073709551616-c)%18446744073709551616))/9223372036854775808%2}
theorem k_sub_flags{n:Nat}{a b c:Int}:call TT (n+6) 21 [Fl6 pre,.int a,.int b,.int c,.int 64] (S pre own m)= .ok (.int ((a%18446744073709551616-b%18446744073709551616-c)%18446744073709551616)) (S pre own {m with fl:=subF m.fl a b c}):=by
  unfold subF
  by_cases c1:a%18446744073709551616-b%18446744073709551616-c<0<;>by_cases c2:Builtin.bitAnd (a%18446744073709551616) 15-Builtin.bitAnd (b%18446744073709551616) 15-c<0
  · rw [if_pos c1,if_pos c2]
    exact k_go rfl (.r k_wrap64<| .r k_wrap64<| .r k_szp<| .y (decide_eq_true c1)<| .g sCf<| .y (decide_eq_true c2)<| .g sAf<| .r k_bit63<| .g sOf .nil) rfl
  · rw [if_pos c1,if_neg c2]
    exact k_go rfl (.r k_wrap64<| .r k_wrap64<| .r k_szp<| .y (decide_eq_true c1)<| .g sCf<| .n (decide_eq_false c2)<| .g sAf<| .r k_bit63<| .g sOf .nil) rfl
  · rw [if_neg c1,if_pos c2]
    exact k_go rfl (.r k_wrap64<| .r k_wrap64<| .r k_szp<| .n (decide_eq_false c1)<| .g sCf<| .y (decide_eq_true c2)<| .g sAf<| .r k_bit63<| .g sOf .nil) rfl
  · rw [if_neg c1,if_neg c2]
    exact k_go rfl (.r k_wrap64<| .r k_wrap64<| .r k_szp<| .n (decide_eq_false c1)<| .g sCf<| .n (decide_eq_false c2)<| .g sAf<| .r k_bit63<| .g sOf .nil) rfl
noncomputable def logF(fl:Fl)(r:Int):Fl:=szpF {fl with cf:=0,of:=0,af:=0} (r%18446744073709551616)
theorem k_logic{n:Nat}{r:Int}:call TT (n+6) 22 [Fl6 pre,.int r,.int 64] (S pre own m)= .ok (.int (r%18446744073709551616)) (S pre own {m with fl:=logF m.fl r}):=by
  exact k_go rfl (.g sCf<| .g sOf<| .g sAf<| .r k_szp .nil) rfl
theorem k_neg_flags{n:Nat}{a:Int}:call TT (n+7) 23 [Fl6 pre,.int a,.int 64] (S pre own m)= .ok (.int ((0-a%18446744073709551616-0)%18446744073709551616)) (S pre own {m with fl:=subF m.fl 0 a 0}):=by
  exact k_go rfl (.r k_sub_flags .nil) rfl
noncomputable def opI:Nat→Int→Int→Int
  |43,a,b=>a+b
  |101,a,b=>a-b
  |105,a,b=>Builtin.bitOr a b
  |245,a,b=>Builtin.bitXor a b
  |_,a,b=>Builtin.bitAnd a b
theorem k_comb{n:Nat}{q:Nat}{a b:Int}(hq:q=43∨q=101∨q=103∨q=104∨q=105∨q=245)(ha:a%18446744073709551616=a)(hb:b%18446744073709551616=b):
    ∃fl',(fl'.zf=if opI q a b%18446744073709551616=0 then 1 else 0)∧call TT (n+7) 25 [Fl6 pre,.str q,.int a,.int b,.int 64] (S pre own m)= .ok (.int (opI q a b%18446744073709551616)) (S pre own {m with fl:=fl'}):=by
  rcases hq with rfl |rfl |rfl |rfl |rfl |rfl
  · have e:opI 43 a b%18446744073709551616=(a%18446744073709551616+b%18446744073709551616+0)%18446744073709551616:=by rw [ha,hb,Int.add_zero];rfl
    rw [e]
    refine⟨addF m.fl a b 0,rfl,?_⟩
    exact k_go rfl (.c<| .r k_add_flags .nil) rfl
  · have e:opI 101 a b%18446744073709551616=(a%18446744073709551616-b%18446744073709551616-0)%18446744073709551616:=by rw [ha,hb,Int.sub_zero];rfl
    rw [e]
    refine⟨subF m.fl a b 0,rfl,?_⟩
    exact k_go rfl (.c<| .c<| .c<| .c<| .r k_sub_flags .nil) rfl
  · refine ⟨logF m.fl (opI 103 a b),rfl,?_⟩
    exact k_go rfl (.c<| .c<| .c<| .c<| .c<| .r k_logic .nil) rfl
  · refine ⟨logF m.fl (opI 104 a b),rfl,?_⟩
    exact k_go rfl (.c<| .c<| .c<| .c<| .c<| .r k_logic .nil) rfl
  · refine ⟨logF m.fl (opI 105 a b),rfl,?_⟩
    exact k_go rfl (.c<| .c<| .c<| .c<| .c<| .c<| .r k_logic .nil) rfl
  · refine ⟨logF m.fl (opI 245 a b),rfl,?_⟩
    exact k_go rfl (.c<| .c<| .c<| .c<| .c<| .c<| .r k_logic .nil) rfl
end Mine
namespace Mine
variable {pre own:List Cell}{m:M}
noncomputable abbrev rax:V:=rg 346 0 64
noncomputable abbrev rcx:V:=rg 347 1 64
noncomputable abbrev rdx:V:=rg 348 2 64
noncomputable abbrev rbx:V:=rg 349 3 64
noncomputable abbrev al:V:=rg 338 0 8
noncomputable abbrev cl:V:=rg 339 1 8
theorem k_gpr0{n:Nat}{σ:Sg}:call TT (n+5) 30 [.int 0,.int 64] σ= .ok rax σ:=rfl
theorem k_gpr1{n:Nat}{σ:Sg}:call TT (n+5) 30 [.int 1,.int 64] σ= .ok rcx σ:=rfl
theorem k_gpr2{n:Nat}{σ:Sg}:call TT (n+5) 30 [.int 2,.int 64] σ= .ok rdx σ:=rfl
theorem k_gpr3{n:Nat}{σ:Sg}:call TT (n+5) 30 [.int 3,.int 64] σ= .ok rbx σ:=rfl
theorem k_gprA{n:Nat}{σ:Sg}:call TT (n+5) 30 [.int 0,.int 8] σ= .ok al σ:=rfl
theorem k_gprC{n:Nat}{σ:Sg}:call TT (n+5) 30 [.int 1,.int 8] σ= .ok cl σ:=rfl
section
variable {rs:List V}{f:Fl}{hd:Int→Option Int}{c n:Nat}{a w:Int}
theorem rd0(h:rs[0]? =some (.int a)):call TT (n+6) 95 [St9 pre,oReg rax,.int 64] (S pre own ⟨rs,f,hd,c⟩)= .ok (.int (a%18446744073709551616)) (S pre own ⟨rs,f,hd,c⟩):=k_read_reg (by decide) (by decide) h (by decide) (by decide)
theorem rd1(h:rs[1]? =some (.int a)):call TT (n+6) 95 [St9 pre,oReg rcx,.int 64] (S pre own ⟨rs,f,hd,c⟩)= .ok (.int (a%18446744073709551616)) (S pre own ⟨rs,f,hd,c⟩):=k_read_reg (by decide) (by decide) h (by decide) (by decide)
theorem rd2(h:rs[2]? =some (.int a)):call TT (n+6) 95 [St9 pre,oReg rdx,.int 64] (S pre own ⟨rs,f,hd,c⟩)= .ok (.int (a%18446744073709551616)) (S pre own ⟨rs,f,hd,c⟩):=k_read_reg (by decide) (by decide) h (by decide) (by decide)
theorem rd_i:call TT (n+6) 95 [St9 pre,oImm a,.int 64] (S pre own m)= .ok (.int (a%18446744073709551616)) (S pre own m):=k_read_imm (by decide) (by decide)
theorem wr0(h:rs[0]? =some (.int a)):call TT (n+6) 96 [St9 pre,oReg rax,.int 64,.int w] (S pre own ⟨rs,f,hd,c⟩)= .ok .none (S pre own ⟨rs.set 0 (.int (w%18446744073709551616)),f,hd,c⟩):=k_write64 (by decide) (by decide) h
theorem wrA(h:rs[0]? =some (.int a)):call TT (n+6) 96 [St9 pre,oReg al,.int 8,.int w] (S pre own ⟨rs,f,hd,c⟩)= .ok .none (S pre own ⟨rs.set 0 (.int (a-a%256+w%256)),f,hd,c⟩):=k_write8r (by decide) (by decide) h
theorem gt0(h:rs[0]? =some (.int a)):call TT (n+3) 89 [St9 pre,rax] (S pre own ⟨rs,f,hd,c⟩)= .ok (.int (a%18446744073709551616)) (S pre own ⟨rs,f,hd,c⟩):=k_get64 (by decide) (by decide) h
theorem gt2(h:rs[2]? =some (.int a)):call TT (n+3) 89 [St9 pre,rdx] (S pre own ⟨rs,f,hd,c⟩)= .ok (.int (a%18446744073709551616)) (S pre own ⟨rs,f,hd,c⟩):=k_get64 (by decide) (by decide) h
theorem gtC(h:rs[1]? =some (.int a)):call TT (n+3) 89 [St9 pre,cl] (S pre own ⟨rs,f,hd,c⟩)= .ok (.int (a%256)) (S pre own ⟨rs,f,hd,c⟩):=k_get (by decide) (by decide) h (by decide) (by decide)
theorem pt0(h:rs[0]? =some (.int a)):call TT (n+4) 90 [St9 pre,rax,.int w] (S pre own ⟨rs,f,hd,c⟩)= .ok .none (S pre own ⟨rs.set 0 (.int (w%18446744073709551616)),f,hd,c⟩):=k_put64 (by decide) (by decide) h
theorem pt2(h:rs[2]? =some (.int a)):call TT (n+4) 90 [St9 pre,rdx,.int w] (S pre own ⟨rs,f,hd,c⟩)= .ok .none (S pre own ⟨rs.set 2 (.int (w%18446744073709551616)),f,hd,c⟩):=k_put64 (by decide) (by decide) h
end
theorem W_range(a:Int):0≤a%18446744073709551616∧a%18446744073709551616<18446744073709551616:=⟨Int.emod_nonneg _ (by decide),Int.emod_lt_of_pos _ (by decide)⟩
section
variable {rs:List V}{f:Fl}{hd:Int→Option Int}{c n q:Nat}{a b:Int}{src:V}
theorem k_two(hq:q=43∨q=101∨q=103∨q=105∨q=245)(h:rs[0]? =some (.int a))(hs: ∀k,call TT (k+6) 95 [St9 pre,src,.int 64] (S pre own ⟨rs,f,hd,c⟩)= .ok (.int (b%18446744073709551616)) (S pre own ⟨rs,f,hd,c⟩)):
    ∃fl',call TT (n+10) 26 [St9 pre,ins q [oReg rax,src]] (S pre own ⟨rs,f,hd,c⟩)= .ok .none (S pre own ⟨rs.set 0 (.int (opI q (a%18446744073709551616) (b%18446744073709551616)%18446744073709551616)),fl',hd,c⟩):=by
  obtain⟨fl',-,e⟩:=k_comb (n:=n+2) (q:=q) (pre:=pre) (own:=own) (m:=⟨rs,f,hd,c⟩) (a:=a%18446744073709551616) (b:=b%18446744073709551616) (hq.imp_right (·.imp_right (·.imp_right .inr))) (WW a) (WW b)
  refine⟨fl',?_⟩
  have hn:(!([102,104].contains q))=true:=by rcases hq with rfl |rfl |rfl |rfl |rfl<;>rfl
  rw [←WW]
  exact k_go rfl (.m (lS 109)<| .r k_size2<| .m (lS 110)<| .r (rd0 h)<| .m (lS 110)<| .r (hs _)<| .v (aS 77)<| .r e<| .y hn<| .m (lS 111)<| .r (wr0 h) .nil) rfl
theorem k_test(h:rs[0]? =some (.int a)):
    ∃fl',(fl'.zf=if a%18446744073709551616=0 then 1 else 0)∧call TT (n+10) 26 [St9 pre,ins 104 [oReg rax,oReg rax]] (S pre own ⟨rs,f,hd,c⟩)= .ok .none (S pre own ⟨rs,fl',hd,c⟩):=by
  obtain⟨fl',hz,e⟩:=k_comb (n:=n+2) (q:=104) (pre:=pre) (own:=own) (m:=⟨rs,f,hd,c⟩) (a:=a%18446744073709551616) (b:=a%18446744073709551616) (.inr (.inr (.inr (.inl rfl)))) (WW a) (WW a)
  have hx:opI 104 (a%18446744073709551616) (a%18446744073709551616)%18446744073709551616=a%18446744073709551616:=by
    show Builtin.bitAnd _ _%_=_
    obtain⟨k,hk⟩:=Int.eq_ofNat_of_zero_le (W_range a).1
    rw [hk,band_nat,Nat.and_self,←hk,WW]
  refine⟨fl',by rw [hz,hx],?_⟩
  exact k_go rfl (.m (lS 109)<| .r k_size2<| .m (lS 110)<| .r (rd0 h)<| .m (lS 110)<| .r (rd0 h)<| .v (aS 77)<| .r e<| .c .nil) rfl
theorem bx_all(a:Int):Builtin.bitXor (a%18446744073709551616) (18446744073709551616-1)=18446744073709551615-a%18446744073709551616:=by
  have:Builtin.bitAnd (a%18446744073709551616) (18446744073709551616-1)=a%18446744073709551616:=(kbt_mask _ 64).trans (WW a)
  rw [PyProof.Rows.bitXor_and,this];omega
theorem k_neg(h:rs[0]? =some (.int a)):
    ∃fl',call TT (n+10) 27 [St9 pre,ins 119 [oReg rax]] (S pre own ⟨rs,f,hd,c⟩)= .ok .none (S pre own ⟨rs.set 0 (.int ((0-a)%18446744073709551616)),fl',hd,c⟩):=by
  refine⟨subF f 0 (a%18446744073709551616) 0,?_⟩
  have e:(0-a%18446744073709551616%18446744073709551616-0)%18446744073709551616%18446744073709551616=(0-a)%18446744073709551616:=by rw [WW,WW,Int.sub_zero,Int.sub_emod_emod]
  rw [←e]
  exact k_go rfl (.m (lS 109)<| .r k_size1<| .m (lS 110)<| .r (rd0 h)<| .c<| .c<| .c<| .v (aS 77)<| .r k_neg_flags<| .m (lS 111)<| .r (wr0 h) .nil) rfl
theorem bin_shl64:binV .LShift (.int 1) (.int 64)=some (.int 18446744073709551616):=rfl
theorem k_not(h:rs[0]? =some (.int a)):
    call TT (n+10) 27 [St9 pre,ins 235 [oReg rax]] (S pre own ⟨rs,f,hd,c⟩)= .ok .none (S pre own ⟨rs.set 0 (.int ((0-a-1)%18446744073709551616)),f,hd,c⟩):=by
  have e:Builtin.bitXor (a%18446744073709551616) (18446744073709551616-1)%18446744073709551616=(0-a-1)%18446744073709551616:=by rw [bx_all];omega
  rw [←e]
  exact k_go rfl (.m (lS 109)<| .r k_size1<| .m (lS 110)<| .r (rd0 h)<| .c<| .c<| .c<| .v bin_shl64<| .m (lS 111)<| .r (wr0 h) .nil) rfl
theorem bin_shr41:binV .RShift (.int 4) (.int 1)=some (.int 2):=rfl
theorem k_cond{n:Nat}{σ:Sg}:call TT (n+9) 24 [.str 236] σ= .ok (.str 327) σ:=rfl
theorem k_cnum{n:Nat}{σ:Sg}:call TT (n+8) 16 [.str 327] σ= .ok (.int 4) σ:=rfl
theorem k_hold{t:Bool}(hz:(m.fl.zf==1)=t):call TT (n+8) 17 [Fl6 pre,.int 4] (S pre own m)= .ok (.bool t) (S pre own m):=by
  rw [←hz]
  exact k_go rfl (.v bin_shr41<| .c<| .c<| .c<| .v (aF 74)<| .c .nil) rfl
theorem k_holds{t:Bool}(hz:(m.fl.zf==1)=t):call TT (n+9) 18 [Fl6 pre,.str 327] (S pre own m)= .ok (.bool t) (S pre own m):=by
  exact k_go rfl (.r k_cnum<| .r (k_hold hz) .nil) rfl
theorem k_sete(h:rs[0]? =some (.int a))(t:Bool)(hz:f.zf=if t then 1 else 0):
    call TT (n+10) 28 [St9 pre,ins 236 [oReg al]] (S pre own ⟨rs,f,hd,c⟩)= .ok .none (S pre own ⟨rs.set 0 (.int (a-a%256+if t then 1 else 0)),f,hd,c⟩):=by
  have c4:call TT (n+9) 18 [Fl6 pre,.str 327] (S pre own ⟨rs,f,hd,c⟩)= .ok (.bool t) (S pre own ⟨rs,f,hd,c⟩):=k_holds (by show(f.zf==1)=t;rw [hz];cases t<;>rfl)
  cases t
  · exact k_go rfl (.v (aS 77)<| .r k_cond<| .r c4<| .m (lS 111)<| .c<| .r (wrA h) .nil) rfl
  · exact k_go rfl (.v (aS 77)<| .r k_cond<| .r c4<| .m (lS 111)<| .c<| .r (wrA h) .nil) rfl
end
end Mine
namespace Mine
variable {pre own:List Cell}{m:M}
theorem reR{regs:List V}{fl:Fl}{h:Int→Option Int}{c:Nat}(e1:m.regs=regs)(e2:m.fl=fl)(e3:m.held=h)(e4:m.n=c):S pre own m=S pre own ⟨regs,fl,h,c⟩:=by subst e1 e2 e3 e4;rfl
theorem sg64_range(i:Int): -9223372036854775808≤sg64 i∧sg64 i<9223372036854775808:=by unfold sg64;split<;>omega
noncomputable def shI:Nat→Int→Int→Int
  |152,a,c=>a*2 ^ c.toNat
  |_,a,c=>sg64 a/2 ^ c.toNat
theorem k_masked{n:Nat}{i:Int}{σ:Sg}:call TT (n+3) 34 [.int i,.int 64] σ= .ok (.int (i%64)) σ:=by
  have w: ∀n,call TT (n+2) 1 [.int i,.int 6] σ= .ok (.int (i%64)) σ:=fun n=>k_wrap (by decide) (by decide)
  exact k_go rfl (.c<| .r (w _) .nil) rfl
theorem k_wrap1{n:Nat}{i:Int}{σ:Sg}:call TT (n+2) 1 [.int i,.int 1] σ= .ok (.int (i%2)) σ:=k_wrap (by decide) (by decide)
theorem sh_l{n:Nat}{a b:Int}{σ:Sg}(h0:0≤b)(h1:b<64)(sa:sm a=true):call TT (n+4) 35 [.str 152,.int a,.int b,.int 64] σ= .ok (.tup [.int (a*2 ^ b.toNat%18446744073709551616),.int (a/2 ^(64-b).toNat%2),.int (Builtin.bitXor (a*2 ^ b.toNat%18446744073709551616/9223372036854775808%2) (a/2 ^(64-b).toNat%2))]) σ:=by
  have b1:b≤100000:=by omega
  have b2:0≤64-b:=by omega
  exact k_go rfl (.c<| .v (bin_shl h0 b1 sa)<| .r k_wrap64<| .y (decide_eq_true h1)<| .r (k_bit b2)<| .r (k_bit (by decide)) .nil) rfl
theorem sh_r{n:Nat}{a b:Int}{σ:Sg}(h0:0≤b)(h1:0≤b-1):call TT (n+4) 35 [.str 244,.int a,.int b,.int 64] σ= .ok (.tup [.int (sg64 a/2 ^ b.toNat%18446744073709551616),.int (sg64 a/2 ^(b-1).toNat%2),.int 0]) σ:=by
  exact k_go rfl (.c<| .c<| .r k_signed<| .v (bin_shr h0)<| .r k_wrap64<| .v (bin_shr h1)<| .r k_wrap1 .nil) rfl
section
variable {rs:List V}{f:Fl}{hd:Int→Option Int}{c n q:Nat}{a b:Int}
theorem k_count(h1:rs[1]? =some (.int b)):call TT (n+9) 39 [St9 pre,oReg cl,.int 64] (S pre own ⟨rs,f,hd,c⟩)= .ok (.int (b%256%64)) (S pre own ⟨rs,f,hd,c⟩):=by
  exact k_go rfl (.c<| .m (lS 163)<| .r (gtC h1)<| .r k_masked .nil) rfl
theorem k_shift (hq:q=152∨q=244) (h0:rs[0]? =some (.int a)) (h1:rs[1]? =some (.int b)) (hb:0≤b∧b<64):
    ∃fl',call TT (n+10) 40 [St9 pre,ins q [oReg rax,oReg cl]] (S pre own ⟨rs,f,hd,c⟩)= .ok .none (S pre own ⟨rs.set 0 (.int (shI q (a%18446744073709551616) b%18446744073709551616)),fl',hd,c⟩):=by
  have hb':b%256%64=b:=by omega
  have ct:=k_count (n:=n) (pre:=pre) (own:=own) (f:=f) (hd:=hd) (c:=c) h1
  rw [hb'] at ct
  by_cases hc:b=0
  · subst hc
    refine⟨f,?_⟩
    have hx:shI q (a%18446744073709551616) 0%18446744073709551616=a%18446744073709551616%18446744073709551616:=by
      rcases hq with rfl |rfl
      · exact congrArg (· %18446744073709551616) (Int.mul_one _)
      · show sg64 (a%18446744073709551616)/1%18446744073709551616=_
        rw [Int.ediv_one];unfold sg64;split<;>omega
    rw [hx]
    exact k_go rfl (.m (lS 109)<| .r k_size2<| .r ct<| .m (lS 110)<| .r (rd0 h0)<| .c<| .m (lS 111)<| .r (wr0 h0) .nil) rfl
  · have hcb:(b==0)=false:=beq_false_of_ne hc
    have sh: ∃car ov,∀n σ,call TT (n+4) 35 [.str q,.int (a%18446744073709551616),.int b,.int 64] σ= .ok (.tup [.int (shI q (a%18446744073709551616) b%18446744073709551616),.int car,.int ov]) σ:=by
      rcases hq with rfl |rfl
      · exact⟨_,_,fun n σ=>sh_l hb.1 hb.2 (sm_w (by have:=W_range a;omega) (W_range a).2)⟩
      · exact⟨_,_,fun n σ=>sh_r hb.1 (by omega)⟩
    obtain⟨car,ov,sh⟩:=sh
    have tq: [152,153,244].contains q=true:=by rcases hq with rfl |rfl<;>rfl
    have e:=WW (shI q (a%18446744073709551616) b)
    by_cases hcc:(b==1)=true
    · refine ⟨{szpF f (shI q (a%18446744073709551616) b%18446744073709551616) with af:=0,cf:=car,of:=ov},?_⟩
      rw [←e]
      exact k_go rfl (.m (lS 109)<| .r k_size2<| .r ct<| .m (lS 110)<| .r (rd0 h0)<| .n hcb<| .y tq<| .r (sh _ _)<| .v (aS 77)<| .r k_szp<| .v (aS 77)<| .g sAf<| .v (aS 77)<| .g sCf<| .y hcc<| .v (aS 77)<| .g sOf<| .m (lS 111)<| .r (wr0 h0) .nil) rfl
    · have hcd:=Bool.eq_false_iff.mpr hcc
      refine⟨{szpF f (shI q (a%18446744073709551616) b%18446744073709551616) with af:=0,cf:=car,of:=0},?_⟩
      rw [←e]
      exact k_go rfl (.m (lS 109)<| .r k_size2<| .r ct<| .m (lS 110)<| .r (rd0 h0)<| .n hcb<| .y tq<| .r (sh _ _)<| .v (aS 77)<| .r k_szp<| .v (aS 77)<| .g sAf<| .v (aS 77)<| .g sCf<| .n hcd<| .v (aS 77)<| .g sOf<| .m (lS 111)<| .r (wr0 h0) .nil) rfl
end
end Mine
namespace Mine
variable {pre own:List Cell}{m:M}
theorem k_clear{n:Nat}:call TT (n+1) 38 [Fl6 pre] (S pre own m)= .ok .none (S pre own {m with fl:=⟨0,0,0,0,0,0,m.fl.df⟩}):=by
  exact k_go rfl (.g sCf<| .g sPf<| .g sAf<| .g sZf<| .g sSf<| .g sOf .nil) rfl
theorem k_lay{n:Nat}{w:Int}:call TT (n+2) 41 [Fl6 pre,.int w] (S pre own m)= .ok .none (S pre own {m with fl:=⟨w,0,0,0,0,w,m.fl.df⟩}):=by
  exact k_go rfl (.r k_clear<| .g sCf<| .g sOf .nil) rfl
theorem bin_shrW{i:Int}:binV .RShift (.int i) (.int 64)=some (.int (i/18446744073709551616)):=bin_shrP (by decide) rfl
theorem k_product{a b:Int}: ∃hi wd,∀n σ,call TT (n+4) 36 [.int a,.int b,.int 64,.bool true] σ= .ok (.tup [.int (sg64 a*sg64 b%18446744073709551616),.int hi,.int wd]) σ:=by
  have wa:(word (sg64 a)||word (sg64 b)||(sm (sg64 a)&&sm (sg64 b)))=true:=by
    rw [word_of (Int.lt_of_lt_of_le (by decide) (sg64_range a).1) (Int.lt_trans (sg64_range a).2 (by decide))];rfl
  by_cases h:fit (sg64 a*sg64 b)=true
  · refine ⟨sg64 a*sg64 b/18446744073709551616%18446744073709551616,0,fun n σ=>?_⟩
    exact k_go rfl (.c<| .r k_signed<| .r k_signed<| .v (bin_mul wa)<| .r k_fits<| .y h<| .r k_wrap64<| .v bin_shrW<| .r k_wrap64 .nil) rfl
  · have h':=Bool.eq_false_iff.mpr h
    refine⟨sg64 a*sg64 b/18446744073709551616%18446744073709551616,1,fun n σ=>?_⟩
    exact k_go rfl (.c<| .r k_signed<| .r k_signed<| .v (bin_mul wa)<| .r k_fits<| .n h'<| .r k_wrap64<| .v bin_shrW<| .r k_wrap64 .nil) rfl
section
variable {rs:List V}{f:Fl}{hd:Int→Option Int}{c n q:Nat}{a b d:Int}
theorem k_imul(h0:rs[0]? =some (.int a))(h1:rs[1]? =some (.int b)):
    ∃fl',call TT (n+10) 44 [St9 pre,ins 179 [oReg rax,oReg rcx]] (S pre own ⟨rs,f,hd,c⟩)= .ok .none (S pre own ⟨rs.set 0 (.int (sg64 (a%18446744073709551616)*sg64 (b%18446744073709551616)%18446744073709551616)),fl',hd,c⟩):=by
  obtain⟨hi,wd,e⟩:=k_product (a:=a%18446744073709551616) (b:=b%18446744073709551616)
  refine⟨⟨wd,0,0,0,0,wd,f.df⟩,?_⟩
  rw [←WW (_*_)]
  exact k_go rfl (.m (lS 109)<| .r k_size2<| .m (lS 110)<| .r (rd0 h0)<| .c<| .c<| .m (lS 110)<| .r (rd1 h1)<| .c<| .c<| .r (e _ _)<| .m (lS 111)<| .r (wr0 h0)<| .v (aS 77)<| .r k_lay .nil) rfl
theorem bor_halves (x y : Int) (hx:0≤x) (hy:0≤y∧y<18446744073709551616):Builtin.bitOr (x*18446744073709551616) y=x*18446744073709551616+y:=by
  have key : Builtin.bitAnd (x * 18446744073709551616) y=0:=by
    obtain⟨a,rfl⟩:=Int.eq_ofNat_of_zero_le hx
    obtain⟨b,rfl⟩:=Int.eq_ofNat_of_zero_le hy.1
    rw [show((a:Int)*18446744073709551616)=((a*2 ^ 64:Nat):Int) by simp,band_nat]
    have hb : b < 2 ^ 64 := by have:(2:Nat)^ 64=18446744073709551616:=by decide
                               omega
    have:a*2 ^ 64&&& b=0:=by
      apply Nat.eq_of_testBit_eq
      intro i
      rw [Nat.testBit_and,Nat.testBit_mul_two_pow,Nat.zero_testBit]
      by_cases hi:64≤i
      · rw [Nat.testBit_lt_two_pow (Nat.lt_of_lt_of_le hb (Nat.pow_le_pow_right (by decide) hi)),Bool.and_false]
      · simp [hi]
    rw [this];rfl
  rw [PyProof.Rows.bitOr_and,key];omega
theorem k_halves(h0:rs[0]? =some (.int a))(h2:rs[2]? =some (.int d)):
    call TT (n+6) 43 [St9 pre,.int 64] (S pre own ⟨rs,f,hd,c⟩)= .ok (.int (d%18446744073709551616*18446744073709551616+a%18446744073709551616)) (S pre own ⟨rs,f,hd,c⟩):=by
  have sd:sm (d%18446744073709551616)=true:=sm_w (Int.lt_of_lt_of_le (by decide) (W_range d).1) (W_range d).2
  rw [←bor_halves _ _ (W_range d).1 (W_range a)]
  exact k_go rfl (.c<| .m (lS 163)<| .r k_gpr2<| .r (gt2 h2)<| .v (bin_shlP (P:=18446744073709551616) sd (by decide) (by decide) (by rfl))<| .m (lS 163)<| .r k_gpr0<| .r (gt0 h0) .nil) rfl
end
noncomputable def quo(a b:Int):Int:=if decide (a<0) !=decide (b<0) then -((a.natAbs:Int)/(b.natAbs:Int)) else(a.natAbs:Int)/(b.natAbs:Int)
theorem bin_mul264:binV .Mult (.int 2) (.int 64)=some (.int 128):=rfl
theorem k_quotient0{n:Nat}{a b x y:Int}{σ:Sg}(hx: ∀n,call TT (n+3) 2 [.int a,.int 128] σ= .ok (.int x) σ)(hy: ∀n,call TT (n+3) 2 [.int b,.int 64] σ= .ok (.int y) σ)(hb:b≠0)
    (wy:word y=true) (sy:sm (y.natAbs:Int)=true) (h3:0< (y.natAbs:Int)) (hf:fit (quo x y)=true):
    call TT (n+4) 37 [.int a,.int b,.int 64,.bool true] σ= .ok (.tup [.int (quo x y%18446744073709551616),.int ((x-quo x y*y)%18446744073709551616)]) σ:=by
  have hb':=beq_false_of_ne hb
  have mu: ∀z,binV .Mult (.int z) (.int y)=some (.int (z*y)):=fun z=>bin_mul (by rw [wy,Bool.or_true];rfl)
  cases h:(decide (x<0) !=decide (y<0)) with
  | true=>
    have q:quo x y= -((x.natAbs:Int)/(y.natAbs:Int)):=by unfold quo;rw [h];rfl
    rw [q] at hf ⊢
    have hf':(!fit (-((x.natAbs:Int)/(y.natAbs:Int))))=false:=by rw [hf];rfl
    exact k_go rfl (.n hb'<| .c<| .v bin_mul264<| .r (hx _)<| .r (hy _)<| .v (bin_div h3 sy)<| .y h<| .r k_fits<| .n hf'<| .r k_wrap64<| .v (mu _)<| .r k_wrap64 .nil) rfl
  | false=>
    have q:quo x y=((x.natAbs:Int)/(y.natAbs:Int)):=by unfold quo;rw [h];rfl
    rw [q] at hf ⊢
    have hf':(!fit ((x.natAbs:Int)/(y.natAbs:Int)))=false:=by rw [hf];rfl
    exact k_go rfl (.n hb'<| .c<| .v bin_mul264<| .r (hx _)<| .r (hy _)<| .v (bin_div h3 sy)<| .n h<| .r k_fits<| .n hf'<| .r k_wrap64<| .v (mu _)<| .r k_wrap64 .nil) rfl
theorem k_quotient{n:Nat}{a b:Int}{σ:Sg}(hb:b≠0)(hb':sg64 b≠0)(hf:fit (quo (sg128 a) (sg64 b))=true):
    call TT (n+4) 37 [.int a,.int b,.int 64,.bool true] σ= .ok (.tup [.int (quo (sg128 a) (sg64 b)%18446744073709551616),.int ((sg128 a-quo (sg128 a) (sg64 b)*sg64 b)%18446744073709551616)]) σ:=
  k_quotient0 (fun _=>k_signed128) (fun _=>k_signed) hb (word_of (by have:=sg64_range b;omega) (by have:=sg64_range b;omega)) (by have:=sg64_range b;exact sm_w (by omega) (by omega)) (by omega) hf
section
variable {rs:List V}{f:Fl}{hd:Int→Option Int}{c n q:Nat}{a b d v sp num:Int}{ops:List V}{src:V}
theorem k_put_halves{lo hi:Int}(h0:rs[0]? =some (.int a))(h2:rs[2]? =some (.int d)):
    call TT (n+6) 42 [St9 pre,.int lo,.int hi,.int 64] (S pre own ⟨rs,f,hd,c⟩)= .ok .none (S pre own ⟨(rs.set 2 (.int (hi%18446744073709551616))).set 0 (.int (lo%18446744073709551616)),f,hd,c⟩):=by
  have h0':(rs.set 2 (.int (hi%18446744073709551616)))[0]? =some (.int a):=by rw [List.getElem?_set_ne (by decide)];exact h0
  exact k_go rfl (.c<| .m (lS 177)<| .r k_gpr2<| .r (pt2 h2)<| .m (lS 177)<| .r k_gpr0<| .r (pt0 h0') .nil) rfl
theorem k_idiv(h0:rs[0]? =some (.int a))(h1:rs[1]? =some (.int b))(h2:rs[2]? =some (.int d)){N B:Int}
    (hN:d%18446744073709551616*18446744073709551616+a%18446744073709551616=N) (hB:b%18446744073709551616=B) (hb:B≠0) (hb':sg64 B≠0) (hf:fit (quo (sg128 N) (sg64 B))=true):
    call TT (n+10) 45 [St9 pre,ins 183 [oReg rcx]] (S pre own ⟨rs,f,hd,c⟩)= .ok .none (S pre own ⟨(rs.set 2 (.int ((sg128 N-quo (sg128 N) (sg64 B)*sg64 B)%18446744073709551616))).set 0 (.int (quo (sg128 N) (sg64 B)%18446744073709551616)),⟨0,0,0,0,0,0,f.df⟩,hd,c⟩):=by
  subst hN hB
  have q:=fun n σ=>k_quotient (n:=n) (σ:=σ) hb hb' hf
  rw [←WW (quo _ _),←WW (_-_)]
  exact k_go rfl (.m (lS 109)<| .r k_size1<| .r (k_halves h0 h2)<| .m (lS 110)<| .r (rd1 h1)<| .r (q _ _)<| .r (k_put_halves h0 h2)<| .v (aS 77)<| .r k_clear .nil) rfl
theorem k_idiv0(h0:rs[0]? =some (.int a))(h1:rs[1]? =some (.int b))(h2:rs[2]? =some (.int d))(hb:b%18446744073709551616=0):
    call TT (n+10) 45 [St9 pre,ins 183 [oReg rcx]] (S pre own ⟨rs,f,hd,c⟩)= .exc 1083 (S pre own ⟨rs,f,hd,c⟩):=by
  have q: ∀n N σ,call TT (n+9) 37 [.int N,.int 0,.int 64,.bool true] σ= .exc 1083 σ:=fun n N σ=>rfl
  have r1:=fun n=>rd1 (n:=n) (pre:=pre) (own:=own) (f:=f) (hd:=hd) (c:=c) h1
  rw [hb] at r1
  exact k_go rfl (.m (lS 109)<| .r k_size1<| .r (k_halves h0 h2)<| .m (lS 110)<| .r (r1 _)<| .r (q _ _ _) .nil) rfl
theorem bin_shl162:binV .LShift (.int 16) (.int 2)=some (.int 64):=rfl
theorem k_cqo(h0:rs[0]? =some (.int a))(h2:rs[2]? =some (.int d)):
    call TT (n+10) 46 [St9 pre,.str 243] (S pre own ⟨rs,f,hd,c⟩)= .ok .none (S pre own ⟨rs.set 2 (.int (-(a%18446744073709551616/9223372036854775808%2)%18446744073709551616)),f,hd,c⟩):=by
  rw [←WW (-_)]
  exact k_go rfl (.c<| .v bin_shl162<| .m (lS 163)<| .r k_gpr0<| .r (gt0 h0)<| .m (lS 177)<| .r k_gpr2<| .r k_bit63<| .r k_wrap64<| .r (pt2 h2) .nil) rfl
theorem k_mov(h0:rs[0]? =some (.int a))(hs: ∀k,call TT (k+6) 95 [St9 pre,src,.int 64] (S pre own ⟨rs,f,hd,c⟩)= .ok (.int (v%18446744073709551616)) (S pre own ⟨rs,f,hd,c⟩)):
    call TT (n+10) 47 [St9 pre,ins 193 [oReg rax,src]] (S pre own ⟨rs,f,hd,c⟩)= .ok (.bool true) (S pre own ⟨rs.set 0 (.int (v%18446744073709551616)),f,hd,c⟩):=by
  rw [←WW v]
  exact k_go rfl (.c<| .c<| .c<| .m (lS 109)<| .r k_size2<| .c<| .c<| .m (lS 111)<| .m (lS 110)<| .r (hs _)<| .r (wr0 h0) .nil) rfl
theorem k_move_no(h1:q≠192)(h2:q≠193)(h3:q≠194)(h4:q≠195):
    call TT (n+10) 47 [St9 pre,ins q ops] (S pre own m)= .ok (.bool false) (S pre own m):=by
  have b1:=beq_false_of_ne h1
  have n2:=bne_iff_ne.mpr h2
  have n3:=bne_iff_ne.mpr h3
  have n4:=bne_iff_ne.mpr h4
  exact k_go rfl (.n b1<| .y n2<| .y n3<| .y n4<| .c .nil) rfl
theorem k_stack_no(h1:q≠198)(h2:q≠199)(h3:q≠200)(h4:q≠202)(h5:q≠204):
    call TT (n+10) 50 [St9 pre,ins q ops] (S pre own m)= .ok (.bool false) (S pre own m):=by
  have b1:=beq_false_of_ne h1
  have b2:=beq_false_of_ne h2
  have b3:=beq_false_of_ne h3
  have b4:=beq_false_of_ne h4
  have b5:=beq_false_of_ne h5
  exact k_go rfl (.n b1<| .n b2<| .n b3<| .n b4<| .n b5 .nil) rfl
theorem k_stack_push(z: ∀n,call TT (n+1) 94 [St9 pre,src,ins 198 [src]] (S pre own ⟨rs,f,hd,c⟩)= .ok (.int 64) (S pre own ⟨rs,f,hd,c⟩))(hs: ∀k,call TT (k+6) 95 [St9 pre,src,.int 64] (S pre own ⟨rs,f,hd,c⟩)= .ok (.int v) (S pre own ⟨rs,f,hd,c⟩))
    (h4:rs[4]? =some (.int sp)) (hn:c+8≤100000):
    call TT (n+10) 50 [St9 pre,ins 198 [src]] (S pre own ⟨rs,f,hd,c⟩)= .ok (.bool true) (S pre own ⟨rs.set 4 (.int ((sp-8)%18446744073709551616)),f,wr8 hd ((sp-8)%18446744073709551616) v,c+8⟩):=by
  have p:call TT (n+9) 48 [St9 pre,ins 198 [src]] (S pre own ⟨rs,f,hd,c⟩)= .ok .none (S pre own ⟨rs.set 4 (.int ((sp-8)%18446744073709551616)),f,wr8 hd ((sp-8)%18446744073709551616) v,c+8⟩):=by
    exact k_go rfl (.m (lS 109)<| .r (z _)<| .m (lS 198)<| .m (lS 110)<| .r (hs _)<| .v bin_div8<| .r (k_push h4 hn) .nil) rfl
  exact k_go rfl (.c<| .r p .nil) rfl
theorem k_stack_pop{r:Nat}(hk:0≤num)(hk':num<100000)(h:(rs.set 4 (.int ((sp+8)%18446744073709551616)))[num.toNat]? =some (.int a))
    (h4:rs[4]? =some (.int sp)) (ho:Oct hd):
    call TT (n+10) 50 [St9 pre,ins 199 [oReg (rg r num 64)]] (S pre own ⟨rs,f,hd,c⟩)= .ok (.bool true) (S pre own ⟨(rs.set 4 (.int ((sp+8)%18446744073709551616))).set num.toNat (.int (rd8 hd sp%18446744073709551616)),f,hd,c⟩):=by
  have p:call TT (n+9) 49 [St9 pre,ins 199 [oReg (rg r num 64)]] (S pre own ⟨rs,f,hd,c⟩)= .ok .none (S pre own ⟨(rs.set 4 (.int ((sp+8)%18446744073709551616))).set num.toNat (.int (rd8 hd sp%18446744073709551616)),f,hd,c⟩):=by
    exact k_go rfl (.m (lS 109)<| .r k_size1<| .m (lS 199)<| .v bin_div8<| .r (k_pop h4 ho)<| .m (lS 111)<| .r (k_write64 hk hk' h) .nil) rfl
  exact k_go rfl (.c<| .c<| .r p .nil) rfl
end
end Mine
namespace Mine
variable {pre own:List Cell}{m:M}
noncomputable abbrev dL:V:= .lst [.fn 50,.fn 47,.fn 67]
section
variable {n q k:Nat}{ops:List V}{σ σ':Sg}
theorem k_done_stack(h1:(q==143)=false)(h2: [354,211,355,356,357].contains q=false)(h:call TT n 50 [St9 pre,ins q ops] σ= .ok (.bool true) σ'):call TT (n+1) 32 [St9 pre,ins q ops,dL] σ= .ok .none σ':=by
  exact k_go rfl (.n h1<| .n h2<| .r h<| .c .nil) rfl
theorem k_done_move(h1:(q==143)=false)(h2: [354,211,355,356,357].contains q=false)(i:call TT n 50 [St9 pre,ins q ops] σ= .ok (.bool false) σ)(h:call TT n 47 [St9 pre,ins q ops] σ= .ok (.bool true) σ'):call TT (n+1) 32 [St9 pre,ins q ops,dL] σ= .ok .none σ':=by
  exact k_go rfl (.n h1<| .n h2<| .r i<| .c<| .r h<| .c .nil) rfl
theorem k_done_law(h1:(q==143)=false)(h2: [354,211,355,356,357].contains q=false)(i:call TT n 50 [St9 pre,ins q ops] σ= .ok (.bool false) σ)(j:call TT n 47 [St9 pre,ins q ops] σ= .ok (.bool false) σ)
    (h:call TT n 67 [St9 pre,ins q ops] σ= .ok (.bool true) σ'):call TT (n+1) 32 [St9 pre,ins q ops,dL] σ= .ok .none σ':=by
  exact k_go rfl (.n h1<| .n h2<| .r i<| .c<| .r j<| .c<| .r h<| .c .nil) rfl
theorem k_done_exc(h1:(q==143)=false)(h2: [354,211,355,356,357].contains q=false)(i:call TT n 50 [St9 pre,ins q ops] σ= .ok (.bool false) σ)(j:call TT n 47 [St9 pre,ins q ops] σ= .ok (.bool false) σ)
    (h:call TT n 67 [St9 pre,ins q ops] σ= .exc k σ'):call TT (n+1) 32 [St9 pre,ins q ops,dL] σ= .exc k σ':=by
  exact k_go rfl (.n h1<| .n h2<| .r i<| .c<| .r j<| .c<| .r h .nil) rfl
noncomputable def nots:List Nat:= [143,354,211,355,356,357,192,193,194,195,198,199,200,202,204]
theorem nots_ne(h:nots.contains q=false){x:Nat}(hx:nots.contains x=true):q≠x:=fun e=>by rw [e,hx] at h;cases h
theorem no_stack(h:nots.contains q=false):call TT (n+10) 50 [St9 pre,ins q ops] (S pre own m)= .ok (.bool false) (S pre own m):=k_stack_no (nots_ne h rfl) (nots_ne h rfl) (nots_ne h rfl) (nots_ne h rfl) (nots_ne h rfl)
theorem no_move(h:nots.contains q=false):call TT (n+10) 47 [St9 pre,ins q ops] (S pre own m)= .ok (.bool false) (S pre own m):=k_move_no (nots_ne h rfl) (nots_ne h rfl) (nots_ne h rfl) (nots_ne h rfl)
theorem traps_no(h:nots.contains q=false): [354,211,355,356,357].contains q=false:=by
  have e:=fun x hx=>(beq_false_of_ne (nots_ne (x:=x) h hx))
  show(q==354||(q==211||(q==355||(q==356||(q==357||false)))))=false
  rw [e 354 rfl,e 211 rfl,e 355 rfl,e 356 rfl,e 357 rfl];rfl
theorem law_step(hq:nots.contains q=false)(h:call TT (n+11) 67 [St9 pre,ins q ops] (S pre own m)= .ok (.bool true) σ'):call TT (n+12) 32 [St9 pre,ins q ops,dL] (S pre own m)= .ok .none σ':=
  k_done_law (beq_false_of_ne (nots_ne hq rfl)) (traps_no hq) (no_stack (n:=n+1) hq) (no_move (n:=n+1) hq) h
theorem kl_two(hq: [43,101,103,105,245,104].contains q=true)(h:call TT n 26 [St9 pre,ins q ops] σ= .ok .none σ'):call TT (n+1) 67 [St9 pre,ins q ops] σ= .ok (.bool true) σ':=by
  exact k_go rfl (.y hq<| .r h .nil) rfl
theorem kl_one(hq:q=119∨q=235)(h:call TT n 27 [St9 pre,ins q ops] σ= .ok .none σ'):call TT (n+1) 67 [St9 pre,ins q ops] σ= .ok (.bool true) σ':=by
  rcases hq with rfl |rfl
  · exact k_go rfl (.c<| .c<| .r h .nil) rfl
  · exact k_go rfl (.c<| .c<| .r h .nil) rfl
theorem kl_shift(hq:q=152∨q=244)(h:call TT n 40 [St9 pre,ins q ops] σ= .ok .none σ'):call TT (n+1) 67 [St9 pre,ins q ops] σ= .ok (.bool true) σ':=by
  rcases hq with rfl |rfl
  · exact k_go rfl (.c<| .c<| .c<| .r h .nil) rfl
  · exact k_go rfl (.c<| .c<| .c<| .r h .nil) rfl
theorem kl_imul(h:call TT n 44 [St9 pre,ins 179 ops] σ= .ok .none σ'):call TT (n+1) 67 [St9 pre,ins 179 ops] σ= .ok (.bool true) σ':=by
  exact k_go rfl (.c<| .c<| .c<| .c<| .r h .nil) rfl
theorem kl_idiv(h:call TT n 45 [St9 pre,ins 183 ops] σ= .ok .none σ'):call TT (n+1) 67 [St9 pre,ins 183 ops] σ= .ok (.bool true) σ':=by
  exact k_go rfl (.c<| .c<| .c<| .c<| .c<| .r h .nil) rfl
theorem kl_idivx(h:call TT n 45 [St9 pre,ins 183 ops] σ= .exc k σ'):call TT (n+1) 67 [St9 pre,ins 183 ops] σ= .exc k σ':=by
  exact k_go rfl (.c<| .c<| .c<| .c<| .c<| .r h .nil) rfl
theorem kl_cqo(h:call TT n 46 [St9 pre,.str 243] σ= .ok .none σ'):call TT (n+1) 67 [St9 pre,ins 243 ops] σ= .ok (.bool true) σ':=by
  exact k_go rfl (.c<| .c<| .c<| .c<| .c<| .c<| .r h .nil) rfl
theorem kl_sete(h:call TT n 28 [St9 pre,ins 236 ops] σ= .ok .none σ'):call TT (n+1) 67 [St9 pre,ins 236 ops] σ= .ok (.bool true) σ':=by
  exact k_go rfl (.c<| .c<| .c<| .c<| .c<| .c<| .r h .nil) rfl
end
structure At4(m:M)(a b d h sp:Int)(rest:List V):Prop where
  regs:m.regs= .int a:: .int b:: .int d:: .int h:: .int sp::rest
  oct:Oct m.held
@[elab_as_elim] theorem At4.go {P:M→Prop} {a b d h sp:Int} {rest:List V} (x:At4 m a b d h sp rest) (k: ∀f hd c,Oct hd→P ⟨.int a:: .int b:: .int d:: .int h:: .int sp::rest,f,hd,c⟩):P m:=match m,x with
  |⟨_,f,hd,c⟩,⟨e,o⟩=>Eq.rec (motive:=fun r _=>P ⟨r,f,hd,c⟩) (k f hd c o) e.symm
noncomputable def Steps(n:Nat)(pre own:List Cell)(row:V)(m m':M):Prop:=call TT (n+12) 32 [St9 pre,row,dL] (S pre own m)= .ok .none (S pre own m')
variable {n:Nat}{a b d h sp:Int}{rest:List V}
theorem st_movI{v:Int}(x:At4 m a b d h sp rest):Steps n pre own (ins 193 [oReg rax,oImm v]) m {m with regs:= .int (v%18446744073709551616):: .int b:: .int d:: .int h:: .int sp::rest}:=by
  refine At4.go x ?_
  exact fun f hd c o=>k_done_move rfl rfl (k_stack_no (n:=n+1) (by decide) (by decide) (by decide) (by decide) (by decide)) (k_mov (n:=n+1) rfl fun _=>rd_i)
theorem st_movR(x:At4 m a b d h sp rest):Steps n pre own (ins 193 [oReg rax,oReg rdx]) m {m with regs:= .int (d%18446744073709551616):: .int b:: .int d:: .int h:: .int sp::rest}:=by
  refine At4.go x ?_
  exact fun f hd c o=>k_done_move rfl rfl (k_stack_no (n:=n+1) (by decide) (by decide) (by decide) (by decide) (by decide)) (k_mov (n:=n+1) rfl fun _=>rd2 rfl)
theorem st_push(x:At4 m a b d h sp rest)(hn:m.n+8≤100000):Steps n pre own (ins 198 [oReg rax]) m ⟨.int a:: .int b:: .int d:: .int h:: .int ((sp-8)%18446744073709551616)::rest,m.fl,wr8 m.held ((sp-8)%18446744073709551616) (a%18446744073709551616),m.n+8⟩:=by
  revert hn
  refine At4.go x ?_
  exact fun f hd c o hn=>k_done_stack rfl rfl (k_stack_push (n:=n+1) (fun _=>k_size1) (fun _=>rd0 rfl) rfl hn)
theorem st_pushM{w:Int}(x:At4 m a b d h sp rest)(hn:m.n+8≤100000):Steps n pre own (ins 198 [oMem rbx w]) m ⟨.int a:: .int b:: .int d:: .int h:: .int ((sp-8)%18446744073709551616)::rest,m.fl,wr8 m.held ((sp-8)%18446744073709551616) (rd8 m.held ((w+h%18446744073709551616)%18446744073709551616)),m.n+8⟩:=by
  revert hn
  refine At4.go x ?_
  exact fun f hd c o hn=>k_done_stack rfl rfl (k_stack_push (n:=n+1) (fun _=>k_sizeM) (fun _=>k_read_mem (by decide) (by decide) rfl o) rfl hn)
theorem st_pop0(x:At4 m a b d h sp rest):Steps n pre own (ins 199 [oReg rax]) m {m with regs:= .int (rd8 m.held sp%18446744073709551616):: .int b:: .int d:: .int h:: .int ((sp+8)%18446744073709551616)::rest}:=by
  refine At4.go x ?_
  exact fun f hd c o=>k_done_stack rfl rfl (k_stack_pop (n:=n+1) (by decide) (by decide) rfl rfl o)
theorem st_pop1(x:At4 m a b d h sp rest):Steps n pre own (ins 199 [oReg rcx]) m {m with regs:= .int a:: .int (rd8 m.held sp%18446744073709551616):: .int d:: .int h:: .int ((sp+8)%18446744073709551616)::rest}:=by
  refine At4.go x ?_
  exact fun f hd c o=>k_done_stack rfl rfl (k_stack_pop (n:=n+1) (by decide) (by decide) rfl rfl o)
theorem st_two1{q:Nat}(hq:q=43∨q=101∨q=103∨q=105∨q=245)(x:At4 m a b d h sp rest):
    ∃fl',Steps n pre own (ins q [oReg rax,oReg rcx]) m {m with fl:=fl',regs:= .int (opI q (a%18446744073709551616) (b%18446744073709551616)%18446744073709551616):: .int b:: .int d:: .int h:: .int sp::rest}:=by
  refine At4.go x ?_
  intro f hd c o
  obtain⟨fl',e⟩:=k_two (n:=n) (pre:=pre) (own:=own) (rs:= .int a:: .int b:: .int d:: .int h:: .int sp::rest) (f:=f) (hd:=hd) (c:=c) hq rfl (fun _=>rd1 rfl)
  refine⟨fl',law_step ?_ (kl_two ?_ e)⟩<;>rcases hq with rfl |rfl |rfl |rfl |rfl<;>rfl
theorem st_and1(x:At4 m a b d h sp rest):
    ∃fl',Steps n pre own (ins 103 [oReg rax,oImm 1]) m {m with fl:=fl',regs:= .int (Builtin.bitAnd (a%18446744073709551616) 1%18446744073709551616):: .int b:: .int d:: .int h:: .int sp::rest}:=by
  refine At4.go x ?_
  intro f hd c o
  obtain⟨fl',e⟩:=k_two (n:=n) (q:=103) (pre:=pre) (own:=own) (rs:= .int a:: .int b:: .int d:: .int h:: .int sp::rest) (f:=f) (hd:=hd) (c:=c) (b:=1) (.inr (.inr (.inl rfl))) rfl (fun _=>rd_i)
  exact⟨fl',law_step rfl (kl_two rfl e)⟩
theorem st_test(x:At4 m a b d h sp rest): ∃fl',(fl'.zf=if a%18446744073709551616=0 then 1 else 0)∧Steps n pre own (ins 104 [oReg rax,oReg rax]) m {m with fl:=fl'}:=by
  refine At4.go x ?_
  intro f hd c o
  obtain⟨fl',z,e⟩:=k_test (n:=n) (pre:=pre) (own:=own) (rs:= .int a:: .int b:: .int d:: .int h:: .int sp::rest) (f:=f) (hd:=hd) (c:=c) rfl
  exact⟨fl',z,law_step rfl (kl_two rfl e)⟩
theorem st_sete(x:At4 m a b d h sp rest)(t:Bool)(hz:m.fl.zf=if t then 1 else 0):Steps n pre own (ins 236 [oReg al]) m {m with regs:= .int (a-a%256+if t then 1 else 0):: .int b:: .int d:: .int h:: .int sp::rest}:=by
  revert hz
  refine At4.go x ?_
  exact fun f hd c o hz=>law_step rfl (kl_sete (k_sete (n:=n) rfl t hz))
theorem st_neg(x:At4 m a b d h sp rest): ∃fl',Steps n pre own (ins 119 [oReg rax]) m {m with fl:=fl',regs:= .int ((0-a)%18446744073709551616):: .int b:: .int d:: .int h:: .int sp::rest}:=by
  refine At4.go x ?_
  intro f hd c o
  obtain⟨fl',e⟩:=k_neg (n:=n) (pre:=pre) (own:=own) (rs:= .int a:: .int b:: .int d:: .int h:: .int sp::rest) (f:=f) (hd:=hd) (c:=c) rfl
  exact⟨fl',law_step rfl (kl_one (.inl rfl) e)⟩
theorem st_not(x:At4 m a b d h sp rest):Steps n pre own (ins 235 [oReg rax]) m {m with regs:= .int ((0-a-1)%18446744073709551616):: .int b:: .int d:: .int h:: .int sp::rest}:=by
  refine At4.go x ?_
  exact fun f hd c o=>law_step rfl (kl_one (.inr rfl) (k_not (n:=n) rfl))
theorem st_shift{q:Nat}(hq:q=152∨q=244)(x:At4 m a b d h sp rest)(hb:0≤b∧b<64): ∃fl',Steps n pre own (ins q [oReg rax,oReg cl]) m {m with fl:=fl',regs:= .int (shI q (a%18446744073709551616) b%18446744073709551616):: .int b:: .int d:: .int h:: .int sp::rest}:=by
  refine At4.go x ?_
  intro f hd c o
  obtain⟨fl',e⟩:=k_shift (n:=n) (pre:=pre) (own:=own) (rs:= .int a:: .int b:: .int d:: .int h:: .int sp::rest) (f:=f) (hd:=hd) (c:=c) hq rfl rfl hb
  refine⟨fl',law_step ?_ (kl_shift hq e)⟩
  rcases hq with rfl |rfl<;>rfl
theorem st_imul(x:At4 m a b d h sp rest): ∃fl',Steps n pre own (ins 179 [oReg rax,oReg rcx]) m {m with fl:=fl',regs:= .int (sg64 (a%18446744073709551616)*sg64 (b%18446744073709551616)%18446744073709551616):: .int b:: .int d:: .int h:: .int sp::rest}:=by
  refine At4.go x ?_
  intro f hd c o
  obtain⟨fl',e⟩:=k_imul (n:=n) (pre:=pre) (own:=own) (rs:= .int a:: .int b:: .int d:: .int h:: .int sp::rest) (f:=f) (hd:=hd) (c:=c) rfl rfl
  exact⟨fl',law_step rfl (kl_imul e)⟩
theorem st_cqo(x:At4 m a b d h sp rest):Steps n pre own (ins 243 []) m {m with regs:= .int a:: .int b:: .int (-(a%18446744073709551616/9223372036854775808%2)%18446744073709551616):: .int h:: .int sp::rest}:=by
  refine At4.go x ?_
  exact fun f hd c o=>law_step rfl (kl_cqo (k_cqo (n:=n) rfl rfl))
theorem st_idiv{N B:Int}(x:At4 m a b d h sp rest)(hN:d%18446744073709551616*18446744073709551616+a%18446744073709551616=N)(hB:b%18446744073709551616=B)(hb:B≠0)(hb':sg64 B≠0)(hf:fit (quo (sg128 N) (sg64 B))=true):
    ∃fl',Steps n pre own (ins 183 [oReg rcx]) m {m with fl:=fl',regs:= .int (quo (sg128 N) (sg64 B)%18446744073709551616):: .int b:: .int ((sg128 N-quo (sg128 N) (sg64 B)*sg64 B)%18446744073709551616):: .int h:: .int sp::rest}:=by
  refine At4.go x ?_
  exact fun f hd c o=>⟨_,law_step rfl (kl_idiv (k_idiv (n:=n) rfl rfl rfl hN hB hb hb' hf))⟩
theorem st_idiv0(x:At4 m a b d h sp rest)(hb:b%18446744073709551616=0):call TT (n+12) 32 [St9 pre,ins 183 [oReg rcx],dL] (S pre own m)= .exc 1083 (S pre own m):=by
  refine At4.go x ?_
  exact fun f hd c o=>k_done_exc rfl rfl (no_stack (n:=n+1) rfl) (no_move (n:=n+1) rfl) (kl_idivx (k_idiv0 (n:=n) rfl rfl rfl hb))
inductive Runs(n:Nat)(pre own:List Cell):List V→M→M→Prop where
  |nil (m:M):Runs n pre own [] m m
  |cons {r:V} {rs:List V} {m m' m'':M}:Steps n pre own r m m'→Runs n pre own rs m' m''→Runs n pre own (r::rs) m m''
theorem Runs.app{rs qs:List V}{m m' m'':M}(x:Runs n pre own rs m m')(y:Runs n pre own qs m' m''):Runs n pre own (rs++qs) m m'':=by
  induction x with
  |nil _=>exact y
  |cons s _ ih=>exact .cons s (ih y)
theorem Runs.one{r:V}{m m':M}(x:Steps n pre own r m m'):Runs n pre own [r] m m':= .cons x (.nil _)
noncomputable def pBody:List Sx:=match f_26.body with | [.for _ _ _ b _] =>b |_=> []
noncomputable def pfb(n:Nat):V→List (Option V)→Sg→R Out:=fun v ρ σ=>R.grd (decide (3<ρ.length)) (evalSs TT (call TT (n+12)) f_26 pBody (ρ.set 3 (some v)) σ)
theorem pf_step{r:V}{x y:Option V}{σ σ':Sg}(h:call TT (n+12) 32 [St9 pre,r,dL] σ= .ok .none σ'):pfb n r [some (St9 pre),x,some dL,y] σ= .ok (.next [some (St9 pre),x,some dL,some r]) σ':=by
  show evalSs TT (call TT (n+12)) f_26 pBody [some (St9 pre),x,some dL,some r] σ=_
  exact ss_go (.r h .nil) (by kernel_rfl)
theorem pf_exc{r:V}{x y:Option V}{c:Nat}{σ σ':Sg}(h:call TT (n+12) 32 [St9 pre,r,dL] σ= .exc c σ'):pfb n r [some (St9 pre),x,some dL,y] σ= .exc c σ':=by
  show evalSs TT (call TT (n+12)) f_26 pBody [some (St9 pre),x,some dL,some r] σ=_
  exact ss_go (.r h .nil) (by kernel_rfl)
theorem pf_loop{rs:List V}{m m':M}{x:Option V}(h:Runs n pre own rs m m'): ∀(t:List V) (y:Option V),
    ∃y',loopF (pfb n) (rs++t) [some (St9 pre),x,some dL,y] (S pre own m)=loopF (pfb n) t [some (St9 pre),x,some dL,y'] (S pre own m'):=by
  induction h with
  |nil _=>exact fun t y=>⟨y,rfl⟩
  | @cons r rs m m' m'' s _ ih=>
    intro t y
    obtain⟨y',e⟩:=ih t (some r)
    refine⟨y',.trans ?_ e⟩
    show(pfb n r _ _).bind _=_
    rw [pf_step s];rfl
theorem k_perform{rs:List V}{m m':M}(x:Runs n pre own rs m m'):call TT (n+13) 33 [St9 pre,.lst rs,dL] (S pre own m)= .ok .none (S pre own m'):=by
  obtain⟨y',e⟩:=pf_loop (x:=some (.lst rs)) x [] none
  rw [List.append_nil] at e
  exact k_go rfl (.o (x:=loopF (pfb n) rs [some (St9 pre),some (.lst rs),some dL,none] (S pre own m)) e .nil) (by kernel_rfl)
theorem k_perform_exc{rs:List V}{r:V}{t:List V}{m m':M}{c:Nat}{σ':Sg}(x:Runs n pre own rs m m')(hx:call TT (n+12) 32 [St9 pre,r,dL] (S pre own m')= .exc c σ'):call TT (n+13) 33 [St9 pre,.lst (rs++r::t),dL] (S pre own m)= .exc c σ':=by
  obtain⟨y',e⟩:=pf_loop (x:=some (.lst (rs++r::t))) x (r::t) none
  have e2:loopF (pfb n) (rs++r::t) [some (St9 pre),some (.lst (rs++r::t)),some dL,none] (S pre own m)= .exc c σ':=by
    rw [e]
    show(pfb n r _ _).bind _=_
    rw [pf_exc hx];rfl
  exact k_go rfl (.o e2 .nil) (by kernel_rfl)
end Mine
end
section
open PySem PySem.W
set_option maxRecDepth 100000
namespace Mine
noncomputable def wrk(f:Int→Option Int)(p w:Int):Nat→Int→Option Int
  |0=>f
  |k+1=>set1 (wrk f p w k) (p+k) (w/256 ^ k%256)
noncomputable def rdk(f:Int→Option Int)(p:Int):Nat→Int
  |0=>0
  |k+1=>rdk f p k+oct f (p+k)*256 ^ k
theorem wr8_k{f:Int→Option Int}{p w:Int}:wr8 f p w=wrk f p w 8:=by
  have e:wrk f p w 8=set1 (set1 (set1 (set1 (set1 (set1 (set1 (set1 f (p+0) (w/1%256)) (p+1) (w/256%256)) (p+2) (w/65536%256)) (p+3) (w/16777216%256)) (p+4) (w/4294967296%256)) (p+5) (w/1099511627776%256)) (p+6) (w/281474976710656%256)) (p+7) (w/72057594037927936%256):=rfl
  rw [e,Int.add_zero,Int.ediv_one];rfl
theorem rd8_k{f:Int→Option Int}{p:Int}:rd8 f p=rdk f p 8:=rd8_go
theorem at_W{p:Int}{k:Nat}(h0:0≤p)(h1:p<1000000)(hk:k<8):(p+k)%18446744073709551616=p+k:=Int.emod_eq_of_lt (by omega) (by omega)
theorem wrk_out{f:Int→Option Int}{p w x:Int}(h0:0≤p)(h1:p<1000000): ∀k:Nat,k≤8→x<p∨p+k≤x→wrk f p w k x=f x
  |0,_,_=>rfl
  | k+1,hk,h=>by
    show(if x=(p+k)%18446744073709551616 then _ else _)=_
    rw [at_W h0 h1 hk,if_neg (by omega)]
    exact wrk_out h0 h1 k (Nat.le_of_lt hk) (by omega)
theorem wrk_in{f:Int→Option Int}{p w:Int}(h0:0≤p)(h1:p<1000000){j:Nat}: ∀k:Nat,k≤8→j<k→wrk f p w k (p+j)=some (w/256 ^ j%256)
  |0,_,h=>absurd h (Nat.not_lt_zero _)
  | k +1,hk,h=>by
    show(if p+j=(p+k)%18446744073709551616 then _ else _)=_
    rw [at_W h0 h1 hk]
    by_cases c:j=k
    · subst c;exact if_pos rfl
    · rw [if_neg (by omega)]
      exact wrk_in h0 h1 k (Nat.le_of_lt hk) (Nat.lt_of_le_of_ne (Nat.le_of_lt_succ h) c)
theorem wr8_other{f:Int→Option Int}{p w x:Int}(h0:0≤p)(h1:p<1000000)(h:x<p∨p+8≤x):wr8 f p w x=f x:=by
  rw [wr8_k];exact wrk_out h0 h1 8 (Nat.le_refl _) h
theorem Oct.wrk{f:Int→Option Int}(h:Oct f)(p w:Int): ∀k,Oct (wrk f p w k)
  |0=>h
  |k+1=>Oct.set1 (h.wrk p w k) (Int.emod_nonneg _ (by decide)) (Int.emod_lt_of_pos _ (by decide))
theorem Oct.wr8{f:Int→Option Int}(h:Oct f)(p w:Int):Oct (wr8 f p w):=by rw [wr8_k];exact h.wrk p w 8
theorem emod_step(w B:Int)(hB:0<B):w%B+w/B%256*B=w%(B*256):=by
  have h1:=Int.emod_nonneg w (Int.ne_of_gt hB)
  have h2:=Int.emod_lt_of_pos w hB
  have e:w=w%B+w/B%256*B+B*256*(w/B/256):=by
    rw [Int.mul_assoc B,Int.add_assoc,Int.mul_comm _ B,←Int.mul_add,Int.emod_add_mul_ediv,Int.emod_add_mul_ediv]
  have h3:=Int.mul_nonneg (Int.emod_nonneg (w/B) (by decide:(256:Int)≠0)) (Int.le_of_lt hB)
  have h4:w/B%256*B≤255*B:=Int.mul_le_mul_of_nonneg_right (Int.le_of_lt_add_one (Int.emod_lt_of_pos _ (by decide))) (Int.le_of_lt hB)
  rw [show w%(B*256)=(w%B+w/B%256*B+B*256*(w/B/256))%(B*256) from congrArg (· %(B*256)) e,Int.add_mul_emod_self_left]
  clear e
  generalize w%B=x at*
  generalize w/B%256*B=y at*
  exact(Int.emod_eq_of_lt (Int.add_nonneg h1 h3) (by omega)).symm
theorem rdk_wr{f:Int→Option Int}{p w:Int}(h0:0≤p)(h1:p<1000000): ∀k:Nat,k≤8→rdk (wrk f p w 8) p k=w%256 ^ k
  |0,_=>(Int.emod_one w).symm
  | k+1,hk=>by
    show rdk _ p k+(wrk f p w 8 ((p+k)%18446744073709551616)).getD 0*256 ^ k=_
    rw [rdk_wr h0 h1 k (Nat.le_of_lt hk),at_W h0 h1 hk,wrk_in h0 h1 8 (Nat.le_refl _) hk]
    exact emod_step w (256 ^ k) (Int.pow_pos (by decide))
theorem rd8_wr8{f:Int→Option Int}{p w:Int}(h0:0≤p)(h1:p<1000000):rd8 (wr8 f p w) p=w%18446744073709551616:=by
  rw [rd8_k,wr8_k];exact rdk_wr h0 h1 8 (Nat.le_refl _)
theorem rdk_same{f f':Int→Option Int}{p:Int}: ∀k:Nat,(∀j:Nat,j<k→oct f' (p+j)=oct f (p+j))→rdk f' p k=rdk f p k
  |0,_=>rfl
  | k+1,h=>by
    show rdk f' p k+oct f' (p+k)*_=rdk f p k+oct f (p+k)*_
    rw [rdk_same k fun j hj=>h j (Nat.lt_succ_of_lt hj),h k (Nat.lt_succ_self k)]
theorem rdk_range{f:Int→Option Int}(h:Oct f)(p:Int): ∀k:Nat,0≤rdk f p k∧rdk f p k<256 ^ k
  |0=>⟨Int.le_refl 0,(Int.zero_lt_one:(0:Int)<1)⟩
  | k+1=>by
    obtain⟨i0,i1⟩:=rdk_range h p k
    obtain⟨o0,o1⟩:=h.oct (p+k)
    have hB:(0:Int)<256 ^ k:=Int.pow_pos (by decide)
    have h3:=Int.mul_nonneg o0 (Int.le_of_lt hB)
    have h4:Mine.oct f (p+k)*256 ^ k≤255*256 ^ k:=Int.mul_le_mul_of_nonneg_right (Int.le_of_lt_add_one o1) (Int.le_of_lt hB)
    show 0≤rdk f p k+Mine.oct f (p+k)*256 ^ k∧rdk f p k+Mine.oct f (p+k)*256 ^ k<256 ^ k*256
    generalize (256:Int)^ k=B at i1 h3 h4 ⊢
    generalize Mine.oct f (p+k)*B=x at h3 h4 ⊢
    clear o0 o1 hB
    omega
theorem rd8_range{f:Int→Option Int}(h:Oct f)(p:Int):0≤rd8 f p∧rd8 f p<18446744073709551616:=by rw [rd8_k];exact rdk_range h p 8
noncomputable def Keep(sp:Int)(f f':Int→Option Int):Prop:= ∀x,0≤x→x<1000000→(x<8192∨sp≤x)→f' x=f x
theorem Keep.refl(sp:Int)(f:Int→Option Int):Keep sp f f:=fun _ _ _ _=>rfl
theorem Keep.trans{sp:Int}{f g h:Int→Option Int}(x:Keep sp f g)(y:Keep sp g h):Keep sp f h:=fun a h0 h1 h2=>(y a h0 h1 h2).trans (x a h0 h1 h2)
theorem Keep.mono{sp sp':Int}{f g:Int→Option Int}(x:Keep sp' f g)(h:sp'≤sp):Keep sp f g:=fun a h0 h1 h2=>x a h0 h1 (h2.imp_right (Int.le_trans h))
theorem Keep.oct{sp:Int}{f f':Int→Option Int}(x:Keep sp f f'){a:Int}(h0:0≤a)(h1:a<1000000)(h2:a<8192∨sp≤a):Mine.oct f' a=Mine.oct f a:=by
  unfold Mine.oct
  rw [Int.emod_eq_of_lt h0 (Int.lt_trans h1 (by decide)),x a h0 h1 h2]
theorem Keep.rd8{sp:Int}{f f':Int→Option Int}(x:Keep sp f f'){a:Int}(h0:0≤a)(h1:a<900000)(h2:a+8≤8192∨sp≤a):Mine.rd8 f' a=Mine.rd8 f a:=by
  rw [rd8_k,rd8_k];exact rdk_same 8 fun j hj=>x.oct (by omega) (by omega) (by omega)
structure Sp(sp:Int):Prop where
  lo:8200≤sp
  hi:sp≤32768
theorem Sp.dn{sp:Int}(h:Sp sp):(sp-8)%18446744073709551616=sp-8:=by have:=h.lo;have:=h.hi;exact Int.emod_eq_of_lt (by omega) (by omega)
theorem Sp.up{sp:Int}(h:Sp sp):(sp-8+8)%18446744073709551616=sp:=by rw [Int.sub_add_cancel];have:=h.lo;have:=h.hi;exact Int.emod_eq_of_lt (by omega) (by omega)
theorem Sp.in{sp:Int}(h:Sp sp):0≤sp-8∧sp-8<900000:=by have:=h.lo;have:=h.hi;omega
theorem Sp.keep{sp w:Int}{f:Int→Option Int}(h:Sp sp):Keep sp f (wr8 f (sp-8) w):=fun x x0 x1 x2=>wr8_other h.in.1 (Int.lt_trans h.in.2 (by decide)) (by have:=h.lo;omega)
theorem Sp.rd{sp w:Int}{f:Int→Option Int}(h:Sp sp):rd8 (wr8 f (sp-8) (w%18446744073709551616)) (sp-8)=w%18446744073709551616:=by rw [rd8_wr8 h.in.1 (Int.lt_trans h.in.2 (by decide)),WW]
structure MEnv where
  home:Int
  k0:Int
  k1:Int
  k2:Int
  rest:List V
  h0:4096≤home
  h1:home<4160
theorem MEnv.in(e:MEnv){j:Int}(j0:0≤j)(j1:j≤16):0≤e.home+j∧e.home+j<900000∧e.home+j+8≤8192:=by have:=e.h0;have:=e.h1;omega
theorem Keep.home{e:MEnv}{q j:Int}{f f':Int→Option Int}(x:Keep q f f')(j0:0≤j)(j1:j≤16):Mine.rd8 f' (e.home+j)=Mine.rd8 f (e.home+j):=have h:=e.in j0 j1;x.rd8 h.1 h.2.1 (.inl h.2.2)
structure Pre(e:MEnv)(m:M)(sp:Int):Prop where
  regs: ∃a b d,m.regs= .int a:: .int b:: .int d:: .int e.home:: .int sp::e.rest
  oct:Oct m.held
  k0:rd8 m.held (e.home+0)=e.k0%18446744073709551616
  k1:rd8 m.held (e.home+8)=e.k1%18446744073709551616
  k2:rd8 m.held (e.home+16)=e.k2%18446744073709551616
theorem Pre.at{e:MEnv}{m:M}{sp:Int}(p:Pre e m sp): ∃a b d,At4 m a b d e.home sp e.rest:=let⟨a,b,d,h⟩:=p.regs;⟨a,b,d,h,p.oct⟩
theorem Pre.to{e:MEnv}{m m':M}{sp sp':Int}(p:Pre e m sp)(hr: ∃a b d,m'.regs= .int a:: .int b:: .int d:: .int e.home:: .int sp'::e.rest)(ho:Oct m'.held){q:Int}(hk:Keep q m.held m'.held):Pre e m' sp':=
  ⟨hr,ho,(hk.home (by decide) (by decide)).trans p.k0,(hk.home (by decide) (by decide)).trans p.k1,(hk.home (by decide) (by decide)).trans p.k2⟩
noncomputable def lo:Nat→Int |0=>8200 |d+1=>lo d+8
noncomputable def kc:Nat→Nat |0=>8 |d+1=>kc d+kc d+8
theorem lo_ge: ∀d,8200≤lo d
  |0=>Int.le_refl _
  |d+1=>Int.le_trans (lo_ge d) (Int.le_add_of_nonneg_right (by decide))
noncomputable def Comp(e:MEnv)(d:Nat)(rows:List V)(w:Int):Prop:= ∀(n:Nat) (pre own:List Cell) (sp:Int) (m:M),lo d≤sp→sp≤32768→Pre e m sp→m.n+kc d≤100000→
  ∃m',Runs n pre own rows m m'∧Pre e m' (sp-8)∧rd8 m'.held (sp-8)=w%18446744073709551616∧Keep sp m.held m'.held∧m'.n≤m.n+kc d
theorem kc_up(d:Nat):kc d≤kc (d+1):=Nat.le_trans (Nat.le_add_right _ _) (Nat.le_add_right _ _)
theorem lo_up(d:Nat):lo d≤lo (d+1):=Int.le_add_of_nonneg_right (by decide)
theorem Comp.up{e:MEnv}{d:Nat}{rows:List V}{w:Int}(x:Comp e d rows w):Comp e (d+1) rows w:=fun n pre own sp m h1 h2 h3 h4=>by
  obtain⟨m',a,b,c,k,q⟩:=x n pre own sp m (Int.le_trans (lo_up d) h1) h2 h3 (Nat.le_trans (Nat.add_le_add_left (kc_up d) _) h4)
  exact⟨m',a,b,c,k,Nat.le_trans q (Nat.add_le_add_left (kc_up d) _)⟩
theorem push_end{e:MEnv}{n:Nat}{pre own:List Cell}{m:M}{a b d sp:Int}(x:At4 m a b d e.home sp e.rest)(p:Pre e m sp)(h:Sp sp)(hn:m.n+8≤100000):
    ∃m',Steps n pre own (ins 198 [oReg rax]) m m'∧Pre e m' (sp-8)∧rd8 m'.held (sp-8)=a%18446744073709551616∧Keep sp m.held m'.held∧m'.n≤m.n+8:=by
  have s:=st_push (n:=n) (pre:=pre) (own:=own) x hn
  rw [h.dn] at s
  exact⟨_,s,p.to ⟨_,_,_,rfl⟩ (x.oct.wr8 _ _) h.keep,h.rd,h.keep,Nat.le_refl _⟩
theorem comp_num(e:MEnv)(w:Int):Comp e 0 [ins 193 [oReg rax,oImm w],ins 198 [oReg rax]] w:=fun n pre own sp m h1 h2 p hn=>by
  obtain⟨a,b,d,x⟩:=p.at
  have s:=st_movI (n:=n) (pre:=pre) (own:=own) (v:=w) x
  obtain⟨m',s',q1,q2,q3,q4⟩:=push_end (n:=n) (pre:=pre) (own:=own) (m:={m with regs:= .int (w%18446744073709551616):: .int b:: .int d:: .int e.home:: .int sp::e.rest}) ⟨rfl,p.oct⟩ (p.to ⟨_,_,_,rfl⟩ p.oct (Keep.refl 0 _)) ⟨h1,h2⟩ hn
  exact⟨m',.cons s (.cons s' (.nil _)),q1,q2.trans (WW _),q3,q4⟩
theorem comp_sym(e:MEnv)(i:Int)(w:Int)(hi:i=0∧w=e.k0∨i=8∧w=e.k1∨i=16∧w=e.k2):Comp e 0 [ins 198 [oMem rbx i]] w:=fun n pre own sp m h1 h2 p hn=>by
  obtain⟨a,b,d,x⟩:=p.at
  have s:=st_pushM (n:=n) (pre:=pre) (own:=own) (w:=i) x hn
  have h:Sp sp:=⟨h1,h2⟩
  have hv:rd8 m.held (e.home+i)=w%18446744073709551616∧0≤i∧i≤16:=by
    rcases hi with⟨rfl,rfl⟩ |⟨rfl,rfl⟩ |⟨rfl,rfl⟩
    · exact⟨p.k0,by decide,by decide⟩
    · exact⟨p.k1,by decide,by decide⟩
    · exact⟨p.k2,by decide,by decide⟩
  have hj:=e.in hv.2.1 hv.2.2
  rw [h.dn,Int.emod_eq_of_lt (Int.le_trans (by decide) e.h0) (Int.lt_trans e.h1 (by decide)),Int.add_comm i,Int.emod_eq_of_lt hj.1 (Int.lt_trans hj.2.1 (by decide)),hv.1] at s
  exact⟨_,.one s,p.to ⟨_,_,_,rfl⟩ (p.oct.wr8 _ _) h.keep,h.rd,h.keep,Nat.le_refl _⟩
noncomputable def Mid(e:MEnv)(rows:List V)(a b v:Int):Prop:= ∀(n:Nat) (pre own:List Cell) (sp d:Int) (b':Int) (m:M),At4 m a b' d e.home sp e.rest→(b=b'∨b= -1)→
  ∃m' a' b' d',Runs n pre own rows m m'∧m'.regs= .int a':: .int b':: .int d':: .int e.home:: .int sp::e.rest∧m'.held=m.held∧m'.n=m.n∧a'%18446744073709551616=v%18446744073709551616
theorem mid_end{e:MEnv}{n:Nat}{pre own:List Cell}{rows mid:List V}{a b b' d v sp:Int}{m m2:M}(p:Pre e m sp)(h:Sp sp)(hm:Mid e mid a b v)(hb:b=b'∨b= -1)
    (r:Runs n pre own rows m m2) (g:m2.regs= .int a:: .int b':: .int d:: .int e.home:: .int sp::e.rest) (o:Oct m2.held) (k:Keep sp m.held m2.held) {c:Nat} (hc:m2.n≤m.n+c) (hn:m.n+c+8≤100000):
    ∃m',Runs n pre own (rows++mid++ [ins 198 [oReg rax]]) m m'∧Pre e m' (sp-8)∧rd8 m'.held (sp-8)=v%18446744073709551616∧Keep sp m.held m'.held∧m'.n≤m.n+c+8:=by
  obtain⟨m3,a3,b3,d3,r3,g3,f3,c3,e3⟩:=hm n pre own sp d b' m2 ⟨g,o⟩ hb
  rw [←f3] at o k
  rw [←c3] at hc
  obtain⟨m4,s4,p4,v4,k4,n4⟩:=push_end (n:=n) (pre:=pre) (own:=own) ⟨g3,o⟩ (p.to ⟨_,_,_,g3⟩ o k) h (Nat.le_trans (Nat.add_le_add_right hc 8) hn)
  exact⟨m4,(r.app r3).app (.one s4),p4,v4.trans e3,k.trans k4,Nat.le_trans n4 (Nat.add_le_add_right hc 8)⟩
theorem comp_un{e:MEnv}{d:Nat}{rows mid:List V}{w v:Int}(x:Comp e d rows w)(hm:Mid e mid (w%18446744073709551616) (-1) v):Comp e (d+1) (rows++ [ins 199 [oReg rax]] ++mid++ [ins 198 [oReg rax]]) v:=fun n pre own sp m h1 h2 p hn=>by
  have hn':m.n+kc d+8≤100000:=Nat.le_trans (Nat.add_le_add_right (Nat.add_le_add_left (Nat.le_add_right _ _) _) 8) hn
  obtain⟨m1,r1,p1,v1,k1,n1⟩:=x n pre own sp m (Int.le_trans (lo_up d) h1) h2 p (Nat.le_trans (Nat.le_add_right _ _) hn')
  have h:Sp sp:=⟨Int.le_trans (lo_ge (d+1)) h1,h2⟩
  obtain⟨a,b,d',y⟩:=p1.at
  have s:=st_pop0 (n:=n) (pre:=pre) (own:=own) y
  rw [v1,WW,h.up] at s
  obtain⟨m4,r4,p4,v4,k4,n4⟩:=mid_end p h hm (.inr rfl) (r1.app (.one s)) rfl y.oct k1 n1 hn'
  exact⟨m4,r4,p4,v4,k4,Nat.le_trans n4 (Nat.add_le_add_right (Nat.add_le_add_left (Nat.le_add_right _ _) _) 8)⟩
theorem comp_bin{e:MEnv}{d:Nat}{rl rr mid:List V}{wl wr v:Int}(x:Comp e d rl wl)(y:Comp e d rr wr)(hm:Mid e mid (wl%18446744073709551616) (wr%18446744073709551616) v):
    Comp e (d+1) (rl++rr++ [ins 199 [oReg rcx],ins 199 [oReg rax]] ++mid++ [ins 198 [oReg rax]]) v:=fun n pre own sp m h1 h2 p hn=>by
  have l1:lo d≤sp-8:=Int.le_sub_right_of_add_le h1
  have hn':m.n+kc d+kc d+8≤100000:=Nat.add_assoc m.n _ _▸hn
  obtain⟨m1,r1,p1,v1,k1,n1⟩:=x n pre own sp m (Int.le_trans (lo_up d) h1) h2 p (Nat.le_trans (Nat.le_add_right _ _) (Nat.le_trans (Nat.le_add_right _ _) hn'))
  have n1':=Nat.add_le_add_right n1 (kc d)
  obtain⟨m2,r2,p2,v2,k2,n2⟩:=y n pre own (sp-8) m1 l1 (Int.le_trans (Int.sub_le_self _ (by decide)) h2) p1 (Nat.le_trans n1' (Nat.le_trans (Nat.le_add_right _ _) hn'))
  have h:Sp sp:=⟨Int.le_trans (lo_ge (d+1)) h1,h2⟩
  have h':Sp (sp-8):=⟨Int.le_trans (lo_ge d) l1,Int.le_trans (Int.sub_le_self _ (by decide)) h2⟩
  obtain⟨a,b,d',z⟩:=p2.at
  have s1:=st_pop1 (n:=n) (pre:=pre) (own:=own) z
  rw [v2,WW,h'.up] at s1
  have s2:=st_pop0 (n:=n) (pre:=pre) (own:=own) (m:={m2 with regs:= .int a:: .int (wr%18446744073709551616):: .int d':: .int e.home:: .int (sp-8)::e.rest}) ⟨rfl,z.oct⟩
  have v1':rd8 m2.held (sp-8)=wl%18446744073709551616:=(k2.rd8 h.in.1 h.in.2 (.inr (Int.le_refl _))).trans v1
  simp only [v1',WW,h.up] at s2
  obtain⟨m4,r4,p4,v4,k4,n4⟩:=mid_end p h hm (.inl rfl) ((r1.app r2).app (.cons s1 (.one s2))) rfl z.oct (k1.trans (k2.mono (Int.sub_le_self _ (by decide)))) (by rw [←Nat.add_assoc];exact Nat.le_trans n2 n1') (c:=kc d+kc d) (by rw [←Nat.add_assoc];exact hn')
  exact⟨m4,r4,p4,v4,k4,n4⟩
end Mine
namespace Mine
theorem half_step(P B b:Int)(hP:0<P)(hb:b=0∨b=1):(2*B+b)%(2*P)=2*(B%P)+b:=by
  have h1:B=P*(B/P)+B%P:=(Int.mul_ediv_add_emod B P).symm
  have h2:=Int.emod_nonneg B (show P≠0 by omega)
  have h3:=Int.emod_lt_of_pos B hP
  have:2*B+b=(2*(B%P)+b)+2*P*(B/P):=by
    have:2*B=2*(P*(B/P)+B%P):=by rw [←h1]
    rw [this,Int.mul_add,Int.mul_assoc];omega
  rw [this,Int.add_mul_emod_self_left,Int.emod_eq_of_lt (by omega) (by omega)]
theorem half_mod(x P:Int)(hP:0<P):x%(2*P)/2=x/2%P∧x%(2*P)%2=x%2:=by
  have h:x%(2*P)=2*(x/2%P)+x%2:=by
    have:=half_step P (x/2) (x%2) hP (by omega)
    rwa [show 2*(x/2)+x%2=x by omega] at this
  rw [h];constructor<;>omega
theorem band_mod(k:Nat): ∀x y:Int,Builtin.bitAnd (x%2 ^ k) (y%2 ^ k)=Builtin.bitAnd x y%2 ^ k:=by
  induction k with
  |zero=>intro x y;simp only [Int.pow_zero,Int.emod_one];rfl
  | succ k ih=>
    intro x y
    have hP:(0:Int)<2 ^ k:=Int.pow_pos (by decide)
    rw [show(2:Int)^(k+1)=2*2 ^ k by rw [Int.pow_succ];omega]
    obtain⟨x1,x2⟩:=half_mod x (2 ^ k) hP
    obtain⟨y1,y2⟩:=half_mod y (2 ^ k) hP
    rw [kbt_halves (x%(2*2 ^ k)) (y%(2*2 ^ k)),kbt_halves x y,x1,x2,y1,y2,ih,half_step _ _ _ hP (by split<;>simp)]
theorem band_W(x y:Int):Builtin.bitAnd (x%18446744073709551616) (y%18446744073709551616)=Builtin.bitAnd x y%18446744073709551616:=band_mod 64 x y
theorem sg64_mod(x:Int):sg64 x%18446744073709551616=x%18446744073709551616:=by unfold sg64;split<;>omega
theorem sg64_fit{x:Int}(h0: -9223372036854775808≤x)(h1:x<9223372036854775808):sg64 (x%18446744073709551616)=x:=by unfold sg64;split<;>omega
theorem mul_W(x y:Int):x%18446744073709551616*(y%18446744073709551616)%18446744073709551616=x*y%18446744073709551616:=(Int.mul_emod ..).symm
theorem sgmul(x y:Int):sg64 (x%18446744073709551616)*sg64 (y%18446744073709551616)%18446744073709551616=x*y%18446744073709551616:=by
  rw [Int.mul_emod,sg64_mod,sg64_mod,WW,WW,mul_W]
theorem bb{a b b':Int}(h:b%18446744073709551616=b'∨b%18446744073709551616= -1):b'=b%18446744073709551616:=by omega
variable {e:MEnv}
theorem mid_neg(w:Int):Mid e [ins 119 [oReg rax]] (w%18446744073709551616) (-1) (0-w):=fun n pre own sp d b' m x _=>by
  obtain⟨fl',s⟩:=st_neg (n:=n) (pre:=pre) (own:=own) x
  exact⟨_,_,_,_,.one s,rfl,rfl,rfl,(WW _).trans (Int.sub_emod_emod ..)⟩
theorem mid_not(w:Int):Mid e [ins 235 [oReg rax]] (w%18446744073709551616) (-1) (0-w-1):=fun n pre own sp d b' m x _=>by
  have s:=st_not (n:=n) (pre:=pre) (own:=own) x
  exact⟨_,_,_,_,.one s,rfl,rfl,rfl,by rw [WW,←Int.emod_sub_emod,Int.sub_emod_emod,Int.emod_sub_emod]⟩
theorem band_one(x:Int):Builtin.bitAnd x 1=x%2:=kbt_mask x 1
theorem bang_end(x:Int):(x-x%256+1)%18446744073709551616%2=1∧(x-x%256+0)%18446744073709551616%2=0:=by omega
theorem mid_bang(w:Int)(h0: -9223372036854775808≤w)(h1:w<9223372036854775808):Mid e [ins 104 [oReg rax,oReg rax],ins 236 [oReg al],ins 103 [oReg rax,oImm 1]] (w%18446744073709551616) (-1) (if w=0 then 1 else 0):=fun n pre own sp d b' m x _=>by
  obtain⟨f1,z,s1⟩:=st_test (n:=n) (pre:=pre) (own:=own) x
  rw [WW] at z
  by_cases c:w=0
  · subst c
    have s2:=st_sete (n:=n) (pre:=pre) (own:=own) (m:={m with fl:=f1}) ⟨x.regs,x.oct⟩ true z
    obtain⟨f3,s3⟩:=st_and1 (n:=n) (pre:=pre) (own:=own) (m:={m with fl:=f1,regs:= .int (0%18446744073709551616-0%18446744073709551616%256+1):: .int b':: .int d:: .int e.home:: .int sp::e.rest}) ⟨rfl,x.oct⟩
    exact⟨_,_,_,_,.cons s1 (.cons s2 (.one s3)),rfl,rfl,rfl,rfl⟩
  · rw [if_neg (by omega)] at z
    have s2:=st_sete (n:=n) (pre:=pre) (own:=own) (m:={m with fl:=f1}) ⟨x.regs,x.oct⟩ false z
    obtain⟨f3,s3⟩:=st_and1 (n:=n) (pre:=pre) (own:=own) (m:={m with fl:=f1,regs:= .int (w%18446744073709551616-w%18446744073709551616%256+0):: .int b':: .int d:: .int e.home:: .int sp::e.rest}) ⟨rfl,x.oct⟩
    exact⟨_,_,_,_,.cons s1 (.cons s2 (.one s3)),rfl,rfl,rfl,by rw [band_one,(bang_end _).2,if_neg c];rfl⟩
theorem opW{q:Nat}(hq:q=43∨q=101∨q=103∨q=105∨q=245)(x y:Int):opI q (x%18446744073709551616) (y%18446744073709551616)%18446744073709551616=opI q x y%18446744073709551616:=by
  rcases hq with rfl |rfl |rfl |rfl |rfl
  · exact(Int.add_emod ..).symm
  · exact(Int.sub_emod ..).symm
  · show Builtin.bitAnd _ _%_=Builtin.bitAnd _ _%_;rw [band_W,WW]
  · show Builtin.bitOr _ _%_=Builtin.bitOr _ _%_
    rw [PyProof.Rows.bitOr_and,PyProof.Rows.bitOr_and,band_W,Int.sub_emod_emod,Int.sub_emod,←Int.add_emod,←Int.sub_emod]
  · show Builtin.bitXor _ _%_=Builtin.bitXor _ _%_
    rw [PyProof.Rows.bitXor_and,PyProof.Rows.bitXor_and,band_W,Int.sub_emod,←Int.add_emod,Int.mul_emod 2,WW,←Int.mul_emod 2,←Int.sub_emod]
theorem mid_op{q:Nat}(hq:q=43∨q=101∨q=103∨q=105∨q=245)(a b:Int):Mid e [ins q [oReg rax,oReg rcx]] (a%18446744073709551616) (b%18446744073709551616) (opI q a b):=fun n pre own sp d b' m x hb=>by
  obtain rfl:=bb (a:=0) hb
  obtain⟨fl',s⟩:=st_two1 (n:=n) (pre:=pre) (own:=own) hq x
  exact⟨_,_,_,_,.one s,rfl,rfl,rfl,by rw [WW,WW,WW,opW hq]⟩
theorem mid_imul(a b:Int):Mid e [ins 179 [oReg rax,oReg rcx]] (a%18446744073709551616) (b%18446744073709551616) (a*b):=fun n pre own sp d b' m x hb=>by
  obtain rfl:=bb (a:=0) hb
  obtain⟨fl',s⟩:=st_imul (n:=n) (pre:=pre) (own:=own) x
  exact⟨_,_,_,_,.one s,rfl,rfl,rfl,by rw [WW,WW,WW,sgmul]⟩
theorem mid_shl(a b:Int)(h0:0≤b)(h1:b<64):Mid e [ins 152 [oReg rax,oReg cl]] (a%18446744073709551616) (b%18446744073709551616) (a*2 ^ b.toNat):=fun n pre own sp d b' m x hb=>by
  obtain rfl:=bb (a:=0) hb
  obtain⟨fl',s⟩:=st_shift (q:=152) (n:=n) (pre:=pre) (own:=own) (.inl rfl) x (by omega)
  refine⟨_,_,_,_,.one s,rfl,rfl,rfl,?_⟩
  rw [WW,WW,show b%18446744073709551616=b by omega]
  show a%18446744073709551616*2 ^ b.toNat%18446744073709551616=_
  rw [Int.mul_emod,WW,←Int.mul_emod]
theorem mid_sar(a b:Int)(h0:0≤b)(h1:b<64)(a0: -9223372036854775808≤a)(a1:a<9223372036854775808):Mid e [ins 244 [oReg rax,oReg cl]] (a%18446744073709551616) (b%18446744073709551616) (a/2 ^ b.toNat):=fun n pre own sp d b' m x hb=>by
  obtain rfl:=bb (a:=0) hb
  obtain⟨fl',s⟩:=st_shift (q:=244) (n:=n) (pre:=pre) (own:=own) (.inr rfl) x (by omega)
  refine⟨_,_,_,_,.one s,rfl,rfl,rfl,?_⟩
  rw [WW,WW,show b%18446744073709551616=b by omega]
  show sg64 (a%18446744073709551616)/2 ^ b.toNat%18446744073709551616=_
  rw [sg64_fit a0 a1]
theorem quo_abs{a b:Int}:(quo a b).natAbs=a.natAbs/b.natAbs:=by
  have key:((a.natAbs:Int)/(b.natAbs:Int))=((a.natAbs/b.natAbs:Nat):Int):=(Int.natCast_ediv _ _).symm
  unfold quo
  rw [key]
  split
  · rw [Int.natAbs_neg,Int.natAbs_natCast]
  · rw [Int.natAbs_natCast]
theorem fit_abs{z:Int}(h:z.natAbs<9223372036854775808):fit z=true:=by
  unfold fit;rw [decide_eq_true (by omega),decide_eq_true (by omega)];rfl
theorem quo_fit{a b:Int}(a0: -9223372036854775808≤a)(a1:a<9223372036854775808)(hb:b≠0)(hx: ¬(a= -9223372036854775808∧b= -1)):fit (quo a b)=true:=by
  by_cases c:a.natAbs<9223372036854775808
  · exact fit_abs (Nat.lt_of_le_of_lt (by rw [quo_abs];exact Nat.div_le_self ..) c)
  · obtain rfl:a= -9223372036854775808:=by omega
    by_cases c1:b.natAbs=1
    · obtain rfl:b=1:=(Int.natAbs_eq_iff.mp c1).resolve_right fun h=>hx ⟨rfl,h⟩
      rfl
    · refine fit_abs ?_
      rw [quo_abs]
      exact Nat.lt_of_le_of_lt (Nat.div_le_div_left (c:=2) (by omega) (by decide)) (by decide)
theorem sign_W{a:Int}(a0: -9223372036854775808≤a)(a1:a<9223372036854775808):sg128 (-(a%18446744073709551616/9223372036854775808%2)%18446744073709551616*18446744073709551616+a%18446744073709551616)=a:=by
  unfold sg128
  by_cases h:0≤a
  · rw [Int.emod_eq_of_lt h (Int.lt_trans a1 (by decide)),Int.ediv_eq_zero_of_lt h a1]
    have e0: -(0%2)%18446744073709551616*18446744073709551616+a=a:=Int.zero_add a
    rw [e0,Int.emod_eq_of_lt h (Int.lt_trans a1 (by decide)),if_neg (by omega)]
  · have e:a%18446744073709551616=a+18446744073709551616:=by rw [←Int.add_emod_right];exact Int.emod_eq_of_lt (by omega) (by omega)
    have e1:(a+18446744073709551616)/9223372036854775808=1:=by omega
    rw [e,e1]
    have e2: -(1%2)%18446744073709551616*18446744073709551616+(a+18446744073709551616)=18446744073709551615*18446744073709551616+(a+18446744073709551616):=rfl
    rw [e2,Int.emod_eq_of_lt (by omega) (by omega),if_pos (by omega)];omega
theorem mid_div_core(a b:Int)(a0: -9223372036854775808≤a)(a1:a<9223372036854775808)(b0: -9223372036854775808≤b)(b1:b<9223372036854775808)(hb:b≠0)(hx: ¬(a= -9223372036854775808∧b= -1))
    (n:Nat) (pre own:List Cell) (sp d:Int) (m:M) (x:At4 m (a%18446744073709551616) (b%18446744073709551616) d e.home sp e.rest):
    ∃fl' r,Runs n pre own [ins 243 [],ins 183 [oReg rcx]] m {m with fl:=fl',regs:= .int (quo a b%18446744073709551616):: .int (b%18446744073709551616):: .int ((a-quo a b*b)%18446744073709551616):: .int e.home:: .int sp::r}∧r=e.rest:=by
  have s1:=st_cqo (n:=n) (pre:=pre) (own:=own) x
  have hN:=sign_W a0 a1
  have hB:=sg64_fit b0 b1
  rw [←WW (-_),←WW a] at hN
  obtain⟨fl',s2⟩:=st_idiv (n:=n) (pre:=pre) (own:=own) (m:={m with regs:= .int (a%18446744073709551616):: .int (b%18446744073709551616):: .int (-(a%18446744073709551616%18446744073709551616/9223372036854775808%2)%18446744073709551616):: .int e.home:: .int sp::e.rest}) (a:=a%18446744073709551616) (b:=b%18446744073709551616) (d:= -(a%18446744073709551616%18446744073709551616/9223372036854775808%2)%18446744073709551616) ⟨rfl,x.oct⟩ rfl (WW b) (by intro h;rw [h] at hB;exact hb hB.symm) (by rw [hB];exact hb) (by rw [hN,hB];exact quo_fit a0 a1 hb hx)
  rw [hN,hB] at s2
  exact⟨fl',e.rest,.cons s1 (.one s2),rfl⟩
theorem mid_div(a b:Int)(a0: -9223372036854775808≤a)(a1:a<9223372036854775808)(b0: -9223372036854775808≤b)(b1:b<9223372036854775808)(hb:b≠0)(hx: ¬(a= -9223372036854775808∧b= -1)):
    Mid e [ins 243 [],ins 183 [oReg rcx]] (a%18446744073709551616) (b%18446744073709551616) (quo a b):=fun n pre own sp d b' m x hb'=>by
  obtain rfl:=bb (a:=0) hb'
  obtain⟨fl',r,s,rfl⟩:=mid_div_core (e:=e) a b a0 a1 b0 b1 hb hx n pre own sp d m x
  exact⟨_,_,_,_,s,rfl,rfl,rfl,WW _⟩
theorem mid_mod(a b:Int)(a0: -9223372036854775808≤a)(a1:a<9223372036854775808)(b0: -9223372036854775808≤b)(b1:b<9223372036854775808)(hb:b≠0)(hx: ¬(a= -9223372036854775808∧b= -1)):
    Mid e [ins 243 [],ins 183 [oReg rcx],ins 193 [oReg rax,oReg rdx]] (a%18446744073709551616) (b%18446744073709551616) (a-quo a b*b):=fun n pre own sp d b' m x hb'=>by
  obtain rfl:=bb (a:=0) hb'
  obtain⟨fl',r,s,rfl⟩:=mid_div_core (e:=e) a b a0 a1 b0 b1 hb hx n pre own sp d m x
  have s3:=st_movR (n:=n) (pre:=pre) (own:=own) (m:={m with fl:=fl',regs:= .int (quo a b%18446744073709551616):: .int (b%18446744073709551616):: .int ((a-quo a b*b)%18446744073709551616):: .int e.home:: .int sp::e.rest}) ⟨rfl,x.oct⟩
  exact⟨_,_,_,_,s.app (.one s3),rfl,rfl,rfl,by rw [WW,WW]⟩
end Mine
end
section
open PySem PySem.W
set_option maxRecDepth 100000
set_option smartUnfolding false
namespace Mine
noncomputable abbrev aff(w:Int)(p q:Nat):V:= .inst 4 [.int w,.str p,.str q]
noncomputable abbrev numN(w:Int):V:= .inst 0 [.str 53,.int w]
noncomputable abbrev symN(x:Nat):V:= .inst 1 [.str 54,.str x]
noncomputable abbrev unN(s:Nat)(b:V):V:= .inst 2 [.str 56,.str s,b]
noncomputable abbrev binN(s:Nat)(l r:V):V:= .inst 3 [.str 11,.str s,l,r]
noncomputable abbrev scC:Cell:= .dict [273] [.ref false 2]
noncomputable abbrev eqC(f s t:Int):Cell:= .sdict [87,88,308] [aff f 17 17,aff (s-f) 87 17,aff t 88 87]
noncomputable abbrev sS(f s t:Int)(c0:Cell)(rest own:List Cell):Sg:=⟨c0::scC::eqC f s t::rest,own⟩
variable {f s t:Int}{c0:Cell}{rest own:List Cell}
theorem find_a{n:Nat}:call TT (n+5) 79 [.obj 5 false 1,.str 87] (sS f s t c0 rest own)= .ok (aff (0+f) 17 17) (sS f s t c0 rest own):=rfl
theorem find_b{n:Nat}:call TT (n+5) 79 [.obj 5 false 1,.str 88] (sS f s t c0 rest own)= .ok (aff (0+(s-f)+f) 17 17) (sS f s t c0 rest own):=rfl
theorem find_c{n:Nat}:call TT (n+5) 79 [.obj 5 false 1,.str 308] (sS f s t c0 rest own)= .ok (aff (0+t+(s-f)) 17 17) (sS f s t c0 rest own):=rfl
theorem k_affine{n:Nat}{w:Int}{σ:Sg}:construct TT (call TT (n+1)) 4 [.int w] σ= .ok (aff w 17 17) σ:=rfl
theorem k_negate{n:Nat}{w:Int}{σ:Sg}:call TT (n+2) 75 [aff w 17 17] σ= .ok (aff (-w) 17 17) σ:=rfl
theorem k_add{n:Nat}{w v:Int}{σ:Sg}:call TT (n+3) 76 [aff w 17 17,aff v 17 17] σ= .ok (aff (w+v) 17 17) σ:=rfl
theorem k_isnum{n:Nat}{w:Int}{σ:Sg}:call TT (n+1) 74 [aff w 17 17] σ= .ok (.bool true) σ:=rfl
theorem k_told{n:Nat}{w:Int}{σ:Sg}:call TT (n+1) 73 [aff w 17 17] σ= .ok (.tup [.int w,.str 17,.str 17]) σ:=rfl
section
variable {n:Nat}{a b:Int}{σ:Sg}
theorem k_quoE(hb:b≠0)(sb:sm (b.natAbs:Int)=true):call TT (n+1) 9 [.int a,.int b] σ= .ok (.int (quo a b)) σ:=by
  have hbb:=beq_false_of_ne hb
  have hp:0< (b.natAbs:Int):=Int.natAbs_pos.mpr hb|>Int.ofNat_lt.mpr
  cases h:(decide (a<0) !=decide (b<0)) with
  | true=>
    have q:quo a b= -((a.natAbs:Int)/(b.natAbs:Int)):=by unfold quo;rw [h];rfl
    rw [q]
    exact k_go rfl (.n hbb<| .y h<| .v (bin_div hp sb) .nil) rfl
  | false=>
    have q:quo a b=((a.natAbs:Int)/(b.natAbs:Int)):=by unfold quo;rw [h];rfl
    rw [q]
    exact k_go rfl (.n hbb<| .n h<| .v (bin_div hp sb) .nil) rfl
theorem k_shE1(h0:0≤b)(h1:b<64)(sa:sm a=true):call TT (n+1) 10 [.str 31,.int a,.int b] σ= .ok (.int (a*2 ^ b.toNat)) σ:=by
  have c1: ¬b<0:=by omega
  have c2: ¬63<b:=by omega
  have c3:b≤100000:=by omega
  exact k_go rfl (.n (decide_eq_false c1)<| .n (decide_eq_false c2)<| .c<| .c<| .v (bin_shl h0 c3 sa) .nil) rfl
theorem k_shE2(h0:0≤b)(h1:b<64):call TT (n+1) 10 [.str 240,.int a,.int b] σ= .ok (.int (a/2 ^ b.toNat)) σ:=by
  have c1: ¬b<0:=by omega
  have c2: ¬63<b:=by omega
  exact k_go rfl (.n (decide_eq_false c1)<| .n (decide_eq_false c2)<| .c<| .c<| .v (bin_shr h0) .nil) rfl
end
noncomputable def recI:Nat→Int→Int→Int
  |34,a,b=>a*b
  |35,a,b=>quo a b
  |36,a,b=>a-quo a b*b
  |37,a,b=>Builtin.bitOr a b
  |38,a,b=>Builtin.bitAnd a b
  |39,a,b=>Builtin.bitXor a b
  |31,a,b=>a*2 ^ b.toNat
  |240,a,b=>a/2 ^ b.toNat
  |42,a,b=>a+b
  |_,a,b=>a-b
noncomputable def okS:Nat→Int→Int→Prop
  |35,a,b=>fit a=true∧fit b=true∧b≠0∧ ¬(a= -9223372036854775808∧b= -1)
  |36,a,b=>fit a=true∧fit b=true∧b≠0∧ ¬(a= -9223372036854775808∧b= -1)
  |240,a,b=>fit a=true∧0≤b∧b<64
  |31,_,b=>0≤b∧b<64
  |_,_,_=>True
noncomputable def sgnL:List Nat:= [34,35,36,31,240,37,38,39,42,44]
theorem fit_iff{a:Int}:fit a=true↔ -9223372036854775808≤a∧a<9223372036854775808:=by unfold fit;rw [Bool.and_eq_true,decide_eq_true_eq,decide_eq_true_eq]
theorem quo_small{a b:Int}(a0:fit a=true)(b0:fit b=true)(hb:b≠0)(hx: ¬(a= -9223372036854775808∧b= -1)):word (quo a b)=true:=by
  have h1:=fit_iff.mp a0
  have h2:=fit_iff.mp b0
  have:=fit_iff.mp (quo_fit h1.1 h1.2 hb hx)
  exact word_of (by omega) (by omega)
section
variable {n:Nat}{a b:Int}{σ:Sg}
theorem okS_sm(b0:fit b=true):sm (b.natAbs:Int)=true:=by have:=fit_iff.mp b0;exact sm_w (by omega) (by omega)
theorem k_reck{q:Nat}(hq:q=34∨q=35∨q=36∨q=31∨q=240∨q=37∨q=38∨q=39)(ok:okS q a b)(sa:sm a=true)(sb:sm b=true):call TT (n+2) 11 [.str q,.int a,.int b] σ= .ok (.int (recI q a b)) σ:=by
  rcases hq with rfl |rfl |rfl |rfl |rfl |rfl |rfl |rfl
  · have h:(word a||word b||(sm a&&sm b))=true:=by rw [sa,sb];exact Bool.or_true _
    exact k_go rfl (.c<| .v (bin_mul h) .nil) rfl
  · have s':=okS_sm ok.2.1
    have nz:=ok.2.2.1
    exact k_go rfl (.c<| .c<| .r (k_quoE nz s') .nil) rfl
  · have s':=okS_sm ok.2.1
    have nz:=ok.2.2.1
    have h:(word b||word (quo a b)||(sm b&&sm (quo a b)))=true:=by rw [quo_small ok.1 ok.2.1 nz ok.2.2.2,Bool.or_true];rfl
    have e:recI 36 a b=a-b*quo a b:=by rw [Int.mul_comm];rfl
    rw [e]
    exact k_go rfl (.c<| .c<| .c<| .r (k_quoE nz s')<| .v (bin_mul h) .nil) rfl
  · have c:=ok.1
    have d:=ok.2
    exact k_go rfl (.c<| .c<| .c<| .c<| .c<| .c<| .r (k_shE1 c d sa) .nil) rfl
  · have c:=ok.2.1
    have d:=ok.2.2
    exact k_go rfl (.c<| .c<| .c<| .c<| .c<| .c<| .r (k_shE2 c d) .nil) rfl
  · exact k_go rfl (.c<| .c<| .c<| .c .nil) rfl
  · exact k_go rfl (.c<| .c<| .c<| .c<| .c .nil) rfl
  · exact k_go rfl (.c<| .c<| .c<| .c<| .c<| .c .nil) rfl
theorem k_combE{q:Nat}(hq:q∈sgnL)(ok:okS q a b)(sa:sm a=true)(sb:sm b=true):call TT (n+5) 12 [.str q,aff a 17 17,aff b 17 17] σ= .ok (aff (recI q a b) 17 17) σ:=by
  by_cases h1:q=42
  · subst h1
    exact k_go rfl (.c<| .r k_add .nil) rfl
  by_cases h2:q=44
  · subst h2
    exact k_go rfl (.c<| .c<| .r k_negate<| .r k_add .nil) rfl
  have hq':q=34∨q=35∨q=36∨q=31∨q=240∨q=37∨q=38∨q=39:=by
    simp only [sgnL,List.mem_cons,List.not_mem_nil,or_false,h1,h2] at hq;exact hq
  have b1:=beq_false_of_ne h1
  have b2:=beq_false_of_ne h2
  exact k_go rfl (.n b1<| .n b2<| .r k_isnum<| .c<| .r k_isnum<| .c<| .c<| .r (k_reck hq' ok sa sb)<| .r k_affine .nil) rfl
noncomputable def turI:Nat→Int→Int
  |44,a=>0-a
  |51,a=>0-a-1
  |_,a=>if a=0 then 1 else 0
theorem k_turned{q:Nat}(hq:q=44∨q=51∨q=234):call TT (n+3) 13 [.str q,aff a 17 17] σ= .ok (aff (turI q a) 17 17) σ:=by
  rcases hq with rfl |rfl |rfl
  · rw [show turI 44 a= -a from Int.zero_sub a]
    exact k_go rfl (.c<| .r k_negate .nil) rfl
  · have e:turI 51 a= -1-a:=by show 0-a-1=_;omega
    rw [e]
    exact k_go rfl (.c<| .r k_isnum<| .c<| .c<| .r k_affine .nil) rfl
  · by_cases c:a=0
    · subst c
      exact k_go rfl (.c<| .r k_isnum<| .c<| .c<| .c<| .r k_affine .nil) rfl
    · have cb:=beq_false_of_ne c
      rw [show turI 234 a=0 from if_neg c]
      exact k_go rfl (.c<| .r k_isnum<| .c<| .c<| .n cb<| .r k_affine .nil) rfl
end
end Mine
namespace Mine
inductive LS:V→V→List V→Prop where
  |num (w:Int):LS (numN w) (numN w) []
  |sym (x:Nat):LS (symN x) (symN x) []
  |un (s:Nat) (b:V):LS (unN s b) (unN s b) []
  |bin {s:Nat} {l r i:V} {sp:List V}:LS l i sp→LS (binN s l r) i (binN s l r::sp)
noncomputable def lsT:Ex:=match f_3.body with | [_,_,.whl t _ _,_,_] =>t |_=> .int 0 0 ⟨0,0,0,0⟩
noncomputable def lsB:List Sx:=match f_3.body with | [_,_,.whl _ b _,_,_] =>b |_=> []
theorem ls_base{n:Nat}{a:Option V}{v:V}{σ:Sg}(h:v=v→LS v v []):evalE TT (call TT n) f_3 [a,some (.ref true 0),some v] lsT σ= .ok (.bool false) σ:=match v,h rfl with
  |_,.num w=>e_go .nil rfl
  |_,.sym x=>e_go .nil rfl
  |_,.un s b=>e_go .nil rfl
theorem ls_test{n:Nat}{a:Option V}{s:Nat}{l r:V}{σ:Sg}:evalE TT (call TT n) f_3 [a,some (.ref true 0),some (binN s l r)] lsT σ= .ok (.bool true) σ:=e_go .nil rfl
theorem ls_push{rw:List Cell}{acc:List V}{v:V}(h:acc.length<100000):bmV TT ⟨rw,[.list acc]⟩ .append (.ref true 0) [v] =some (.none,⟨rw,[.list (acc++ [v])]⟩):=by
  show og (decide (acc.length<lineN)&&(true||v.free)) _=_
  rw [show decide (acc.length<lineN)=true from decide_eq_true h];rfl
theorem ls_rev{rw:List Cell}{acc:List V}(h:acc.length≤100000):bmV TT ⟨rw,[.list acc]⟩ .reverse (.ref true 0) [] =some (.none,⟨rw,[.list acc.reverse]⟩):=by
  show og (true&&decide (acc.length≤lineN)) _=_
  rw [show decide (acc.length≤lineN)=true from decide_eq_true h];rfl
theorem ls_step{n:Nat}{a:Option V}{s:Nat}{l r:V}{rw:List Cell}{acc:List V}(h:acc.length<100000):
    evalSs TT (call TT n) f_3 lsB [a,some (.ref true 0),some (binN s l r)] ⟨rw,[.list acc]⟩= .ok (.next [a,some (.ref true 0),some l]) ⟨rw,[.list (acc++ [binN s l r])]⟩:=
  ss_go (.h (ls_push h) .nil) rfl
noncomputable def lsW(n:Nat):Nat→List (Option V)→Sg→R Out:=loopW (fun ρ σ=>evalE TT (call TT n) f_3 ρ lsT σ) (fun ρ σ=>evalSs TT (call TT n) f_3 lsB ρ σ)
theorem ls_loop{n:Nat}{a:Option V}{rw:List Cell}{v i:V}{sp:List V}(h:LS v i sp): ∀(k:Nat) (acc:List V),sp.length<k→acc.length+sp.length<100000→
    lsW n k [a,some (.ref true 0),some v] ⟨rw,[.list acc]⟩= .ok (.next [a,some (.ref true 0),some i]) ⟨rw,[.list (acc++sp)]⟩:=by
  have base: ∀{v:V},LS v v [] → ∀(k:Nat) (acc:List V),0<k→lsW n k [a,some (.ref true 0),some v] ⟨rw,[.list acc]⟩= .ok (.next [a,some (.ref true 0),some v]) ⟨rw,[.list (acc++ [])]⟩:=by
    intro v hv k acc hk
    obtain⟨k,rfl⟩:=Nat.exists_eq_add_one.mpr hk
    rw [List.append_nil]
    exact loopW_no (ls_base fun _=>hv)
  induction h with
  |num w=>exact fun k acc h1 h2=>base (.num w) k acc h1
  |sym x=>exact fun k acc h1 h2=>base (.sym x) k acc h1
  |un s b=>exact fun k acc h1 h2=>base (.un s b) k acc h1
  | @bin s l r i sp h ih=>
    intro k acc h1 h2
    have h1':sp.length+1<k:=h1
    have h2':acc.length+(sp.length+1)<100000:=h2
    obtain⟨k,rfl⟩:=Nat.exists_eq_add_one.mpr (Nat.lt_of_le_of_lt (Nat.zero_le _) h1)
    refine loopW_yes ls_test (ls_step (by omega)) ?_
    rw [show acc++binN s l r::sp=acc++ [binN s l r] ++sp from List.append_cons ..]
    exact ih k (acc++ [binN s l r]) (by omega) (by rw [List.length_append,List.length_singleton];omega)
theorem LS.free{v i:V}{sp:List V}(h:LS v i sp):v.free=true→i.free=true∧freeL sp=true:=by
  induction h with
  |num w=>exact fun h=>⟨h,rfl⟩
  |sym w=>exact fun h=>⟨h,rfl⟩
  |un s b=>exact fun h=>⟨h,rfl⟩
  | @bin s l r i sp h ih=>
    intro hv
    have hl:l.free=true:=(Bool.and_eq_true _ _▸(hv:(l.free&&(r.free&&true))=true)).1
    exact⟨(ih hl).1,(Bool.and_eq_true _ _).mpr ⟨hv,(ih hl).2⟩⟩
theorem freeL_append(xs ys:List V):freeL (xs++ys)=(freeL xs&&freeL ys):=by
  induction xs with
  |nil=>rfl
  |cons x xs ih=>exact(congrArg (x.free&& ·) ih).trans (Bool.and_assoc _ _ _).symm
theorem freeL_reverse(xs:List V):freeL xs.reverse=freeL xs:=by
  induction xs with
  |nil=>rfl
  |cons x xs ih=>rw [List.reverse_cons,freeL_append,ih,Bool.and_comm];exact congrArg (· &&freeL xs) (Bool.and_true _)
theorem frz1_free{own:List Cell}{v:V}(h:v.free=true):frz1 own v=some v:=by
  cases v with
  |ref o k=>cases o with |true=>cases h |false=>rfl
  |_=>first |rfl |(show og _ _=_;rw [h];rfl)
theorem ls_frz{i:V}{sp:List V}(f1:i.free=true)(f2:freeL sp=true):frz [.list sp.reverse] (.tup [i,.ref true 0])=some (.tup [i,.lst sp.reverse]):=by
  show((frz1 _ i).bind fun w=>((og (freeL sp.reverse) (.lst sp.reverse)).bind fun w'=>some [w']).map (w:: ·)).map V.tup=_
  rw [frz1_free f1,freeL_reverse,f2];rfl
theorem k_spine{n:Nat}{v i:V}{sp:List V}{σ:Sg}(h:LS v i sp)(hf:v.free=true)(hn:sp.length<20):call TT (n+1) 7 [v] σ= .ok (.tup [i,.lst sp.reverse]) σ:=by
  obtain⟨f1,f2⟩:=h.free hf
  exact k_go rfl (.y (b:=freeL [v]) ((Bool.and_true _).trans hf)<| .c<| .o (x:=lsW n 20 [some v,some (.ref true 0),some v] ⟨σ.rw,[.list []]⟩) (ls_loop h 20 [] hn (Nat.lt_trans (Nat.add_lt_add_left hn 0) (by decide)))<| .h (ls_rev (rw:=σ.rw) (Nat.le_trans (Nat.le_of_lt hn) (by decide)))<| .v (ls_frz f1 f2) .nil) (by kernel_rfl)
variable {f s t:Int}{c0:Cell}{rest own:List Cell}
noncomputable abbrev Sc:V:= .obj 5 false 1
noncomputable def evH:Sx:=(f_10.body[1]?).getD (.ret0 ⟨0,0,0,0⟩)
noncomputable def evB:List Sx:=match f_10.body with | [_,_,.for _ _ _ b _,_] =>b |_=> []
noncomputable abbrev evF(k:Nat):V→List (Option V)→Sg→R Out:=fun v ρ σ=>R.grd (decide (6<ρ.length)) (evalSs TT (call TT k) f_10 evB (ρ.set 6 (some v)) σ)
structure EvS(f s t:Int)(k:Nat)(node:V)(w:Int):Prop where
  ex: ∃i sp w0,LS node i sp∧sp.length≤k∧
    (∀n c0 rest own x0 x4,evalS TT (call TT (n+k+6)) f_10 evH [x0,some Sc,some (.str 17),some i,x4,none,none] (sS f s t c0 rest own)= .ok (.next [x0,some Sc,some (.str 17),some i,x4,some (aff w0 17 17),none]) (sS f s t c0 rest own))∧
    (∀n c0 rest own x0 x3 x4 p t',∃p',loopF (evF (n+k+6)) (sp.reverse++t') [x0,some Sc,some (.str 17),x3,x4,some (aff w0 17 17),p] (sS f s t c0 rest own)=loopF (evF (n+k+6)) t' [x0,some Sc,some (.str 17),x3,x4,some (aff w 17 17),p'] (sS f s t c0 rest own))
  free:node.free=true
theorem EvS.eval{k:Nat}{node:V}{w:Int}(x:EvS f s t k node w)(hk:k<20)(n:Nat):call TT (n+k+7) 14 [node,Sc,.str 17] (sS f s t c0 rest own)= .ok (aff w 17 17) (sS f s t c0 rest own):=by
  obtain⟨i,sp,w0,h1,h2,h3,h4⟩:=x.ex
  obtain⟨p',h5⟩:=h4 n c0 rest own (some node) (some i) (some (.lst sp.reverse)) none []
  rw [List.append_nil] at h5
  exact k_go rfl (.r (k_spine (n:=n+k+5) (σ:=sS f s t c0 rest own) h1 x.free (Nat.lt_of_le_of_lt h2 hk))<| .o (h3 n c0 rest own (some node) (some (.lst sp.reverse)))<| .o h5 .nil) (by kernel_rfl)
theorem evS_num(w:Int):EvS f s t 0 (numN w) w:=⟨⟨_,_,w,.num w,Nat.le_refl _,fun n c0 rest own x0 x4=>by
    unfold evH
    exact s_go (.c<| .r k_affine .nil) rfl,fun n c0 rest own x0 x3 x4 p t'=>⟨p,rfl⟩⟩,rfl⟩
theorem me_find:mlook TT (sS f s t c0 rest own) 55 Sc=some (79,[Sc]):=rfl
theorem evS_sym{x:Nat}{w:Int}(h: ∀n c0 rest own,call TT (n+5) 79 [Sc,.str x] (sS f s t c0 rest own)= .ok (aff w 17 17) (sS f s t c0 rest own)):EvS f s t 0 (symN x) w:=⟨⟨_,_,w,.sym x,Nat.le_refl _,fun n c0 rest own x0 x4=>by
    unfold evH
    exact s_go (.c<| .c<| .m me_find<| .r (h _ _ _ _) .nil) rfl,fun n c0 rest own x0 x3 x4 p t'=>⟨p,rfl⟩⟩,rfl⟩
theorem evS_un{k:Nat}{q:Nat}{b:V}{w:Int}(hq:q=44∨q=51∨q=234)(x:EvS f s t k b w)(hk:k<20):EvS f s t (k+1) (unN q b) (turI q w):=⟨⟨_,_,_,.un q b,Nat.zero_le _,fun n c0 rest own x0 x4=>by
    have e:call TT (n+(k+1)+6) 14 [b,Sc,.str 17] (sS f s t c0 rest own)= .ok (aff w 17 17) (sS f s t c0 rest own):=x.eval hk n
    have e3:call TT (n+(k+1)+6) 13 [.str q,aff w 17 17] (sS f s t c0 rest own)= .ok (aff (turI q w) 17 17) (sS f s t c0 rest own):=k_turned (n:=n+k+4) hq
    unfold evH
    exact s_go (.c<| .c<| .c<| .r e<| .r e3 .nil) rfl,fun n c0 rest own x0 x3 x4 p t'=>⟨p,rfl⟩⟩,(Bool.and_true _).trans x.free⟩
theorem evF_step{k:Nat}{q:Nat}{l r:V}{a b v:Int}{x0 x3 x4 p:Option V}{σ:Sg}(e:call TT k 14 [r,Sc,.str 17] σ= .ok (aff b 17 17) σ)(ec:call TT k 12 [.str q,aff a 17 17,aff b 17 17] σ= .ok (aff v 17 17) σ):
    evF k (binN q l r) [x0,some Sc,some (.str 17),x3,x4,some (aff a 17 17),p] σ= .ok (.next [x0,some Sc,some (.str 17),x3,x4,some (aff v 17 17),some (binN q l r)]) σ:=by
  show evalSs TT (call TT k) f_10 evB [x0,some Sc,some (.str 17),x3,x4,some (aff a 17 17),some (binN q l r)] σ=_
  unfold evB
  exact ss_go (.r e<| .r ec .nil) rfl
theorem evS_bin{k:Nat}{q:Nat}{l r:V}{a b:Int}(hq:q∈sgnL)(x:EvS f s t k l a)(y:EvS f s t k r b)(ok:okS q a b)(sa:sm a=true)(sb:sm b=true)(hk:k<20):EvS f s t (k+1) (binN q l r) (recI q a b):=by
  obtain⟨i,sp,w0,h1,h2,h3,h4⟩:=x.ex
  refine⟨⟨i,binN q l r::sp,w0,.bin h1,Nat.succ_le_succ h2,fun n c0 rest own x0 x4=>?_,fun n c0 rest own x0 x3 x4 p t'=>?_⟩,?_⟩
  · rw [Nat.add_comm k,←Nat.add_assoc];exact h3 (n+1) c0 rest own x0 x4
  · rw [List.reverse_cons,List.append_assoc,Nat.add_comm k,←Nat.add_assoc]
    obtain⟨p',e⟩:=h4 (n+1) c0 rest own x0 x3 x4 p (binN q l r::t')
    refine⟨some (binN q l r),.trans e ?_⟩
    show(evF _ _ _ _).bind _=_
    have ey:call TT (n+1+k+6) 14 [r,Sc,.str 17] (sS f s t c0 rest own)= .ok (aff b 17 17) (sS f s t c0 rest own):=by
      rw [Nat.add_assoc n,Nat.add_comm 1];exact y.eval hk n
    rw [evF_step ey (k_combE (n:=n+1+k+1) hq ok sa sb)];rfl
  · show (l.free&&(r.free&&true))=true
    rw [x.free,y.free];rfl
end Mine
namespace Mine
noncomputable abbrev penC(l:List Int)(spot two:Int):Cell:= .list [.lst (l.map V.int),.int spot,.int two]
noncomputable abbrev pS(l:List Int)(spot two:Int)(rest own:List Cell):Sg:=⟨penC l spot two::rest,own⟩
noncomputable abbrev Pen:V:= .ref false 0
theorem intsOf_map(l:List Int):intsOf (l.map V.int)=some l:=by
  induction l with
  |nil=>rfl
  |cons a l ih=>show(intsOf (l.map V.int)).map _=_;rw [ih];rfl
theorem len_map(l:List Int):(l.map V.int).length=l.length:=List.length_map ..
theorem free_map(l:List Int):freeL (l.map V.int)=true:=by
  induction l with
  |nil=>rfl
  |cons a l ih=>exact ih
theorem sl_ok{l:List Int}{i:Int}(h:0≤i)(hl:l.length≤100000):(decide (0≤i)&&decide ((l.map V.int).length≤lineN))=true:=by
  rw [len_map,decide_eq_true h];exact decide_eq_true hl
theorem take_map(l:List Int)(n:Nat):(l.map V.int).take n=(l.take n).map V.int:=List.map_take.symm
theorem k_pen{n:Nat}{l:List Int}{σ:Sg}(hl:l.length≤100000):call TT (n+1) 51 [.lst (l.map V.int)] σ= .ok (.ref false σ.rw.length) ⟨σ.rw++ [penC (l.take 40) 0 0],σ.own⟩:=by
  have hc:(R.opt (compI (.lst ((l.map V.int).take 40))) fun vs=> .ok (.lst vs) σ:R V)= .ok (.lst ((l.take 40).map V.int)) σ:=by
    rw [take_map]
    show R.opt (cond (decide (((l.take 40).map V.int).length≤lineN)) ((intsOf ((l.take 40).map V.int)).map _) none) _=_
    rw [intsOf_map,len_map,show decide ((l.take 40).length≤lineN)=true from decide_eq_true (Nat.le_trans (List.length_take_le' ..) hl)];rfl
  have hf:(decide (3≤lineN)&&(false||freeL [.lst ((l.take 40).map V.int),.int 0,.int 0]))=true:=by
    show(freeL ((l.take 40).map V.int)&&true)=true
    rw [free_map];rfl
  exact k_go rfl (.y (sl_ok (i:=40) (by decide) hl)<| .r hc<| .y hf .nil) (by kernel_rfl)
section
variable {n:Nat}{l:List Int}{spot two many:Int}{rest own:List Cell}
noncomputable def stD(i:Nat):Sx:=(f_45.body[i]?).getD (.ret0 ⟨0,0,0,0⟩)
theorem sP2{v:Int}:setSub (pS l spot two rest own) Pen (.int 2) (.int v)=some (pS l spot v rest own):=rfl
theorem sP1{v:Int}:setSub (pS l spot two rest own) Pen (.int 1) (.int v)=some (pS l v two rest own):=rfl
theorem sum1(l:List Int){σ:Sg}:primV TT σ 4 [.lst ((l.map V.int).take (Int.toNat 1))] =some (.int (l.take 1).sum):=by
  rw [take_map]
  show(intsOf ((l.take 1).map V.int)).map _=_
  rw [intsOf_map];rfl
theorem len_L{σ:Sg}(hl:l.length≤100000):primV TT σ 0 [.lst (l.map V.int)] =some (.int l.length):=by
  show og (decide ((l.map V.int).length≤lineN)) _=_
  rw [len_map,show decide (l.length≤lineN)=true from decide_eq_true hl];rfl
theorem kdr_a(ht:0<two)(hm:0<many)(hs:sm many=true):call TT (n+1) 52 [Pen,.int many] (pS l spot two rest own)= .ok (.int (two%many)) (pS l spot (two/many) rest own):=by
  exact k_go rfl (.c<| .y (decide_eq_true ht)<| .c<| .v (bin_mod hm)<| .c<| .v (bin_div hm hs)<| .g sP2 .nil) rfl
theorem w22{i:Int}:binV .Mult (.int 22111) (.int i)=some (.int (22111*i)):=bin_mul rfl
theorem p10:binV .Pow (.int 10) (.int 18)=some (.int 1000000000000000000):=rfl
theorem kdr_1(hl:l.length≤40){sp c0:Int}(hsp:0≤spot): ∃c,evalS TT (call TT n) f_45 (stD 4) [some Pen,some (.int many),none,some (.int spot),some (.int c0),none,none] (pS l sp two rest own)= .ok (.next [some Pen,some (.int many),none,some (.int spot),some (.int c),none,none]) (pS l sp two rest own):=by
  unfold stD
  by_cases he:l= []
  · subst he
    refine⟨c0,?_⟩
    exact s_go (.c<| .c<| .c .nil) rfl
  · have hp:=List.length_pos_iff.mpr he
    have hne:(!(l.map V.int).isEmpty)=true:=by cases l with |nil=>exact absurd rfl he |cons _ _=>rfl
    have h0:0< (l.length:Int):=Int.ofNat_lt.mpr hp
    have i0:=Int.emod_nonneg spot (Int.ne_of_gt h0)
    have i1:=Int.emod_lt_of_pos spot h0
    have hl':l.length≤100000:=Nat.le_trans hl (by decide)
    have i2:spot%(l.length:Int)<100000:=Int.lt_of_lt_of_le i1 (Int.ofNat_le.mpr hl')
    have i3:(spot%(l.length:Int)).toNat<l.length:=(Int.toNat_lt i0).mpr i1
    have hx:subV TT (pS l sp two rest own) (.lst (l.map V.int)) (.int (spot%(l.length:Int)))=some (.int l[(spot%(l.length:Int)).toNat]):=by
      show cond (decide _&&decide (_< (lineN:Int))) (List.map V.int l)[(spot%(l.length:Int)).toNat]? none=_
      rw [decide_eq_true i0,show decide (spot%(l.length:Int)< (lineN:Int))=true from decide_eq_true i2,List.getElem?_map,List.getElem?_eq_getElem i3];rfl
    refine⟨l[(spot%(l.length:Int)).toNat],?_⟩
    exact s_go (.c<| .c<| .y hne<| .c<| .c<| .v (len_L hl')<| .v (bin_mod h0)<| .v hx .nil) rfl
theorem kin_pow{i j:Int}(h0:0≤j)(h1:j≤1000)(h:sm i=true):binV .Pow (.int i) (.int j)=some (.int (i ^ j.toNat)):=by
  show(og _ _).map V.int=_
  rw [decide_eq_true h0,decide_eq_true h1,h];rfl
theorem dr_b1{c s:Int}(h0:0≤s)(h1:s<1000000):sm (c%2147483587+22111*s+3391)=true:=sm_w (by omega) (by omega)
theorem dr_b2{x s:Int}(h0:0≤s)(h1:s<1000000):sm (x%2147483629*(2*s+9001)+22111*s*s+53)=true:=by
  have m0:0≤x%2147483629:=Int.emod_nonneg _ (by decide)
  have m1:x%2147483629<2147483629:=Int.emod_lt_of_pos _ (by decide)
  have s0:0≤2*s+9001:=by omega
  have s1:2*s+9001≤2009001:=by omega
  have n1:x%2147483629*(2*s+9001)≤2147483629*2009001:=Int.mul_le_mul (Int.le_of_lt m1) s1 s0 (by decide)
  have n2:=Int.mul_nonneg m0 s0
  have n3:22111*s*s≤22111000000*1000000:=Int.mul_le_mul (by omega) (Int.le_of_lt h1) h0 (by decide)
  have n4:=Int.mul_nonneg (Int.mul_nonneg (by decide:(0:Int)≤22111) h0) h0
  generalize x%2147483629*(2*s+9001)=u at n1 n2
  generalize 22111*s*s=v at n3 n4
  clear m0 m1 s0 s1 h0 h1
  exact sm_w (by omega) (by omega)
theorem dr_w1{x j:Int}:binV .Mult (.int (x%2147483629)) (.int j)=some (.int (x%2147483629*j)):=bin_mul (by
  rw [word_of (Int.lt_of_lt_of_le (by decide) (Int.emod_nonneg x (by decide))) (Int.lt_trans (Int.emod_lt_of_pos x (by decide:(0:Int)<2147483629)) (by decide))];rfl)
theorem dr_w2{i s:Int}(h0:0≤s)(h1:s<1000000):binV .Mult (.int i) (.int s)=some (.int (i*s)):=bin_mul (by
  rw [word_of (Int.lt_of_lt_of_le (by decide) h0) (Int.lt_trans h1 (by decide)),Bool.or_true];rfl)
theorem dr_2{i:Int}:binV .Mult (.int 2) (.int i)=some (.int (2*i)):=bin_mul rfl
theorem k_draw {n:Nat} (hl:l.length≤40) (hm:0<many) (hs:sm many=true) (hsp:0≤spot) (hsp':spot<1000000):
    ∃d spot' two',0≤d∧d<many∧spot≤spot'∧spot'≤spot+1∧call TT (n+1) 52 [Pen,.int many] (pS l spot two rest own)= .ok (.int d) (pS l spot' two' rest own):=by
  by_cases ht:0<two
  · exact⟨two%many,spot,two/many,Int.emod_nonneg _ (Int.ne_of_gt hm),Int.emod_lt_of_pos _ hm,Int.le_refl _,Int.le_add_of_nonneg_right (by decide),kdr_a ht hm hs⟩
  obtain⟨c,hc⟩:=kdr_1 (n:=n) (l:=l) (spot:=spot) (two:=two) (many:=many) (rest:=rest) (own:=own) (sp:=spot+1) (c0:=22111*spot+3391+(l.take 1).sum%1000003) hl hsp
  have hl':l.length≤100000:=Nat.le_trans hl (by decide)
  have hk:=sl_ok (l:=l) (i:=1) (by decide) hl'
  have fin: ∀g two',call TT (n+1) 52 [Pen,.int many] (pS l spot two rest own)= .ok (.int (g%many)) (pS l (spot+1) two' rest own)→ ∃d spot' two',0≤d∧d<many∧spot≤spot'∧spot'≤spot+1∧call TT (n+1) 52 [Pen,.int many] (pS l spot two rest own)= .ok (.int d) (pS l spot' two' rest own):=
    fun g two' e=>⟨g%many,spot+1,two',Int.emod_nonneg _ (Int.ne_of_gt hm),Int.emod_lt_of_pos _ hm,Int.le_add_of_nonneg_right (by decide),Int.le_refl _,e⟩
  by_cases h:spot< (l.length:Int)∧1000000000000000000≤(c.natAbs:Int)
  · exact fin _ _ (k_go rfl (.c<| .n (decide_eq_false ht)<| .c<| .g sP1<| .v w22<| .c<| .y hk<| .v (sum1 l)<| .v (bin_mod (by decide))<| .o hc<| .c<| .v (len_L hl')<| .y (decide_eq_true h.1)<| .v p10<| .y (decide_eq_true h.2)<| .c<| .v p10<| .v dr_2<| .v (bin_div hm hs)<| .g sP2<| .v (bin_mod hm) .nil) rfl)
  · have h5:evalS TT (call TT n) f_45 (stD 5) [some Pen,some (.int many),none,some (.int spot),some (.int c),none,none] (pS l (spot+1) two rest own)= .ok (.next [some Pen,some (.int many),none,some (.int spot),some (.int c),none,none]) (pS l (spot+1) two rest own):=by
      by_cases h1:spot< (l.length:Int)
      · have h2: ¬1000000000000000000≤(c.natAbs:Int):=fun e=>h ⟨h1,e⟩
        exact s_go (.c<| .v (len_L hl')<| .y (decide_eq_true h1)<| .v p10<| .n (decide_eq_false h2)<| .c .nil) rfl
      · exact s_go (.c<| .v (len_L hl')<| .n (decide_eq_false h1)<| .c .nil) rfl
    exact fin _ _ (k_go rfl (.c<| .n (decide_eq_false ht)<| .c<| .g sP1<| .v w22<| .c<| .y hk<| .v (sum1 l)<| .v (bin_mod (by decide))<| .o hc<| .o h5<| .v (bin_mod (by decide))<| .v (dr_w2 (i:=22111) hsp hsp')<| .v (kin_pow (by decide) (by decide) (dr_b1 hsp hsp'))<| .v (bin_mod (by decide))<| .v dr_2<| .v dr_w1<| .v (dr_w2 (i:=22111) hsp hsp')<| .v (dr_w2 hsp hsp')<| .v (kin_pow (by decide) (by decide) (dr_b2 hsp hsp'))<| .v (bin_mod (by decide))<| .v (bin_div (by decide) (by rfl))<| .v (bin_mod hm) .nil) rfl)
end
end Mine
namespace Mine
section
variable {n:Nat}{σ:Sg}
theorem k_pop0:call TT (n+8) 56 [.str 199,.lst [oReg rax]] σ= .ok (ins 199 [oReg rax]) σ:=rfl
theorem k_reg0:call TT (n+8) 55 [.int 0] σ= .ok (oReg rax) σ:=rfl
theorem k_reg1:call TT (n+8) 55 [.int 1] σ= .ok (oReg rcx) σ:=rfl
theorem k_reg2:call TT (n+8) 55 [.int 2] σ= .ok (oReg rdx) σ:=rfl
theorem k_do0{q:Nat}:call TT (n+3) 56 [.str q,.lst []] σ= .ok (ins q []) σ:=rfl
theorem k_do1{q:Nat}:call TT (n+3) 56 [.str q,.lst [oReg rax]] σ= .ok (ins q [oReg rax]) σ:=rfl
theorem k_do1c{q:Nat}:call TT (n+3) 56 [.str q,.lst [oReg rcx]] σ= .ok (ins q [oReg rcx]) σ:=rfl
theorem k_do1a{q:Nat}:call TT (n+3) 56 [.str q,.lst [oReg al]] σ= .ok (ins q [oReg al]) σ:=rfl
theorem k_do2{q:Nat}:call TT (n+3) 56 [.str q,.lst [oReg rax,oReg rax]] σ= .ok (ins q [oReg rax,oReg rax]) σ:=rfl
theorem k_do2c{q:Nat}:call TT (n+3) 56 [.str q,.lst [oReg rax,oReg rcx]] σ= .ok (ins q [oReg rax,oReg rcx]) σ:=rfl
theorem k_do2i{q:Nat}{w:Int}:call TT (n+3) 56 [.str q,.lst [oReg rax,oImm w]] σ= .ok (ins q [oReg rax,oImm w]) σ:=rfl
theorem k_cReg:construct TT (call TT (n+3)) 11 [al] σ= .ok (oReg al) σ:=rfl
theorem k_cImm{w:Int}:construct TT (call TT (n+3)) 12 [.int w] σ= .ok (oImm w) σ:=rfl
theorem k_number{w:Int}:call TT (n+9) 58 [.int w] σ= .ok (.tup [numN w,.int w,.lst [ins 193 [oReg rax,oImm w],ins 198 [oReg rax]]]) σ:=by kernel_rfl
theorem p63:binV .Pow (.int 2) (.int 63)=some (.int 9223372036854775808):=rfl
theorem k_fitsL{w:Int}:call TT (n+1) 57 [.int w] σ= .ok (.bool (fit w)) σ:=by
  unfold fit
  by_cases c: -9223372036854775808≤w
  · rw [decide_eq_true c]
    exact k_go rfl (.v p63<| .y (decide_eq_true c)<| .v p63 .nil) rfl
  · rw [decide_eq_false c]
    exact k_go rfl (.v p63<| .n (decide_eq_false c) .nil) rfl
noncomputable def midR:Nat→List V
  |35=> [ins 243 [],ins 183 [oReg rcx]]
  |36=> [ins 243 [],ins 183 [oReg rcx],ins 193 [oReg rax,oReg rdx]]
  |31=> [ins 152 [oReg rax,oReg cl]]
  |240=> [ins 244 [oReg rax,oReg cl]]
  |34=> [ins 179 [oReg rax,oReg rcx]]
  |42=> [ins 43 [oReg rax,oReg rcx]]
  |37=> [ins 105 [oReg rax,oReg rcx]]
  |38=> [ins 103 [oReg rax,oReg rcx]]
  |39=> [ins 245 [oReg rax,oReg rcx]]
  |_=> [ins 101 [oReg rax,oReg rcx]]
@[elab_as_elim] theorem sgn_cases {P:Nat→Prop} {q:Nat} (h:q∈sgnL) (h34:P 34) (h35:P 35) (h36:P 36) (h31:P 31) (h240:P 240) (h37:P 37) (h38:P 38) (h39:P 39) (h42:P 42) (h44:P 44):P q:=by
  simp only [sgnL,List.mem_cons,List.not_mem_nil,or_false] at h
  rcases h with rfl |rfl |rfl |rfl |rfl |rfl |rfl |rfl |rfl |rfl<;>assumption
theorem k_rows{q:Nat}(hq:q∈sgnL):call TT (n+10) 63 [.str q] σ= .ok (.lst (midR q)) σ:=by
  refine sgn_cases hq ?_ ?_ ?_ ?_ ?_ ?_ ?_ ?_ ?_ ?_<;>kernel_rfl
noncomputable def sgnI(q:Nat)(a b:Int):Nat:=
  cond ([35,36].contains q) (cond (fit a&&(fit b&&(b !=0&& !(a== -9223372036854775808&&b== -1)))) q 42)
    (cond (q==240) (cond (decide (0≤b)&&decide (b<64)&&fit a) q 39) (cond (q==31&& !(decide (0≤b)&&decide (b<64))) 37 q))
theorem cond_mem{c:Bool}{x y:Nat}(hx:x∈sgnL)(hy:y∈sgnL):cond c x y∈sgnL:=match c with |true=>hx |false=>hy
theorem sgnI_mem{q:Nat}{a b:Int}(h:q∈sgnL):sgnI q a b∈sgnL:=cond_mem (cond_mem h (by decide)) (cond_mem (cond_mem h (by decide)) (cond_mem (by decide) h))
theorem okS_cond{c:Bool}{x y:Nat}{a b:Int}(hx:c=true→okS x a b)(hy:c=false→okS y a b):okS (cond c x y) a b:=match c with |true=>hx rfl |false=>hy rfl
theorem div_ok{a b:Int}(c:(fit a&&(fit b&&(b !=0&& !(a== -9223372036854775808&&b== -1))))=true):fit a=true∧fit b=true∧b≠0∧ ¬(a= -9223372036854775808∧b= -1):=by
  simp only [Bool.and_eq_true,bne_iff_ne,Bool.not_eq_true',Bool.and_eq_false_iff,beq_eq_false_iff_ne] at c
  exact⟨c.1,c.2.1,c.2.2.1,fun x=>c.2.2.2.elim (· x.1) (· x.2)⟩
theorem sgnI_ok{q:Nat}{a b:Int}(h:q∈sgnL):okS (sgnI q a b) a b:=by
  refine sgn_cases h trivial (okS_cond (x:=35) (y:=42) div_ok fun _=>trivial) (okS_cond (x:=36) (y:=42) div_ok fun _=>trivial) ?_ ?_ trivial trivial trivial trivial trivial
  · refine okS_cond (c:=!(decide (0≤b)&&decide (b<64))) (x:=37) (y:=31) (fun _=>trivial) fun c=>?_
    rw [Bool.not_eq_false',Bool.and_eq_true,decide_eq_true_eq,decide_eq_true_eq] at c;exact c
  · refine okS_cond (c:=decide (0≤b)&&decide (b<64)&&fit a) (x:=240) (y:=39) (fun c=>?_) fun _=>trivial
    rw [Bool.and_eq_true,Bool.and_eq_true,decide_eq_true_eq,decide_eq_true_eq] at c;exact⟨c.2,c.1⟩
theorem k_sign {q:Nat} {a b:Int}:call TT (n+2) 61 [.str q,.int a,.int b] σ= .ok (.str (sgnI q a b)) σ:=by
  unfold sgnI
  cases h1: [35,36].contains q with
  | true=>
    cases fa:fit a with
    |false=>exact k_go rfl (.y h1<| .r k_fitsL<| .n fa<| .c .nil) rfl
    |true=>
    cases fb:fit b with
    |false=>exact k_go rfl (.y h1<| .r k_fitsL<| .y fa<| .r k_fitsL<| .n fb<| .c .nil) rfl
    |true=>
    cases hb:(b !=0) with
    |false=>exact k_go rfl (.y h1<| .r k_fitsL<| .y fa<| .r k_fitsL<| .y fb<| .n hb<| .c .nil) rfl
    |true=>
    cases ha:(a== -9223372036854775808) with
    |false=>exact k_go rfl (.y h1<| .r k_fitsL<| .y fa<| .r k_fitsL<| .y fb<| .y hb<| .v p63<| .n ha<| .c<| .c .nil) rfl
    |true=>
    cases hc:(b== -1) with
    |false=>exact k_go rfl (.y h1<| .r k_fitsL<| .y fa<| .r k_fitsL<| .y fb<| .y hb<| .v p63<| .y ha<| .n hc<| .c<| .c .nil) rfl
    |true=>exact k_go rfl (.y h1<| .r k_fitsL<| .y fa<| .r k_fitsL<| .y fb<| .y hb<| .v p63<| .y ha<| .y hc<| .c<| .c .nil) rfl
  | false=>
    cases h2:(q==240) with
    | true=>
      cases b0:decide (0≤b) with
      |false=>exact k_go rfl (.n h1<| .y h2<| .n b0<| .c<| .c .nil) rfl
      |true=>
      cases b1:decide (b<64) with
      |false=>exact k_go rfl (.n h1<| .y h2<| .y b0<| .n b1<| .c .nil) rfl
      |true=>
      cases fa:fit a with
      |false=>exact k_go rfl (.n h1<| .y h2<| .y b0<| .y b1<| .r k_fitsL<| .n fa<| .c .nil) rfl
      |true=>exact k_go rfl (.n h1<| .y h2<| .y b0<| .y b1<| .r k_fitsL<| .y fa<| .c .nil) rfl
    | false=>
      cases h3:(q==31) with
      |false=>exact k_go rfl (.n h1<| .n h2<| .n h3<| .c .nil) rfl
      |true=>
      cases b0:decide (0≤b) with
      |false=>exact k_go rfl (.n h1<| .n h2<| .y h3<| .n b0<| .c<| .c .nil) rfl
      |true=>
      cases b1:decide (b<64) with
      | false=>
        have nb:(!decide (b<64))=true:=by rw [b1];rfl
        exact k_go rfl (.n h1<| .n h2<| .y h3<| .y b0<| .y nb<| .c .nil) rfl
      | true=>
        have nb:(!decide (b<64))=false:=by rw [b1];rfl
        exact k_go rfl (.n h1<| .n h2<| .y h3<| .y b0<| .n nb<| .c .nil) rfl
theorem pow_small{b:Int}(h:b<64):(2:Int)^ b.toNat<18446744073709551616:=Int.pow_lt_pow_of_lt (a:=2) (c:=64) (by decide) (by omega)
theorem k_due{q:Nat}{a b:Int}(hq:q∈sgnL)(ok:okS q a b)(sa:sm a=true)(sb:sm b=true):call TT (n+1) 62 [.str q,.int a,.int b] σ= .ok (.int (recI q a b)) σ:=by
  have di:b≠0→sm (b.natAbs:Int)=true→binV .FloorDiv (.int a.natAbs) (.int b.natAbs)=some (.int ((a.natAbs:Int)/(b.natAbs:Int))):=fun nz s'=>bin_div (Int.ofNat_lt.mpr (Int.natAbs_pos.mpr nz)) s'
  have p2:0≤b→b<64→binV .Pow (.int 2) (.int b)=some (.int (2 ^ b.toNat)):=fun h0 h1=>kin_pow h0 (Int.le_trans (Int.le_of_lt h1) (by decide)) rfl
  have p:(0:Int)<2 ^ b.toNat:=Int.pow_pos (by decide)
  revert ok
  refine sgn_cases hq ?_ ?_ ?_ ?_ ?_ ?_ ?_ ?_ ?_ ?_<;>intro ok
  · have h:(word a||word b||(sm a&&sm b))=true:=by rw [sa,sb];exact Bool.or_true _
    exact k_go rfl (.c<| .c<| .c<| .c<| .v (bin_mul h) .nil) rfl
  · have d:=di ok.2.2.1 (okS_sm ok.2.1)
    show _=R.ok (V.int (quo a b)) σ
    unfold quo
    cases c:(decide (a<0) !=decide (b<0)) with
    |false=>exact k_go rfl (.c<| .v d<| .n c<| .c .nil) rfl
    |true=>exact k_go rfl (.c<| .v d<| .y c<| .c .nil) rfl
  · have d:=di ok.2.2.1 (okS_sm ok.2.1)
    have wq:=quo_small ok.1 ok.2.1 ok.2.2.1 ok.2.2.2
    have mu:binV .Mult (.int (quo a b)) (.int b)=some (.int (quo a b*b)):=bin_mul (by rw [wq];rfl)
    show _=R.ok (V.int (a-quo a b*b)) σ
    unfold quo at mu ⊢
    cases c:(decide (a<0) !=decide (b<0)) with
    |false=>rw [c] at mu;exact k_go rfl (.c<| .v d<| .n c<| .c<| .v mu .nil) rfl
    |true=>rw [c] at mu;exact k_go rfl (.c<| .v d<| .y c<| .c<| .v mu .nil) rfl
  · have d:=p2 ok.1 ok.2
    have mu:binV .Mult (.int a) (.int (2 ^ b.toNat))=some (.int (a*2 ^ b.toNat)):=bin_mul (by rw [word_of (Int.lt_trans (by decide) p) (pow_small ok.2),Bool.or_true];rfl)
    exact k_go rfl (.c<| .c<| .c<| .v d<| .v mu .nil) rfl
  · have d:=p2 ok.2.1 ok.2.2
    have mu:binV .FloorDiv (.int a) (.int (2 ^ b.toNat))=some (.int (a/2 ^ b.toNat)):=bin_div p (sm_w (Int.lt_trans (by decide) p) (pow_small ok.2.2))
    exact k_go rfl (.c<| .c<| .c<| .v d<| .v mu .nil) rfl
  · show _=R.ok (V.int (Builtin.bitOr a b)) σ
    rw [PyProof.Rows.bitOr_and]
    exact k_go rfl (.c<| .c<| .c<| .c<| .c .nil) rfl
  · exact k_go rfl (.c<| .c<| .c<| .c .nil) rfl
  · show _=R.ok (V.int (Builtin.bitXor a b)) σ
    rw [PyProof.Rows.bitXor_and]
    exact k_go rfl (.c<| .c<| .c<| .c<| .c<| .v dr_2 .nil) rfl
  · exact k_go rfl (.c<| .c<| .c<| .c<| .c .nil) rfl
  · exact k_go rfl (.c<| .c<| .c<| .c<| .c .nil) rfl
end
end Mine
namespace Mine
section
variable {n:Nat}{σ:Sg}
theorem k_cUn{q:Nat}{b:V}(hf:b.free=true):construct TT (call TT (n+1)) 2 [.str q,b] σ= .ok (unN q b) σ:=by
  have e:call TT (n+1) 70 [.obj 2 true 0,.str q,b] ⟨σ.rw,[.dict [] []]⟩= .ok .none ⟨σ.rw,[.dict [10,32,57] [.str 56,.str q,b]]⟩:=rfl
  have f1:freeL [.str q,b] =true:=(Bool.and_true _).trans hf
  have f2:freeL [.str 56,.str q,b] =true:=f1
  show R.grd (freeL [.str q,b]) (R.only (call TT (n+1) 70 [.obj 2 true 0,.str q,b] _) _)=_
  rw [f1,e]
  show R.grd (decide ([10,32,57] =c_Unary.names)&&freeL [.str 56,.str q,b]) _=_
  rw [f2];rfl
theorem k_cBin{q:Nat}{l r:V}(hl:l.free=true)(hr:r.free=true):construct TT (call TT (n+1)) 3 [.str q,l,r] σ= .ok (binN q l r) σ:=by
  have e:call TT (n+1) 71 [.obj 3 true 0,.str q,l,r] ⟨σ.rw,[.dict [] []]⟩= .ok .none ⟨σ.rw,[.dict [10,32,12,48] [.str 11,.str q,l,r]]⟩:=rfl
  have f1:freeL [.str q,l,r] =true:=by show(l.free&&(r.free&&true))=true;rw [hl,hr];rfl
  have f2:freeL [.str 11,.str q,l,r] =true:=f1
  show R.grd (freeL [.str q,l,r]) (R.only (call TT (n+1) 71 [.obj 3 true 0,.str q,l,r] _) _)=_
  rw [f1,e]
  show R.grd (decide ([10,32,12,48] =c_Binary.names)&&freeL [.str 11,.str q,l,r]) _=_
  rw [f2];rfl
noncomputable def unI(q:Nat)(w:Int):Nat:=cond (q==234&& !fit w) 51 q
noncomputable def midU:Nat→List V
  |44=> [ins 119 [oReg rax]]
  |51=> [ins 235 [oReg rax]]
  |_=> [ins 104 [oReg rax,oReg rax],ins 236 [oReg al],ins 103 [oReg rax,oImm 1]]
theorem lenA{a b:List V}{k j:Nat}(h:a.length≤k)(hb:b.length≤j):(a++b).length≤k+j:=by rw [List.length_append];exact Nat.add_le_add h hb
theorem addL{a b:List V}{k j:Nat}(ha:a.length≤k)(hb:b.length≤j)(hk:k+j≤100000):binV .Add (.lst a) (.lst b)=some (.lst (a++b)):=by
  show og (true&&decide (a.length+b.length≤lineN)) _=_
  rw [show decide (a.length+b.length≤lineN)=true from decide_eq_true (Nat.le_trans (Nat.add_le_add ha hb) hk)];rfl
theorem addC{a:List V}{k:Nat}(b:List V)(ha:a.length≤k)(hk:k+b.length≤100000):binV .Add (.lst a) (.lst b)=some (.lst (a++b)):=addL ha (Nat.le_refl _) hk
theorem k_ahead {q:Nat} {node:V} {w:Int} {rows:List V} (hq:q=44∨q=51∨q=234) (hf:node.free=true) (hl:rows.length≤1000):
    call TT (n+9) 60 [.str q,.tup [node,.int w,.lst rows]] σ= .ok (.tup [unN (unI q w) node,.int (turI (unI q w) w),.lst (rows++ [ins 199 [oReg rax]] ++midU (unI q w)++ [ins 198 [oReg rax]])]) σ:=by
  have r1: ∀x,(rows++ [x]).length≤1000+1:=fun x=>lenA hl (Nat.le_refl 1)
  have r2: ∀x y,(rows++ [x] ++ [y]).length≤1000+1+1:=fun x y=>lenA (r1 x) (Nat.le_refl 1)
  rcases hq with rfl |rfl |rfl
  · exact k_go rfl (.c<| .c<| .r k_reg0<| .r k_do1<| .v (addC _ hl (by decide))<| .c<| .r k_reg0<| .r k_do1<| .v (addC _ (r1 _) (by decide))<| .r (k_cUn hf)<| .r k_reg0<| .r k_do1<| .v (addC _ (r2 _ _) (by decide)) .nil) rfl
  · exact k_go rfl (.c<| .c<| .r k_reg0<| .r k_do1<| .v (addC _ hl (by decide))<| .c<| .c<| .r k_reg0<| .r k_do1<| .v (addC _ (r1 _) (by decide))<| .r (k_cUn hf)<| .r k_reg0<| .r k_do1<| .v (addC _ (r2 _ _) (by decide)) .nil) rfl
  · unfold unI
    cases fw:fit w
    · have nf:(!fit w)=true:=by rw [fw];rfl
      exact k_go rfl (.c<| .r k_fitsL<| .y nf<| .c<| .r k_reg0<| .r k_do1<| .v (addC _ hl (by decide))<| .c<| .c<| .r k_reg0<| .r k_do1<| .v (addC _ (r1 _) (by decide))<| .r (k_cUn hf)<| .r k_reg0<| .r k_do1<| .v (addC _ (r2 _ _) (by decide)) .nil) rfl
    · have nf:(!fit w)=false:=by rw [fw];rfl
      have r3: ∀x y z,(rows++ [x] ++ [y,z]).length≤1000+1+2:=fun x y z=>lenA (r1 x) (Nat.le_refl 2)
      have r4: ∀x y z u,(rows++ [x] ++ [y,z] ++ [u]).length≤1000+1+2+1:=fun x y z u=>lenA (r3 x y z) (Nat.le_refl 1)
      have e:rows++ [ins 199 [oReg rax]] ++midU 234++ [ins 198 [oReg rax]] =rows++ [ins 199 [oReg rax]] ++ [ins 104 [oReg rax,oReg rax],ins 236 [oReg al]] ++ [ins 103 [oReg rax,oImm 1]] ++ [ins 198 [oReg rax]] :=by
        rw [List.append_assoc (rows++_) [_,_]];rfl
      have e':turI 234 w=if(w==0)=true then 1 else 0:=by
        show(if w=0 then _ else _)=_
        by_cases h:w=0
        · subst h;rfl
        · rw [if_neg h,if_neg (by rw [beq_false_of_ne h];decide)]
      show _=R.ok (V.tup [unN 234 node,.int (turI 234 w),.lst (rows++ [ins 199 [oReg rax]] ++midU 234++ [ins 198 [oReg rax]])]) σ
      rw [e,e']
      exact k_go rfl (.c<| .r k_fitsL<| .n nf<| .c<| .r k_reg0<| .r k_do1<| .v (addC _ hl (by decide))<| .c<| .c<| .r k_reg0<| .r k_reg0<| .r k_do2<| .r k_gprA<| .r k_cReg<| .r k_do1a<| .v (addC _ (r1 _) (by decide))<| .r k_reg0<| .r k_cImm<| .r k_do2i<| .v (addC _ (r3 _ _ _) (by decide))<| .r (k_cUn hf)<| .r k_reg0<| .r k_do1<| .v (addC _ (r4 _ _ _ _) (by decide)) .nil) rfl
theorem midR_len{q:Nat}(h:q∈sgnL):(midR q).length≤3:=sgn_cases (P:=fun q=>(midR q).length≤3) h (by decide) (by decide) (by decide) (by decide) (by decide) (by decide) (by decide) (by decide) (by decide) (by decide)
theorem k_between{q:Nat}{nl nr:V}{a b:Int}{ra rb:List V}(hq:q∈sgnL)(fl:nl.free=true)(fr:nr.free=true)(hl:ra.length≤1000)(hr:rb.length≤1000)(sa:sm a=true)(sb:sm b=true):
    call TT (n+11) 64 [.str q,.tup [nl,.int a,.lst ra],.tup [nr,.int b,.lst rb]] σ= .ok (.tup [binN (sgnI q a b) nl nr,.int (recI (sgnI q a b) a b),.lst (ra++rb++ [ins 199 [oReg rcx],ins 199 [oReg rax]] ++midR (sgnI q a b)++ [ins 198 [oReg rax]])]) σ:=by
  have hq':=sgnI_mem (a:=a) (b:=b) hq
  have ok:=sgnI_ok (a:=a) (b:=b) hq
  have r1:=lenA hl hr
  have r2: ∀x y,(ra++rb++ [x,y]).length≤1000+1000+2:=fun x y=>lenA r1 (Nat.le_refl 2)
  have ml:=midR_len hq'
  have r3: ∀x y,(ra++rb++ [x,y] ++midR (sgnI q a b)).length≤1000+1000+2+3:=fun x y=>lenA (r2 x y) ml
  exact k_go rfl (.r k_sign<| .v (addL hl hr (by decide))<| .r k_reg1<| .r k_do1c<| .r k_reg0<| .r k_do1<| .v (addC _ r1 (by decide))<| .r (k_rows hq')<| .v (addL (r2 _ _) ml (by decide))<| .r k_reg0<| .r k_do1<| .v (addC _ (r3 _ _) (by decide))<| .r (k_cBin fl fr)<| .r (k_due hq' ok sa sb) .nil) rfl
end
end Mine
end
section
open PySem PySem.W
set_option maxRecDepth 100000
namespace Mine
noncomputable def bnd:Nat→Nat |0=>67 |d+1=>2*bnd d+64
noncomputable def rlen:Nat→Nat |0=>2 |d+1=>rlen d+rlen d+2+3+1
theorem toNat_le(a:Int):a.toNat≤a.natAbs:=by omega
theorem bn_le{a:Int}(h: ¬0≤a):(Builtin.bitNot a).toNat<a.natAbs:=by unfold Builtin.bitNot;omega
theorem bn_abs(z:Nat):(Builtin.bitNot z).natAbs=z+1:=by unfold Builtin.bitNot;omega
theorem sub_and{x:Int}{z:Nat}(h:0≤x):(x-((x.toNat&&& z:Nat):Int)).natAbs≤x.natAbs:=by
  have:=Nat.and_le_left (n:=x.toNat) (m:=z)
  generalize x.toNat&&& z=y at this
  omega
theorem band_bound{a b:Int}{k:Nat}(ha:a.natAbs<2 ^ k)(hb:b.natAbs<2 ^ k):(Builtin.bitAnd a b).natAbs≤2 ^ k:=by
  by_cases h1:0≤a<;>by_cases h2:0≤b
  · rw [PyProof.Rows.bitAnd_pp h1 h2,Int.natAbs_natCast]
    exact Nat.le_trans Nat.and_le_left (Nat.le_trans (toNat_le a) (Nat.le_of_lt ha))
  · rw [PyProof.Rows.bitAnd_pn h1 h2];exact Nat.le_trans (sub_and h1) (Nat.le_of_lt ha)
  · rw [PyProof.Rows.bitAnd_np h1 h2];exact Nat.le_trans (sub_and h2) (Nat.le_of_lt hb)
  · rw [PyProof.Rows.bitAnd_nn h1 h2,bn_abs]
    exact Nat.or_lt_two_pow (Nat.lt_trans (bn_le h1) ha) (Nat.lt_trans (bn_le h2) hb)
theorem pp_of{P x:Nat}(hP:0<P)(h:x≤P*9223372036854775808):x<P*P*18446744073709551616:=by
  have h1:P*1≤P*P:=Nat.mul_le_mul_left _ hP
  generalize P*P=Q at h1 ⊢
  omega
theorem le4{P x:Nat}(h:x≤P+P+(P+P)):x≤P*9223372036854775808:=by omega
theorem sub4{P:Nat}{x y:Int}(hx:x.natAbs≤P+P)(hy:y.natAbs≤P+P):(x-y).natAbs≤P*9223372036854775808:=le4 (Nat.le_trans (Int.natAbs_sub_le ..) (Nat.add_le_add hx hy))
theorem le2{P x:Nat}(h:x≤P):x≤P+P:=Nat.le_trans h (Nat.le_add_right ..)
theorem add2{P:Nat}{x y:Int}(hx:x.natAbs≤P)(hy:y.natAbs≤P):(x+y).natAbs≤P+P:=Nat.le_trans (Int.natAbs_add_le ..) (Nat.add_le_add hx hy)
theorem bnd_eq(d:Nat):2 ^ bnd (d+1)=2 ^ bnd d*2 ^ bnd d*18446744073709551616:=by
  show 2 ^(2*bnd d+64)=_
  rw [Nat.pow_add,Nat.two_mul,Nat.pow_add]
theorem quo_le{a b:Int}:(quo a b).natAbs≤a.natAbs:=by rw [quo_abs];exact Nat.div_le_self ..
theorem recI_bound{q d:Nat}{a b:Int}(hq:q∈sgnL)(ha:a.natAbs<2 ^ bnd d)(hb:b.natAbs<2 ^ bnd d):okS q a b→(recI q a b).natAbs<2 ^ bnd (d+1):=by
  rw [bnd_eq]
  have hP:0<2 ^ bnd d:=Nat.pow_pos (by decide)
  have an:=band_bound ha hb
  generalize 2 ^ bnd d=P at ha hb hP an ⊢
  have ha':=Nat.le_of_lt ha
  have hb':=Nat.le_of_lt hb
  refine sgn_cases hq (fun _=>?_) (fun _=>?_) (fun _=>?_) (fun ok=>?_) (fun _=>?_) (fun _=>?_) (fun _=>?_) (fun _=>?_) (fun _=>?_) (fun _=>?_)
  · show (a*b).natAbs<_
    rw [Int.natAbs_mul]
    exact Nat.lt_of_lt_of_le (Nat.mul_lt_mul'' ha hb) (Nat.le_mul_of_pos_right _ (by decide))
  · exact pp_of hP (le4 (le2 (le2 (Nat.le_trans quo_le ha'))))
  · refine pp_of hP (sub4 (le2 ha') (le2 (Nat.le_trans ?_ ha')))
    rw [Int.natAbs_mul,quo_abs];exact Nat.div_mul_le_self ..
  · refine pp_of hP ?_
    show(a*2 ^ b.toNat).natAbs≤_
    rw [Int.natAbs_mul,Int.natAbs_pow]
    exact Nat.mul_le_mul ha' (Nat.pow_le_pow_right (j:=63) (by decide) (by have:=ok.1;have:=ok.2;omega))
  · exact pp_of hP (le4 (le2 (le2 (Nat.le_trans (Int.natAbs_ediv_le_natAbs ..) ha'))))
  · show (Builtin.bitOr a b).natAbs<_
    rw [PyProof.Rows.bitOr_and];exact pp_of hP (sub4 (add2 ha' hb') (le2 an))
  · exact pp_of hP (le4 (le2 (le2 an)))
  · show (Builtin.bitXor a b).natAbs<_
    rw [PyProof.Rows.bitXor_and,Int.two_mul];exact pp_of hP (sub4 (add2 ha' hb') (add2 an an))
  · exact pp_of hP (le4 (le2 (add2 ha' hb')))
  · exact pp_of hP (sub4 (le2 ha') (le2 hb'))
theorem mid_sign{e:MEnv}{q:Nat}{a b:Int}(hq:q∈sgnL):okS q a b→Mid e (midR q) (a%18446744073709551616) (b%18446744073709551616) (recI q a b):=
  sgn_cases hq (fun _=>mid_imul a b)
    (fun ok=>mid_div a b (fit_iff.mp ok.1).1 (fit_iff.mp ok.1).2 (fit_iff.mp ok.2.1).1 (fit_iff.mp ok.2.1).2 ok.2.2.1 ok.2.2.2)
    (fun ok=>mid_mod a b (fit_iff.mp ok.1).1 (fit_iff.mp ok.1).2 (fit_iff.mp ok.2.1).1 (fit_iff.mp ok.2.1).2 ok.2.2.1 ok.2.2.2)
    (fun ok=>mid_shl a b ok.1 ok.2)
    (fun ok=>mid_sar a b ok.2.1 ok.2.2 (fit_iff.mp ok.1).1 (fit_iff.mp ok.1).2)
    (fun _=>mid_op (q:=105) (by decide) a b) (fun _=>mid_op (q:=103) (by decide) a b) (fun _=>mid_op (q:=245) (by decide) a b) (fun _=>mid_op (q:=43) (by decide) a b) (fun _=>mid_op (q:=101) (by decide) a b)
structure Good(e:MEnv)(f s t:Int)(d:Nat)(node:V)(w:Int)(rows:List V):Prop where
  ev:EvS f s t d node w
  co:Comp e d rows w
  bd:w.natAbs<2 ^ bnd d
  ln:rows.length≤rlen d
theorem EvS.up{f s t:Int}{k:Nat}{node:V}{w:Int}(x:EvS f s t k node w):EvS f s t (k+1) node w:=by
  obtain⟨⟨i,sp,w0,h1,h2,h3,h4⟩,hf⟩:=x
  refine⟨⟨i,sp,w0,h1,Nat.le_succ_of_le h2,fun n=>?_,fun n=>?_⟩,hf⟩
  · rw [Nat.add_comm k,←Nat.add_assoc];exact h3 (n+1)
  · rw [Nat.add_comm k,←Nat.add_assoc];exact h4 (n+1)
theorem bnd_up(d:Nat):2 ^ bnd d≤2 ^ bnd (d+1):=Nat.pow_le_pow_right (by decide) (Nat.le_trans (Nat.le_mul_of_pos_left _ (by decide)) (Nat.le_add_right _ 64))
theorem rlen_up{d x:Nat}(h:x≤5):rlen d+x≤rlen (d+1):=by show _≤rlen d+rlen d+2+3+1;omega
theorem Good.up{e:MEnv}{f s t:Int}{d:Nat}{node:V}{w:Int}{rows:List V}(x:Good e f s t d node w rows):Good e f s t (d+1) node w rows:=
  ⟨x.ev.up,x.co.up,Nat.lt_of_lt_of_le x.bd (bnd_up d),Nat.le_trans x.ln (rlen_up (Nat.zero_le _))⟩
theorem Good.ups{e:MEnv}{f s t:Int}{node:V}{w:Int}{rows:List V}(x:Good e f s t 0 node w rows): ∀d,Good e f s t d node w rows
  |0=>x
  |d+1=>(x.ups d).up
theorem d_cases{P:Nat→Prop}(h0:P 0)(h1:P 1)(h2:P 2)(h3:P 3): ∀d,d≤3→P d
  |0,_=>h0 |1,_=>h1 |2,_=>h2 |3,_=>h3 |_+4,h=>absurd h (by omega)
theorem bnd_le: ∀d,d≤3→bnd d≤4000:=d_cases (by decide) (by decide) (by decide) (by decide)
theorem rlen_le': ∀d,d≤3→rlen d≤1000:=d_cases (by decide) (by decide) (by decide) (by decide)
theorem rlen_le{d:Nat}(hd:d≤3):rlen d≤1000:=rlen_le' d hd
theorem Good.sm{e:MEnv}{f s t:Int}{d:Nat}{node:V}{w:Int}{rows:List V}(x:Good e f s t d node w rows)(hd:d≤3):sm w=true:=sm_of x.bd (bnd_le d hd)
theorem good_num{e:MEnv}{f s t w:Int}(hw:w.natAbs<2 ^ 67):Good e f s t 0 (numN w) w [ins 193 [oReg rax,oImm w],ins 198 [oReg rax]] :=⟨evS_num w,comp_num e w,hw,Nat.le_refl _⟩
theorem unI_ok{q:Nat}{w:Int}(hq:q=44∨q=51∨q=234):unI q w=44∨unI q w=51∨(unI q w=234∧fit w=true):=by
  rcases hq with rfl |rfl |rfl
  · exact .inl rfl
  · exact .inr (.inl rfl)
  · unfold unI
    cases fit w with
    |true=>exact .inr (.inr ⟨rfl,rfl⟩)
    |false=>exact .inr (.inl rfl)
theorem turI_abs{q:Nat}{w:Int}(ok:q=44∨q=51∨(q=234∧fit w=true)):(turI q w).natAbs≤w.natAbs+1:=by
  rcases ok with rfl |rfl |⟨rfl,-⟩
  · show(0-w).natAbs≤_;omega
  · show(0-w-1).natAbs≤_;omega
  · show (if w=0 then(1:Int) else 0).natAbs≤_
    split
    · exact Nat.le_add_left ..
    · exact Nat.zero_le _
theorem midU_len(q:Nat):(midU q).length≤3:=by unfold midU;split<;>decide
theorem good_un{e:MEnv}{f s t:Int}{d:Nat}{q:Nat}{node:V}{w:Int}{rows:List V}(hd:d≤2)(hq:q=44∨q=51∨q=234)(x:Good e f s t d node w rows):
    Good e f s t (d+1) (unN (unI q w) node) (turI (unI q w) w) (rows++ [ins 199 [oReg rax]] ++midU (unI q w)++ [ins 198 [oReg rax]]):=by
  have ok:=unI_ok (w:=w) hq
  generalize unI q w=p at ok
  have hm:Mid e (midU p) (w%18446744073709551616) (-1) (turI p w):=by
    rcases ok with rfl |rfl |⟨rfl,fw⟩
    · exact mid_neg w
    · exact mid_not w
    · exact mid_bang w (fit_iff.mp fw).1 (fit_iff.mp fw).2
  refine⟨evS_un (ok.imp_right (·.imp_right (·.1))) x.ev (Nat.lt_of_le_of_lt hd (by decide)),comp_un x.co hm,?_,Nat.le_trans (lenA (lenA (lenA x.ln (Nat.le_refl 1)) (midU_len p)) (Nat.le_refl 1)) (rlen_up (d:=d) (x:=1+3+1) (Nat.le_refl 5))⟩
  have h:=x.bd
  rw [bnd_eq]
  generalize 2 ^ bnd d=P at h ⊢
  have hP:=Nat.lt_of_le_of_lt (Nat.zero_le _) h
  exact pp_of hP (le4 (le2 (le2 (Nat.le_trans (turI_abs ok) h))))
theorem good_bin{e:MEnv}{f s t:Int}{d:Nat}{q:Nat}{nl nr:V}{a b:Int}{ra rb:List V}(hd:d≤2)(hq:q∈sgnL)(x:Good e f s t d nl a ra)(y:Good e f s t d nr b rb):
    Good e f s t (d+1) (binN (sgnI q a b) nl nr) (recI (sgnI q a b) a b) (ra++rb++ [ins 199 [oReg rcx],ins 199 [oReg rax]] ++midR (sgnI q a b)++ [ins 198 [oReg rax]]):=by
  have h1:=sgnI_mem (a:=a) (b:=b) hq
  have h2:=sgnI_ok (a:=a) (b:=b) hq
  have h3:=Nat.le_trans hd (by decide:2≤3)
  exact⟨evS_bin h1 x.ev y.ev h2 (x.sm h3) (y.sm h3) (Nat.lt_of_le_of_lt hd (by decide)),comp_bin x.co y.co (mid_sign h1 h2),recI_bound h1 x.bd y.bd h2,lenA (lenA (lenA (lenA x.ln y.ln) (Nat.le_refl 2)) (midR_len h1)) (Nat.le_refl 1)⟩
end Mine
end
section
open PySem PySem.W
set_option maxRecDepth 100000
set_option smartUnfolding false
namespace Mine
noncomputable def Rm(c:Nat)(s:Int):Prop:=0≤s∧s+c<900000
noncomputable def Adv(c:Nat)(s t:Int):Prop:=s≤t∧t≤s+c
section
variable {a b:Nat}{s t u:Int}
theorem Adv.trans(x:Adv a s t)(y:Adv b t u):Adv (a+b) s u:=by unfold Adv at *;omega
theorem Adv.mono(x:Adv a s t)(h:a≤b):Adv b s t:=⟨x.1,Int.le_trans x.2 (Int.add_le_add_left (Int.ofNat_le.mpr h) s)⟩
theorem Rm.mono(x:Rm b s)(h:a≤b):Rm a s:=⟨x.1,Int.lt_of_le_of_lt (Int.add_le_add_left (Int.ofNat_le.mpr h) s) x.2⟩
theorem Rm.fst(x:Rm (a+b) s):Rm a s:=x.mono (Nat.le_add_right ..)
theorem Rm.go(x:Rm (a+b) s)(y:Adv a s t):Rm b t:=by unfold Rm Adv at *;omega
theorem Rm.lt(x:Rm a s):s<1000000:=by unfold Rm at x;omega
end
section
variable {l:List Int}{spot:Int}{P:Prop}
theorem k_drawI(n:Nat)(two:Int)(rest own:List Cell)(hl:l.length≤40)(many:Int)(hm:0<many)(hs:sm many=true)(rm:Rm 1 spot)
    (k: ∀d spot' two',0≤d→d<many→Adv 1 spot spot'→call TT (n+1) 52 [Pen,.int many] (pS l spot two rest own)= .ok (.int d) (pS l spot' two' rest own)→P):P:=by
  obtain⟨d,spot',two',d0,d1,s0,s1,e⟩:=k_draw (n:=n) (l:=l) (two:=two) (rest:=rest) (own:=own) hl hm hs rm.1 rm.lt
  exact k d spot' two' d0 d1 ⟨s0,s1⟩ e
theorem k_pick(n:Nat)(two:Int)(rest own:List Cell)(hl:l.length≤40)(xs:List Nat)(hx:0<xs.length)(hx':xs.length≤100)(rm:Rm 1 spot)
    (k: ∀x spot' two',x∈xs→Adv 1 spot spot'→call TT (n+2) 53 [Pen,.lst (xs.map V.str)] (pS l spot two rest own)= .ok (.str x) (pS l spot' two' rest own)→P):P:=by
  have b:(xs.length:Int)≤100:=Int.ofNat_le.mpr hx'
  refine k_drawI n two rest own hl xs.length (Int.ofNat_lt.mpr hx) (sm_w (Int.lt_of_lt_of_le (by decide) (Int.natCast_nonneg _)) (Int.lt_of_le_of_lt b (by decide))) rm fun d spot' two' d0 d1 a e=>?_
  have dl:d.toNat<xs.length:=(Int.toNat_lt d0).mpr d1
  refine k (xs[d.toNat]) spot' two' (List.getElem_mem _) a ?_
  have hlen:primV TT (pS l spot two rest own) 0 [.lst (xs.map V.str)] =some (.int xs.length):=by
    show og (decide ((xs.map V.str).length≤lineN)) (V.int ((xs.map V.str).length:Nat))=_
    rw [List.length_map,show decide (xs.length≤lineN)=true from decide_eq_true (Nat.le_trans hx' (by decide))];rfl
  have hget:subV TT (pS l spot' two' rest own) (.lst (xs.map V.str)) (.int d)=some (.str (xs[d.toNat])):=by
    show cond (decide _&&decide (d< (lineN:Int))) (List.map V.str xs)[d.toNat]? none=_
    rw [decide_eq_true d0,show decide (d< (lineN:Int))=true from decide_eq_true (Int.lt_trans (Int.lt_of_lt_of_le d1 b) (by decide)),List.getElem?_map,List.getElem?_eq_getElem dl];rfl
  exact k_go rfl (.v hlen<| .r e<| .v hget .nil) rfl
theorem p64:binV .Pow (.int 2) (.int 64)=some (.int 18446744073709551616):=rfl
theorem sm_W:sm 18446744073709551616=true:=sm_of (k:=65) (by decide) (by decide)
theorem worth_1{g:Int}(h0:0≤g)(h1:g<20):(g-10).natAbs≤18446744073709551616:=by omega
theorem worth_2{g:Int}(h0:0≤g)(h1:g<18446744073709551616):g.natAbs≤18446744073709551616:=by omega
theorem k_worth(n:Nat)(two:Int)(rest own:List Cell)(hl:l.length≤40)(rm:Rm (1+1) spot)
    (k: ∀w spot' two',w.natAbs≤18446744073709551616→Adv (1+1) spot spot'→call TT (n+2) 54 [Pen] (pS l spot two rest own)= .ok (.int w) (pS l spot' two' rest own)→P):P:=by
  refine k_drawI n two rest own hl 3 (by decide) rfl rm.fst fun d sp1 tw1 d0 d1 a e=>?_
  by_cases c0:d=0
  · subst c0
    refine k_drawI n tw1 rest own hl 20 (by decide) rfl (rm.go a) fun g sp2 tw2 g0 g1 b e2=>k (g-10) sp2 tw2 (worth_1 g0 g1) (a.trans b) ?_
    exact k_go rfl (.r e<| .c<| .r e2 .nil) rfl
  have c0':(d==0)=false:=beq_false_of_ne c0
  by_cases c1:d=1
  · subst c1
    refine k_drawI n tw1 rest own hl 18446744073709551616 (by decide) sm_W (rm.go a) fun g sp2 tw2 g0 g1 b e2=>k g sp2 tw2 (worth_2 g0 g1) (a.trans b) ?_
    exact k_go rfl (.r e<| .c<| .c<| .v p64<| .r e2 .nil) rfl
  · have c1':(d==1)=false:=beq_false_of_ne c1
    refine k_drawI n tw1 rest own hl 9223372036854775808 (by decide) (sm_w (by decide) (by decide)) (rm.go a) fun g sp2 tw2 g0 g1 b e2=>k (-g) sp2 tw2 (by rw [Int.natAbs_neg];exact worth_2 g0 (Int.lt_trans g1 (by decide))) (a.trans b) ?_
    exact k_go rfl (.r e<| .n c0'<| .n c1'<| .v p63<| .r e2 .nil) rfl
end
structure Known(f s t:Int)(e:MEnv):Prop where
  k0:e.k0=f
  k1:e.k1=s
  k2:e.k2=t+s-f
  f:f.natAbs≤18446744073709551616
  s:s.natAbs≤18446744073709551616
  t:t.natAbs≤18446744073709551616
noncomputable abbrev knV(f s t:Int):V:= .lst [.int f,.int s,.int (t+s-f)]
theorem bnd_0:2 ^ bnd 0=147573952589676412928:=by decide
theorem bnd_n{x:Nat}(h:x≤18446744073709551616):x<2 ^ bnd 0:=by rw [bnd_0];exact Nat.lt_of_le_of_lt h (by decide)
theorem bnd_k{f s t:Int}(h1:f.natAbs≤18446744073709551616)(h2:s.natAbs≤18446744073709551616)(h3:t.natAbs≤18446744073709551616):(t+s-f).natAbs<2 ^ bnd 0:=by rw [bnd_0];omega
section
variable {e:MEnv}{f s t:Int}{l:List Int}{spot:Int}{P:Prop}
theorem good_a(kn:Known f s t e):Good e f s t 0 (symN 87) f [ins 198 [oMem rbx 0]] :=
  ⟨evS_sym fun n c0 rest own=>by rw [find_a,Int.zero_add],comp_sym e 0 f (.inl ⟨rfl,kn.k0.symm⟩),bnd_n kn.f,Nat.le_succ 1⟩
theorem good_b(kn:Known f s t e):Good e f s t 0 (symN 88) s [ins 198 [oMem rbx 8]] :=
  ⟨evS_sym fun n c0 rest own=>by rw [find_b,Int.zero_add,Int.sub_add_cancel],comp_sym e 8 s (.inr (.inl ⟨rfl,kn.k1.symm⟩)),bnd_n kn.s,Nat.le_succ 1⟩
theorem good_c(kn:Known f s t e):Good e f s t 0 (symN 308) (t+s-f) [ins 198 [oMem rbx 16]] :=
  ⟨evS_sym fun n c0 rest own=>by rw [find_c,Int.zero_add,Int.add_sub_assoc],comp_sym e 16 _ (.inr (.inr ⟨rfl,kn.k2.symm⟩)),bnd_k kn.f kn.s kn.t,Nat.le_succ 1⟩
theorem k_cSym{n:Nat}{x:Nat}{σ:Sg}:construct TT (call TT (n+3)) 1 [.str x] σ= .ok (symN x) σ:=rfl
theorem k_cMem{n:Nat}{w:Int}{σ:Sg}:construct TT (call TT (n+3)) 13 [rbx,.none,.int 1,.int w,.int 64] σ= .ok (oMem rbx w) σ:=rfl
theorem k_do1m{n q:Nat}{w:Int}{σ:Sg}:call TT (n+3) 56 [.str q,.lst [oMem rbx w]] σ= .ok (ins q [oMem rbx w]) σ:=rfl
theorem three{g:Int}(h0:0≤g)(h1:g<3):g=0∨g=1∨g=2:=by omega
theorem good_n{e:MEnv}{g:Int}(h0:0≤g)(h1:g<18446744073709551616):Good e f s t 0 (numN g) g [ins 193 [oReg rax,oImm g],ins 198 [oReg rax]] :=good_num (bnd_n (worth_2 h0 h1))
theorem k_leaf(n:Nat)(two:Int)(rest own:List Cell)(kn:Known f s t e)(hl:l.length≤40)(rm:Rm (1+1) spot)
    (k: ∀node w rows spot' two',Good e f s t 0 node w rows→Adv (1+1) spot spot'→call TT (n+10) 59 [Pen,knV f s t] (pS l spot two rest own)= .ok (.tup [node,.int w,.lst rows]) (pS l spot' two' rest own)→P):P:=by
  refine k_drawI (n+8) two rest own hl 3 (by decide) rfl rm.fst fun d sp1 tw1 d0 d1 a e1=>?_
  by_cases c0:d=0
  · subst c0
    refine k_drawI (n+8) tw1 rest own hl 12 (by decide) rfl (rm.go a) fun g sp2 tw2 g0 g1 b e2=>k _ g _ sp2 tw2 (good_n g0 (Int.lt_trans g1 (by decide))) (a.trans b) ?_
    exact k_go rfl (.r e1<| .c<| .r e2<| .r k_number .nil) rfl
  have c0':(d==0)=false:=beq_false_of_ne c0
  by_cases c1:d=1
  · subst c1
    refine k_drawI (n+8) tw1 rest own hl 18446744073709551616 (by decide) sm_W (rm.go a) fun g sp2 tw2 g0 g1 b e2=>k _ g _ sp2 tw2 (good_n g0 g1) (a.trans b) ?_
    exact k_go rfl (.r e1<| .c<| .c<| .v p64<| .r e2<| .r k_number .nil) rfl
  have c1':(d==1)=false:=beq_false_of_ne c1
  refine k_drawI (n+8) tw1 rest own hl 3 (by decide) rfl (rm.go a) fun g sp2 tw2 g0 g1 b e2=>?_
  rcases three g0 g1 with rfl |rfl |rfl
  · refine k _ _ _ sp2 tw2 (good_a kn) (a.trans b) ?_
    exact k_go rfl (.r e1<| .n c0'<| .n c1'<| .r e2<| .c<| .r k_cSym<| .c<| .r k_gpr3<| .v (bin_mul8 (k:=0) (by rfl))<| .r k_cMem<| .r k_do1m .nil) rfl
  · refine k _ _ _ sp2 tw2 (good_b kn) (a.trans b) ?_
    exact k_go rfl (.r e1<| .n c0'<| .n c1'<| .r e2<| .c<| .r k_cSym<| .c<| .r k_gpr3<| .v (bin_mul8 (k:=8) (by rfl))<| .r k_cMem<| .r k_do1m .nil) rfl
  · refine k _ _ _ sp2 tw2 (good_c kn) (a.trans b) ?_
    exact k_go rfl (.r e1<| .n c0'<| .n c1'<| .r e2<| .c<| .r k_cSym<| .c<| .r k_gpr3<| .v (bin_mul8 (k:=16) (by rfl))<| .r k_cMem<| .r k_do1m .nil) rfl
noncomputable def cst:Nat→Nat |0=>1+1 |d+1=>1+(1+(cst d+cst d))
theorem cst_1: ∀d,1≤cst d |0=>by decide |d+1=>Nat.le_add_right ..
theorem cst_2(d:Nat):1+1≤1+(cst d+cst d):=Nat.add_le_add_left (Nat.le_trans (cst_1 d) (Nat.le_add_right ..)) 1
theorem k_tree (rest own:List Cell) (kn:Known f s t e) (hl:l.length≤40) (n:Nat): ∀(d:Nat),d≤3→ ∀{spot:Int} (two:Int) {P:Prop},Rm (cst d) spot→
    (∀node w rows spot' two',Good e f s t d node w rows→Adv (cst d) spot spot'→call TT (n+d+12) 65 [Pen,knV f s t,.int d] (pS l spot two rest own)= .ok (.tup [node,.int w,.lst rows]) (pS l spot' two' rest own)→P)→P
  | 0,_,spot,two,P,rm,k=>by
    refine k_leaf (n+1) two rest own kn hl rm fun node w rows sp1 tw1 g a e1=>k node w rows sp1 tw1 g a ?_
    exact k_go rfl (.c<| .c<| .r e1 .nil) rfl
  | d + 1,hd,spot,two,P,rm,k=>by
    have hd':d≤3:=Nat.le_of_lt hd
    have hd2:d≤2:=Nat.le_of_succ_le_succ hd
    have dp:(0:Int)< (d:Int)+1:=Int.lt_add_one_of_le (Int.natCast_nonneg d)
    have dm:((d:Int)+1)-1=(d:Int):=Int.add_sub_cancel ..
    refine k_drawI (n+(d+1)+10) two rest own hl 4 (by decide) rfl rm.fst fun g sp1 tw1 g0 g1 a1 e1=>?_
    have rm1:=rm.go a1
    by_cases c0:g=0
    · subst c0
      refine k_leaf (n+(d+1)+1) tw1 rest own kn hl (rm1.mono (cst_2 d)) fun node w rows sp2 tw2 q a2 e2=>k node w rows sp2 tw2 (q.ups _) ((a1.trans a2).mono (Nat.add_le_add_left (cst_2 d) 1)) ?_
      exact k_go rfl (.y (decide_eq_true dp)<| .r e1<| .c<| .r e2 .nil) rfl
    have c0':(g==0)=false:=beq_false_of_ne c0
    have rl:=rlen_le hd'
    by_cases c1:g=1
    · subst c1
      refine k_pick (n+(d+1)+9) tw1 rest own hl [44,51,234] (by decide) (by decide) rm1.fst fun x sp2 tw2 hx a2 e2=>?_
      refine k_tree rest own kn hl n d hd' tw2 (rm1.go a2).fst fun node w rows sp3 tw3 q a3 e3=>?_
      have e3':call TT (n+(d+1)+11) 65 [Pen,knV f s t,.int ((d:Int)+1-1)] (pS l sp2 tw2 rest own)= .ok (.tup [node,.int w,.lst rows]) (pS l sp3 tw3 rest own):=by rw [dm];exact e3
      have hx':x=44∨x=51∨x=234:=by simpa only [List.mem_cons,List.not_mem_nil,or_false] using hx
      have ea:=k_ahead (n:=n+(d+1)+2) (σ:=pS l sp3 tw3 rest own) (w:=w) hx' q.ev.free (Nat.le_trans q.ln rl)
      refine k _ _ _ sp3 tw3 (good_un hd2 hx' q) ((a1.trans (a2.trans a3)).mono (Nat.add_le_add_left (Nat.add_le_add_left (Nat.le_add_right ..) 1) 1)) ?_
      exact k_go rfl (.y (decide_eq_true dp)<| .r e1<| .c<| .c<| .r e2<| .r e3'<| .r ea .nil) rfl
    · have c1':(g==1)=false:=beq_false_of_ne c1
      refine k_pick (n+(d+1)+9) tw1 rest own hl sgnL (by decide) (by decide) rm1.fst fun x sp2 tw2 hx a2 e2=>?_
      have rm2:=rm1.go a2
      refine k_tree rest own kn hl n d hd' tw2 rm2.fst fun na a ra sp3 tw3 qa a3 e3=>?_
      have rm3:=rm2.go a3
      have e3':call TT (n+(d+1)+11) 65 [Pen,knV f s t,.int ((d:Int)+1-1)] (pS l sp2 tw2 rest own)= .ok (.tup [na,.int a,.lst ra]) (pS l sp3 tw3 rest own):=by rw [dm];exact e3
      cases hs: [31,240].contains x with
      | true=>
        refine k_drawI (n+(d+1)+10) tw3 rest own hl 64 (by decide) rfl (rm3.mono (cst_1 d)) fun b sp4 tw4 b0 b1 a4 e4=>?_
        have qb:Good e f s t d (numN b) b [ins 193 [oReg rax,oImm b],ins 198 [oReg rax]] :=(good_n b0 (Int.lt_trans b1 (by decide))).ups d
        have eb:=k_between (n:=n+(d+1)) (σ:=pS l sp4 tw4 rest own) (nl:=na) (nr:=numN b) (a:=a) (b:=b) hx qa.ev.free qb.ev.free (Nat.le_trans qa.ln rl) (Nat.le_trans qb.ln rl) (qa.sm hd') (qb.sm hd')
        have en:call TT (n+(d+1)+11) 58 [.int b] (pS l sp4 tw4 rest own)= .ok (.tup [numN b,.int b,.lst [ins 193 [oReg rax,oImm b],ins 198 [oReg rax]]]) (pS l sp4 tw4 rest own):=k_number (n:=n+(d+1)+2)
        refine k _ _ _ sp4 tw4 (good_bin hd2 hx qa qb) (a1.trans (a2.trans (a3.trans (a4.mono (cst_1 d))))) ?_
        exact k_go rfl (.y (decide_eq_true dp)<| .r e1<| .n c0'<| .n c1'<| .r e2<| .r e3'<| .y hs<| .r e4<| .r en<| .r eb .nil) rfl
      | false=>
        refine k_tree rest own kn hl n d hd' tw3 rm3 fun nb b rb sp4 tw4 qb a4 e4=>?_
        have e4':call TT (n+(d+1)+11) 65 [Pen,knV f s t,.int ((d:Int)+1-1)] (pS l sp3 tw3 rest own)= .ok (.tup [nb,.int b,.lst rb]) (pS l sp4 tw4 rest own):=by rw [dm];exact e4
        have eb:=k_between (n:=n+(d+1)) (σ:=pS l sp4 tw4 rest own) (nl:=na) (nr:=nb) (a:=a) (b:=b) hx qa.ev.free qb.ev.free (Nat.le_trans qa.ln rl) (Nat.le_trans qb.ln rl) (qa.sm hd') (qb.sm hd')
        refine k _ _ _ sp4 tw4 (good_bin hd2 hx qa qb) (a1.trans (a2.trans (a3.trans a4))) ?_
        show call TT (n+(d+1)+12) 65 [Pen,knV f s t,.int ((d:Int)+1)] _=_
        exact k_go rfl (.y (decide_eq_true dp)<| .r e1<| .n c0'<| .n c1'<| .r e2<| .r e3'<| .n hs<| .r e4'<| .r eb .nil) rfl
end
end Mine
namespace Mine
noncomputable def P(pre l own:List Cell):Sg:=⟨pre++l,own⟩
section
variable {pre l own:List Cell}{c:Cell}
theorem P_nxt:(P pre l own).nxt false=pre.length+l.length:=List.length_append ..
theorem P_new:(P pre l own).new false c=P pre (l++ [c]) own:=congrArg (Sg.mk · own) (List.append_assoc ..)
theorem P_get(i:Nat):(P pre l own).get false (pre.length+i)=l[i]? :=by
  show(pre++l)[pre.length+i]? =_
  rw [List.getElem?_append_right (Nat.le_add_right ..),Nat.add_sub_cancel_left]
theorem P_set(i:Nat):(P pre l own).set false (pre.length+i) c=P pre (l.set i c) own:=by
  show Sg.mk ((pre++l).set (pre.length+i) c) own=_
  rw [List.set_append_right _ _ (Nat.le_add_right ..),Nat.add_sub_cancel_left];rfl
variable {n:Nat}
noncomputable def setL(pre l own:List Cell)(c i x:Nat)(v:V):Option Sg:=(TT.cls c).bind fun C=>(l[i]?.bind Cell.asDict).bind fun p=>cond (C.names.contains x&&decide (p.1.length≤100)&&(false||v.free)) ((putF p.1 p.2 x v).map fun q=>P pre (l.set i (.dict q.1 q.2)) own) none
theorem sI(c i x:Nat)(l:List Cell)(v:V):setAttr TT (P pre l own) x v (.obj c false (pre.length+i))=setL pre l own c i x v:=by
  show(TT.cls c).bind (fun C=>(((P pre l own).get false (pre.length+i)).bind Cell.asDict).bind fun p=>cond _ ((putF p.1 p.2 x v).map fun q=>(P pre l own).set false (pre.length+i) (.dict q.1 q.2)) none)=_
  rw [P_get]
  exact congrArg _ (funext fun C=>congrArg _ (funext fun p=>congrArg (cond _ · none) (congrArg (Option.map · _) (funext fun q=>P_set i))))
theorem sN(k i x:Nat)(l:List Cell)(c:Cell):setAttr TT ((P pre l own).new false c) x (.ref false ((P pre l own).nxt false)) (.obj k false (pre.length+i))=setL pre (l++ [c]) own k i x (.ref false (pre.length+l.length)):=by
  rw [P_new,P_nxt,sI]
theorem k_iFlags{a b d:Cell}:call TT (n+1) 81 [.obj 6 false (pre.length+3)] (P pre [a,b,d,.dict [] []] own)= .ok .none (P pre [a,b,d,.dict [73,76,86,74,75,72,276] [.int 0,.int 0,.int 0,.int 0,.int 0,.int 0,.int 0]] own):=
  k_go rfl (.g (sI 6 3 73 [a,b,d,.dict [] []] (.int 0))<| .g (sI 6 3 76 [a,b,d,.dict [73] [.int 0]] (.int 0))<| .g (sI 6 3 86 [a,b,d,.dict [73,76] [.int 0,.int 0]] (.int 0))<| .g (sI 6 3 74 [a,b,d,.dict [73,76,86] [.int 0,.int 0,.int 0]] (.int 0))<|
    .g (sI 6 3 75 [a,b,d,.dict [73,76,86,74] [.int 0,.int 0,.int 0,.int 0]] (.int 0))<| .g (sI 6 3 72 [a,b,d,.dict [73,76,86,74,75] [.int 0,.int 0,.int 0,.int 0,.int 0]] (.int 0))<| .g (sI 6 3 276 [a,b,d,.dict [73,76,86,74,75,72] [.int 0,.int 0,.int 0,.int 0,.int 0,.int 0]] (.int 0)) .nil) rfl
theorem k_iMemory{a b d e:Cell}:call TT (n+1) 83 [.obj 8 false (pre.length+4)] (P pre [a,b,d,e,.dict [] []] own)= .ok .none (P pre [a,b,d,e,.dict [277] [.ref false (pre.length+5)],.idict (fun _=>none) 0] own):=
  k_go rfl (.g (sN 8 4 277 [a,b,d,e,.dict [] []] (.idict (fun _=>none) 0)) .nil) rfl
theorem obj_new{K:Nat→List V→Sg→R V}{k i:Nat}{vs:List V}{C:Cls}{σ':Sg}(hl:l.length=i)(hC:TT.cls k=some C)(hf:C.frozen=false)(e:K C.init (.obj k false (pre.length+i)::vs) (P pre (l++ [.dict [] []]) own)= .ok .none σ'):construct TT K k vs (P pre l own)= .ok (.obj k false (pre.length+i)) σ':=by
  unfold construct
  subst hl
  rw [hC]
  show cond C.frozen _ _=_
  rw [hf]
  show(K C.init (.obj k false (pre++l).length::vs) ((P pre l own).new false (.dict [] []))).only (fun v σ'=>R.grd v.isNone (.ok (V.obj k false (pre++l).length) σ'))=_
  rw [P_new,List.length_append,e];rfl
theorem k_cFlags{a b d:Cell}:construct TT (call TT (n+1)) 6 [] (P pre [a,b,d] own)= .ok (.obj 6 false (pre.length+3)) (P pre [a,b,d,.dict [73,76,86,74,75,72,276] [.int 0,.int 0,.int 0,.int 0,.int 0,.int 0,.int 0]] own):=obj_new rfl rfl rfl k_iFlags
theorem k_cMemory{a b d e:Cell}:construct TT (call TT (n+1)) 8 [] (P pre [a,b,d,e] own)= .ok (.obj 8 false (pre.length+4)) (P pre [a,b,d,e,.dict [277] [.ref false (pre.length+5)],.idict (fun _=>none) 0] own):=obj_new rfl rfl rfl k_iMemory
noncomputable abbrev m00:M:=⟨List.replicate 16 (.int 0),⟨0,0,0,0,0,0,0⟩,fun _=>none,0⟩
noncomputable def dS(p k:Nat):Cell:= .dict ([283,205,284,77,257,285,286,287,144].take k) ([.none,.ref false (p+1),.ref false (p+2),.obj 6 false (p+3),.obj 8 false (p+4),.int 0,.int 0,.ref false (p+6),.bool false].take k)
noncomputable def tS(p k:Nat):List Cell:=(cells p m00).tail.take k
theorem k_iState:call TT (n+2) 88 [St9 pre,.none] (P pre [.dict [] []] own)= .ok .none (S pre own m00):=
  k_go rfl (.g (sI 9 0 283 [.dict [] []] .none)<| .c<| .g (sN 9 0 205 [dS pre.length 1] (.list (List.replicate 16 (.int 0))))<| .c<| .g (sN 9 0 284 (dS pre.length 2::tS pre.length 1) (.list (List.replicate 16 (.int 0))))<|
    .r (k_cFlags (n:=n) (a:=dS pre.length 3) (b:= .list (List.replicate 16 (.int 0))) (d:= .list (List.replicate 16 (.int 0))))<| .g (sI 9 0 77 (dS pre.length 3::tS pre.length 3) (.obj 6 false (pre.length+3)))<|
    .r (k_cMemory (n:=n) (a:=dS pre.length 4) (b:= .list (List.replicate 16 (.int 0))) (d:= .list (List.replicate 16 (.int 0))) (e:= .dict [73,76,86,74,75,72,276] [.int 0,.int 0,.int 0,.int 0,.int 0,.int 0,.int 0]))<| .g (sI 9 0 257 (dS pre.length 4::tS pre.length 5) (.obj 8 false (pre.length+4)))<|
    .g (sI 9 0 285 (dS pre.length 5::tS pre.length 5) (.int 0))<| .g (sI 9 0 286 (dS pre.length 6::tS pre.length 5) (.int 0))<| .g (sN 9 0 287 (dS pre.length 7::tS pre.length 5) (.sdict [288,289] [.int 0,.int 0]))<| .g (sI 9 0 144 (dS pre.length 8::tS pre.length 6) (.bool false)) .nil) rfl
theorem k_cState:construct TT (call TT (n+2)) 9 [.none] ⟨pre,own⟩= .ok (St9 pre) (S pre own m00):=by
  have:=obj_new (pre:=pre) (l:= []) (own:=own) (K:=call TT (n+2)) (k:=9) (vs:= [.none]) rfl rfl rfl k_iState
  rw [P,List.append_nil] at this;exact this
noncomputable def mem0(f s t home:Int):Int→Option Int:=wr8 (wr8 (wr8 (fun _=>none) home (f%18446744073709551616)) (home+8) (s%18446744073709551616)) (home+16) ((t+s-f)%18446744073709551616)
noncomputable def restL:List V:= [.int 5000032,.int 6000035,.int 7000038,.int 8000041,.int 9000044,.int 10000047,.int 11000050,.int 12000053,.int 13000056,.int 14000059,.int 15000062]
noncomputable def m0(f s t home:Int):M:=⟨.int 17:: .int 1000020:: .int 2000023:: .int home:: .int 32768::restL,⟨0,0,0,0,0,0,0⟩,mem0 f s t home,24⟩
theorem w1{i:Int}:binV .Mult (.int 1000003) (.int i)=some (.int (1000003*i)):=bin_mul rfl
noncomputable def stBd:List Sx:=match f_59.body with | [_,.for _ _ _ b _,_,_,_] =>b |_=> []
noncomputable def stB(n:Nat):V→List (Option V)→Sg→R Out:=fun v ρ σ=>R.grd (decide (3<ρ.length)) (evalSs TT (call TT n) f_59 stBd (ρ.set 3 (some v)) σ)
theorem stB_step{x y z w:Option V}{rs:List V}{f:Fl}{hd:Int→Option Int}{c k:Nat}(h:k<rs.length)(h2:k<16):stB n (.int k) [x,y,some (St9 pre),z,w] (S pre own ⟨rs,f,hd,c⟩)= .ok (.next [x,y,some (St9 pre),some (.int k),w]) (S pre own ⟨rs.set k (.int (1000003*k+17)),f,hd,c⟩):=by
  have s:=sR (pre:=pre) (own:=own) (rs:=rs) (f:=f) (hd:=hd) (c:=c) (i:=k) (w:=1000003*k+17) (v:=rs[k]) (Int.natCast_nonneg _) (Int.ofNat_lt.mpr (Nat.lt_trans h2 (by decide))) (List.getElem?_eq_getElem h)
  show evalSs TT (call TT n) f_59 stBd [x,y,some (St9 pre),some (.int k),w] _=_
  exact ss_go (.v w1<| .v (aS 205)<| .g s .nil) rfl
theorem regs_loop{x y w:Option V}{f:Fl}{hd:Int→Option Int}{c:Nat}: ∀(ks:List Nat) (rs:List V) (z:Option V),rs.length=16→(∀k∈ks,k<16)→
    ∃z',loopF (stB n) (ks.map fun k:Nat=>V.int k) [x,y,some (St9 pre),z,w] (S pre own ⟨rs,f,hd,c⟩)= .ok (.next [x,y,some (St9 pre),z',w]) (S pre own ⟨ks.foldl (fun rs k=>rs.set k (.int (1000003*k+17))) rs,f,hd,c⟩)
  | [],rs,z,_,_=>⟨z,rfl⟩
  | k::ks,rs,z,h1,h2=>by
    have hk:=h2 k (List.mem_cons_self ..)
    obtain⟨z',e⟩:=regs_loop (x:=x) (y:=y) (w:=w) (f:=f) (hd:=hd) (c:=c) ks (rs.set k (.int (1000003*k+17))) (some (.int k)) (by rw [List.length_set];exact h1) (fun j hj=>h2 j (List.mem_cons_of_mem _ hj))
    refine⟨z',.trans ?_ e⟩
    show(stB n (.int k) _ _).bind _=_
    rw [stB_step (by rw [h1];exact hk) hk];rfl
theorem k_state(n:Nat){f s t home:Int}:call TT (n+5) 66 [knV f s t,.int home] ⟨pre,own⟩= .ok (St9 pre) (S pre own (m0 f s t home)):=by
  obtain⟨z',e⟩:=regs_loop (n:=n+4) (pre:=pre) (own:=own) (x:=some (knV f s t)) (y:=some (.int home)) (w:=none) (f:=⟨0,0,0,0,0,0,0⟩) (hd:=fun _=>none) (c:=0) (List.range 16) (List.replicate 16 (.int 0)) none rfl (by decide)
  have e':loopF (stB (n+4)) ((List.range 16).map fun k:Nat=>V.int k) [some (knV f s t),some (.int home),some (St9 pre),none,none] (S pre own m00)= .ok (.next [some (knV f s t),some (.int home),some (St9 pre),z',none]) (S pre own {m00 with regs:= .int 17:: .int 1000020:: .int 2000023:: .int 3000026:: .int 4000029::restL}):=e
  have em:mem0 f s t home=wr8 (wr8 (wr8 (fun _=>none) (home+0) (f%18446744073709551616)) (home+8) (s%18446744073709551616)) (home+16) ((t+s-f)%18446744073709551616):=by rw [Int.add_zero];rfl
  unfold m0
  rw [em]
  exact k_go rfl (.r (k_cState (n:=n+2))<| .o e'<| .v (aS 205)<| .g (sR (i:=3) (by decide) (by decide) (by rfl))<| .v (aS 205)<| .g (sR4 (by rfl))<| .v (aS 257)<| .m (lM 111)<| .v (bin_mul8 (k:=0) (by rfl))<| .c<| .v p64<| .v (bin_mod (by decide))<| .r (k_write8 (by decide))<| .v (aS 257)<| .m (lM 111)<| .v (bin_mul8 (k:=8) (by rfl))<| .c<| .v p64<| .v (bin_mod (by decide))<| .r (k_write8 (by decide))<| .v (aS 257)<| .m (lM 111)<| .v (bin_mul8 (k:=16) (by rfl))<| .c<| .v p64<| .v (bin_mod (by decide))<| .r (k_write8 (by decide)) .nil) rfl
theorem rd8_other{f:Int→Option Int}{p q w:Int}(h0:0≤p)(h1:p<1000000)(q0:0≤q)(q1:q<900000)(h:q+8≤p∨p+8≤q):rd8 (wr8 f p w) q=rd8 f q:=by
  rw [rd8_k,rd8_k]
  refine rdk_same 8 fun j hj=>?_
  unfold oct
  rw [at_W q0 (Int.lt_trans q1 (by decide)) hj,wr8_other h0 h1 (by omega)]
theorem pre0{f s t:Int}(e:MEnv)(k0:e.k0=f)(k1:e.k1=s)(k2:e.k2=t+s-f)(hr:e.rest=restL):Pre e (m0 f s t e.home) 32768:=by
  have o0:Oct (fun _=>none):=fun a v h=>by cases h
  obtain⟨a0,a1,-⟩:=e.in (j:=0) (by decide) (by decide)
  obtain⟨b0,b1,-⟩:=e.in (j:=8) (by decide) (by decide)
  obtain⟨c0,c1,-⟩:=e.in (j:=16) (by decide) (by decide)
  refine⟨⟨17,1000020,2000023,by rw [hr];rfl⟩,((o0.wr8 _ _).wr8 _ _).wr8 _ _,?_,?_,?_⟩
  · rw [k0];show rd8 (wr8 (wr8 (wr8 _ _ _) _ _) _ _) _=_
    rw [rd8_other c0 (Int.lt_trans c1 (by decide)) a0 a1 (.inl (by omega)),rd8_other b0 (Int.lt_trans b1 (by decide)) a0 a1 (.inl (by omega)),Int.add_zero,rd8_wr8 (by omega) (by omega),WW]
  · rw [k1];show rd8 (wr8 (wr8 (wr8 _ _ _) _ _) _ _) _=_
    rw [rd8_other c0 (Int.lt_trans c1 (by decide)) b0 b1 (.inl (by omega)),rd8_wr8 b0 (Int.lt_trans b1 (by decide)),WW]
  · rw [k2];show rd8 (wr8 _ _ _) _=_;rw [rd8_wr8 c0 (Int.lt_trans c1 (by decide)),WW]
end
end Mine
namespace Mine
structure Drawn where
  l:List Int
  spot:Int
  two:Int
  f:Int
  s:Int
  t:Int
  home:Int
  node:V
  w:Int
  rows:List V
noncomputable def Drawn.ρ(d:Drawn)(sc:V):List (Option V):=
  [some sc,some Pen,some (.int d.f),some (.int d.s),some (.int d.t),some (knV d.f d.s d.t),some (.int d.home),some d.node,some (.int d.w),some (.lst d.rows),some (.obj 9 false 3),none,none,none,some dL,none,none,some (.obj 5 false 1),none]
noncomputable def Drawn.pre(d:Drawn):List Cell:= [penC d.l d.spot d.two,scC,eqC d.f d.s d.t]
noncomputable def Drawn.env(d:Drawn)(h0:4096≤d.home)(h1:d.home<4160):MEnv:=⟨d.home,d.f,d.s,d.t+d.s-d.f,restL,h0,h1⟩
structure DrawnOk(d:Drawn):Prop where
  l:d.l.length≤40
  rm:Rm (1+(1+(1+1))) d.spot
  h0:4096≤d.home
  h1:d.home<4160
  kn:Known d.f d.s d.t (d.env h0 h1)
  good:Good (d.env h0 h1) d.f d.s d.t 3 d.node d.w d.rows
section
variable {n:Nat}
theorem k_scope{c:Cell}:construct TT (call TT (n+2)) 5 [] ⟨[c],[]⟩= .ok (.obj 5 false 1) ⟨[c,scC,.sdict [] []],[]⟩:=rfl
theorem k_aff1{w:Int}{σ:Sg}:construct TT (call TT (n+2)) 4 [.int w] σ= .ok (aff w 17 17) σ:=rfl
theorem k_aff2{w:Int}{σ:Sg}:construct TT (call TT (n+2)) 4 [.int w,.str 87] σ= .ok (aff w 87 17) σ:=rfl
theorem k_aff3{w:Int}{σ:Sg}:construct TT (call TT (n+2)) 4 [.int w,.str 88,.str 87] σ= .ok (aff w 88 87) σ:=rfl
theorem k_put1{c:Cell}{w:Int}:call TT (n+2) 78 [Sc,.str 87,aff w 17 17] ⟨[c,scC,.sdict [] []],[]⟩= .ok .none ⟨[c,scC,.sdict [87] [aff w 17 17]],[]⟩:=rfl
theorem k_put2{c:Cell}{w v:Int}:call TT (n+2) 78 [Sc,.str 88,aff v 87 17] ⟨[c,scC,.sdict [87] [aff w 17 17]],[]⟩= .ok .none ⟨[c,scC,.sdict [87,88] [aff w 17 17,aff v 87 17]],[]⟩:=rfl
theorem k_put3{c:Cell}{w v u:Int}:call TT (n+2) 78 [Sc,.str 308,aff u 88 87] ⟨[c,scC,.sdict [87,88] [aff w 17 17,aff v 87 17]],[]⟩= .ok .none ⟨[c,scC,.sdict [87,88,308] [aff w 17 17,aff v 87 17,aff u 88 87]],[]⟩:=rfl
theorem told_eq{w:Int}{σ:Sg}:cmpV σ .NotEq (.tup [.int w,.str 17,.str 17]) (.tup [.int w,.str 17,.str 17])=some false:=by
  show cond ((w==w)&&true) (some false) none=some false
  rw [beq_self_eq_true];rfl
theorem law1(l:List Int)(hl:l.length≤100000): ∃d:Drawn,DrawnOk d∧evalSs TT (call TT (n+30)) f_law b_law1 (some (.lst (l.map V.int))::List.replicate 18 none) ⟨[],[]⟩= .ok (.next (d.ρ (.lst (l.map V.int)))) (S d.pre [] (m0 d.f d.s d.t d.home)):=by
  have hlen:(l.take 40).length≤40:=List.length_take_le ..
  have rm0:Rm (1+1+(1+1+(1+1+(1+(cst 3+(1+(1+(1+1)))))))) 0:=⟨Int.le_refl 0,by decide⟩
  refine k_worth (n+28) 0 [] [] hlen rm0.fst fun f sp1 tw1 f1 a1 e1=>?_
  have rm1:=rm0.go a1
  refine k_worth (n+28) tw1 [] [] hlen rm1.fst fun s sp2 tw2 f2 a2 e2=>?_
  have rm2:=rm1.go a2
  refine k_worth (n+28) tw2 [] [] hlen rm2.fst fun t sp3 tw3 f3 a3 e3=>?_
  have rm3:=rm2.go a3
  refine k_drawI (n+29) tw3 [] [] hlen 64 (by decide) rfl rm3.fst fun g sp4 tw4 g0 g1 a4 e4=>?_
  have rm4:=rm3.go a4
  have h0:4096≤4096+g:=Int.le_add_of_nonneg_right g0
  have h1:4096+g<4160:=Int.add_lt_add_left g1 4096
  have kn:Known f s t ⟨4096+g,f,s,t+s-f,restL,h0,h1⟩:=⟨rfl,rfl,rfl,f1,f2,f3⟩
  refine k_tree [scC,eqC f s t] [] kn hlen (n+15) 3 (by decide) tw4 rm4.fst fun node w rows sp5 tw5 gd a5 e5=>?_
  refine⟨⟨l.take 40,sp5,tw5,f,s,t,4096+g,node,w,rows⟩,⟨hlen,rm4.go a5,h0,h1,kn,gd⟩,?_⟩
  have e0:call TT (n+30) 51 [.lst (l.map V.int)] ⟨[],[]⟩= .ok Pen ⟨[penC (l.take 40) 0 0],[]⟩:=k_pen (n:=n+29) hl
  have e1':call TT (n+30) 54 [Pen] ⟨[penC (l.take 40) 0 0],[]⟩= .ok (.int f) ⟨[penC (l.take 40) sp1 tw1],[]⟩:=e1
  have e2':call TT (n+30) 54 [Pen] ⟨[penC (l.take 40) sp1 tw1],[]⟩= .ok (.int s) ⟨[penC (l.take 40) sp2 tw2],[]⟩:=e2
  have e3':call TT (n+30) 54 [Pen] ⟨[penC (l.take 40) sp2 tw2],[]⟩= .ok (.int t) ⟨[penC (l.take 40) sp3 tw3],[]⟩:=e3
  have e4':call TT (n+30) 52 [Pen,.int 64] ⟨[penC (l.take 40) sp3 tw3],[]⟩= .ok (.int g) ⟨[penC (l.take 40) sp4 tw4],[]⟩:=e4
  have e5':call TT (n+30) 65 [Pen,knV f s t,.int 3] ⟨[penC (l.take 40) sp4 tw4,scC,eqC f s t],[]⟩= .ok (.tup [node,.int w,.lst rows]) ⟨[penC (l.take 40) sp5 tw5,scC,eqC f s t],[]⟩:=e5
  have e6:call TT (n+30) 14 [node,Sc] ⟨[penC (l.take 40) sp5 tw5,scC,eqC f s t],[]⟩= .ok (aff w 17 17) ⟨[penC (l.take 40) sp5 tw5,scC,eqC f s t],[]⟩:=by
    have:=gd.ev.eval (by decide) (c0:=penC (l.take 40) sp5 tw5) (rest:= []) (own:= []) (n+20)
    exact this
  have e7:call TT (n+30) 73 [aff w 17 17] ⟨[penC (l.take 40) sp5 tw5,scC,eqC f s t],[]⟩= .ok (.tup [.int w,.str 17,.str 17]) ⟨[penC (l.take 40) sp5 tw5,scC,eqC f s t],[]⟩:=k_told (n:=n+29)
  have e8:call TT (n+30) 66 [knV f s t,.int (4096+g)] ⟨[penC (l.take 40) sp5 tw5,scC,eqC f s t],[]⟩= .ok (.obj 9 false 3) (S [penC (l.take 40) sp5 tw5,scC,eqC f s t] [] (m0 f s t (4096+g))):=k_state (pre:= [penC (l.take 40) sp5 tw5,scC,eqC f s t]) (own:= []) (n+25)
  exact ss_go (.r e0<| .r e1'<| .r e2'<| .r e3'<| .r e4'<| .r k_scope<| .c<| .r k_aff1<| .r k_put1<| .c<| .r k_aff2<| .r k_put2<| .c<| .r k_aff3<| .r k_put3<| .r e5'<| .r e6<| .r e7<| .k told_eq<| .c<| .r e8 .nil) rfl
end
end Mine
namespace Mine
section
variable {n:Nat}{pre own:List Cell}{m:M}
theorem mul8{j:Int}:binV .Mult (.int 8) (.int j)=some (.int (8*j)):=bin_mul rfl
theorem lc_read{j home:Int}(ho:Oct m.held):evalE TT (call TT (n+30)) f_lc1 [some (.int j),some (.int home),some (St9 pre)] e_lc1 (S pre own m)= .ok (.int (rd8 m.held (home+8*j))) (S pre own m):=by
  exact e_go (.v (aS 257)<| .m (lM 110)<| .v mul8<| .r (k_read8 ho) .nil) rfl
theorem lc_read'{j home:Int}(ho:Oct m.held):evalE TT (call TT (n+30)) f_lc1 [some (.int j),some (.int home),some (St9 pre)] e_lc2 (S pre own m)= .ok (.int (rd8 m.held (home+8*j))) (S pre own m):=by
  exact e_go (.v (aS 257)<| .m (lM 110)<| .v mul8<| .r (k_read8 ho) .nil) rfl
theorem lc_num{j:Int}{σ:Sg}:evalE TT (call TT (n+30)) f_lc3 [some (.int j)] e_lc3 σ= .ok (.int (1000003*j+17)) σ:=by
  exact e_go (.v w1 .nil) rfl
end
section
variable {n:Nat}{d:Drawn}
noncomputable def Drawn.kept(d:Drawn):V:= .lst [.int (d.f%18446744073709551616),.int (d.s%18446744073709551616),.int ((d.t+d.s-d.f)%18446744073709551616)]
structure After(d:Drawn)(m:M):Prop where
  regs: ∃b c,m.regs= .int (d.w%18446744073709551616):: .int b:: .int c:: .int d.home:: .int 32768::restL
  oct:Oct m.held
  k0:rd8 m.held (d.home+0)=d.f%18446744073709551616
  k1:rd8 m.held (d.home+8)=d.s%18446744073709551616
  k2:rd8 m.held (d.home+16)=(d.t+d.s-d.f)%18446744073709551616
theorem law2{sc:V}(x:DrawnOk d): ∃m2,After d m2∧evalSs TT (call TT (n+30)) f_law b_law2 ((d.ρ sc).set 11 (some d.kept)) (S d.pre [] (m0 d.f d.s d.t d.home))= .ok (.next ((d.ρ sc).set 11 (some d.kept))) (S d.pre [] m2):=by
  have hp:Pre (d.env x.h0 x.h1) (m0 d.f d.s d.t d.home) 32768:=pre0 (d.env x.h0 x.h1) rfl rfl rfl rfl
  obtain⟨m1,r1,p1,v1,k1,n1⟩:=x.good.co (n+17) d.pre [] 32768 (m0 d.f d.s d.t d.home) (by decide) (by decide) hp (by show 24+kc 3≤100000;decide)
  obtain⟨a,b,c,y⟩:=p1.at
  have s:=st_pop0 (n:=n+17) (pre:=d.pre) (own:= []) y
  simp only [show(32768:Int)-8+8=32768 by decide] at s
  rw [v1,WW,show(32768:Int)%18446744073709551616=32768 by decide] at s
  have hrun:=k_perform (r1.app (.one s))
  refine⟨{m1 with regs:= .int (d.w%18446744073709551616):: .int b:: .int c:: .int d.home:: .int 32768::restL},⟨⟨b,c,rfl⟩,p1.oct,p1.k0,p1.k1,p1.k2⟩,?_⟩
  have hl:=x.good.ln
  have hrun':call TT (n+30) 33 [.obj 9 false 3,.lst (d.rows++ [ins 199 [oReg rax]]),dL] (S d.pre [] (m0 d.f d.s d.t d.home))= .ok .none (S d.pre [] {m1 with regs:= .int (d.w%18446744073709551616):: .int b:: .int c:: .int d.home:: .int 32768::restL}):=hrun
  exact ss_go (.r k_reg0<| .r k_do1<| .v (addC _ hl (by decide))<| .r hrun' .nil) rfl
theorem a3{pre own:List Cell}{m:M}(hp:pre.length=3):attrV TT (S pre own m) 205 (.obj 9 false 3)=some (.ref false 4):=by
  have e:=aS (pre:=pre) (own:=own) (m:=m) 205
  unfold St9 Rs1 at e
  rw [hp] at e;exact e
theorem g4{pre own:List Cell}{m:M}(hp:pre.length=3):(S pre own m).get false 4=some (.list m.regs):=by
  have e:=S_get1 (pre:=pre) (own:=own) (m:=m)
  rw [hp] at e;exact e
theorem law12a{sc k:V}{m:M}(x:After d m){pre own:List Cell}(hp:pre.length=3):evalE TT (call TT (n+30)) f_law ((d.ρ sc).set 11 (some k)) e_law12a (S pre own m)= .ok (.bool false) (S pre own m):=by
  obtain⟨b,c,hr⟩:=x.regs
  have h1:=a3 (own:=own) (m:=m) hp
  have h2:subV TT (S pre own m) (.ref false 4) (.int 0)=some (.int (d.w%18446744073709551616)):=by
    show((S pre own m).get false 4).bind _=_
    rw [g4 hp,hr];rfl
  rw [show false=(d.w%18446744073709551616 !=d.w%18446744073709551616) from(bne_self_eq_false _).symm]
  exact e_go (.v h1<| .v h2<| .v p64<| .v (bin_mod (by decide)) .nil) rfl
theorem law13a{sc k:V}{m:M}(x:After d m){pre own:List Cell}(hp:pre.length=3):evalE TT (call TT (n+30)) f_law ((d.ρ sc).set 11 (some k)) e_law13a (S pre own m)= .ok (.lst (.int d.home:: .int 32768::restL)) (S pre own m):=by
  obtain⟨b,c,hr⟩:=x.regs
  have h1:=a3 (own:=own) (m:=m) hp
  have h2:cutV TT (S pre own m) (.ref false 4) (Int.toNat 3)=some (.lst (.int d.home:: .int 32768::restL)):=by
    show(((S pre own m).get false 4).bind Cell.asList).bind _=_
    rw [g4 hp,hr];rfl
  exact e_go (.v h1<| .v h2 .nil) rfl
theorem law13b{sc k:V}{σ:Sg}:evalE TT (call TT (n+30)) f_law ((d.ρ sc).set 11 (some k)) e_law13b σ= .ok (.lst [.int d.home,.int 32768]) σ:=by
  exact e_go .nil rfl
end
section
variable {f s t:Int}{c0:Cell}{rest own:List Cell}{n:Nat}
theorem k_combX{q:Nat}{a:Int}{σ:Sg}(hq:q=35∨q=36):call TT (n+5) 12 [.str q,aff a 17 17,aff 0 17 17] σ= .exc 1071 σ:=by
  rcases hq with rfl |rfl<;>rfl
theorem evF_exc{k q:Nat}{l r:V}{a:Int}{x0 x3 x4 p:Option V}{σ:Sg}(e:call TT k 14 [r,Sc,.str 17] σ= .ok (aff 0 17 17) σ)(ec:call TT k 12 [.str q,aff a 17 17,aff 0 17 17] σ= .exc 1071 σ):
    evF k (binN q l r) [x0,some Sc,some (.str 17),x3,x4,some (aff a 17 17),p] σ= .exc 1071 σ:=by
  show evalSs TT (call TT k) f_10 evB [x0,some Sc,some (.str 17),x3,x4,some (aff a 17 17),some (binN q l r)] σ=_
  unfold evB
  exact ss_go (.r e<| .r ec .nil) rfl
theorem evX{k q:Nat}{l r:V}{a:Int}(hq:q=35∨q=36)(x:EvS f s t k l a)(y:EvS f s t k r 0)(hk:k<19):call TT (n+k+8) 14 [binN q l r,Sc] (sS f s t c0 rest own)= .exc 1071 (sS f s t c0 rest own):=by
  obtain⟨i,sp,w0,h1,h2,h3,h4⟩:=x.ex
  have hf:(binN q l r).free=true:=by show(l.free&&(r.free&&true))=true;rw [x.free,y.free];rfl
  have hsp:=k_spine (n:=n+k+6) (σ:=sS f s t c0 rest own) (LS.bin (s:=q) (r:=r) h1) hf (Nat.lt_of_le_of_lt (Nat.succ_le_succ h2) (Nat.succ_lt_succ hk))
  rw [List.reverse_cons] at hsp
  have h3':=h3 (n+1) c0 rest own (some (binN q l r)) (some (.lst (sp.reverse++ [binN q l r])))
  obtain⟨p',h5⟩:=h4 (n+1) c0 rest own (some (binN q l r)) (some i) (some (.lst (sp.reverse++ [binN q l r]))) none [binN q l r]
  rw [Nat.add_assoc n,Nat.add_comm 1,←Nat.add_assoc] at h3' h5
  have ey:call TT (n+k+1+6) 14 [r,Sc,.str 17] (sS f s t c0 rest own)= .ok (aff 0 17 17) (sS f s t c0 rest own):=y.eval (Nat.lt_trans hk (by decide)) n
  have h6:loopF (evF (n+k+1+6)) [binN q l r] [some (binN q l r),some Sc,some (.str 17),some i,some (.lst (sp.reverse++ [binN q l r])),some (aff a 17 17),p'] (sS f s t c0 rest own)= .exc 1071 (sS f s t c0 rest own):=by
    show(evF _ _ _ _).bind _=_
    rw [evF_exc ey (k_combX (n:=n+k+2) hq)];rfl
  exact k_go rfl (.r hsp<| .o h3'<| .o (h5.trans h6) .nil) (by kernel_rfl)
end
end Mine
namespace Mine
section
variable {n:Nat}{d:Drawn}
noncomputable def moreR(rows la:List V):List V:=rows++(la++la++ [ins 199 [oReg rcx],ins 199 [oReg rax]])++midR 44++ [ins 198 [oReg rax]] ++ [ins 199 [oReg rcx],ins 199 [oReg rax]]
theorem moreR_len{rows la:List V}(l1:rows.length≤rlen 3)(l2:la.length≤rlen 0):(moreR rows la).length≤rlen 3+(rlen 0+rlen 0+2)+3+1+2:=
  lenA (lenA (lenA (lenA l1 (lenA (lenA l2 l2) (Nat.le_refl 2))) (midR_len (q:=44) (by decide))) (Nat.le_refl 1)) (Nat.le_refl 2)
theorem lam1X{q k:Nat}{f s t:Int}{c0:Cell}{rest:List Cell}{l r:V}{a:Int}(hq:q=35∨q=36)(x:EvS f s t k l a)(y:EvS f s t k r 0)(hk:k≤10):
    evalE TT (call TT (n+30)) f_lam1 [some (binN q l r),some Sc] e_lam1 (sS f s t c0 rest [])= .exc 1071 (sS f s t c0 rest []):=by
  have e:=evX (n:=n+22-k) (c0:=c0) (rest:=rest) (own:= []) hq x y (by omega)
  rw [show n+22-k+k+8=n+30 by omega] at e
  exact e_go (.r e .nil) rfl
theorem lam2X{q:Nat}{e:MEnv}{pre:List Cell}{f s t:Int}{node leaf:V}{w a:Int}{rows la:List V}(hq:q=35∨q=36)(g:Good e f s t 3 node w rows)(gl:Good e f s t 0 leaf a la){m:M}(p:Pre e m 32768)(hn:m.n≤100):
    ∃σ',evalE TT (call TT (n+30)) f_lam2 [some dL,some (.lst (moreR rows la)),some (St9 pre),some (.str q)] e_lam2 (S pre [] m)= .exc 1083 σ':=by
  have l1:=g.ln
  have l2:=gl.ln
  obtain⟨m1,x1,p1,v1,k1,n1⟩:=g.co (n+17) pre [] 32768 m (by decide) (by decide) p (Nat.le_trans (Nat.add_le_add_right hn _) (by decide))
  have cb:=comp_bin gl.co gl.co (mid_op (e:=e) (q:=101) (by decide) a a)
  obtain⟨m2,x2,p2,v2,k2,n2⟩:=cb (n+17) pre [] (32768-8) m1 (by decide) (by decide) p1 (Nat.le_trans (Nat.add_le_add_right (Nat.le_trans n1 (Nat.add_le_add_right hn _)) _) (by decide))
  obtain⟨b,c,dd,y⟩:=p2.at
  have s1:=st_pop1 (n:=n+17) (pre:=pre) (own:= []) y
  simp only [show opI 101 a a=0 from Int.sub_self a] at v2
  simp only [v2,show(32768:Int)-8-8+8=32760 by decide,show(32760:Int)%18446744073709551616=32760 by decide,show(0:Int)%18446744073709551616%18446744073709551616=0 by decide] at s1
  have s2:=st_pop0 (n:=n+17) (pre:=pre) (own:= []) (m:={m2 with regs:= .int b:: .int 0:: .int dd:: .int e.home:: .int 32760::e.rest}) ⟨rfl,y.oct⟩
  obtain⟨z,hz⟩: ∃z,z=rd8 m2.held 32760%18446744073709551616:=⟨_,rfl⟩
  simp only [←hz,show((32760:Int)+8)%18446744073709551616=32768 by decide] at s2
  have s3:=st_cqo (n:=n+17) (pre:=pre) (own:= []) (m:={m2 with regs:= .int z:: .int 0:: .int dd:: .int e.home:: .int 32768::e.rest}) ⟨rfl,y.oct⟩
  have s4:=st_idiv0 (n:=n+17) (pre:=pre) (own:= []) (m:={m2 with regs:= .int z:: .int 0:: .int (-(z%18446744073709551616/9223372036854775808%2)%18446744073709551616):: .int e.home:: .int 32768::e.rest}) ⟨rfl,y.oct⟩ rfl
  have run:Runs (n+17) pre [] (moreR rows la++ [ins 243 []]) m {m2 with regs:= .int z:: .int 0:: .int (-(z%18446744073709551616/9223372036854775808%2)%18446744073709551616):: .int e.home:: .int 32768::e.rest}:=by
    have:=((x1.app x2).app (.cons s1 (.one s2))).app (.one s3)
    have hm:midR 44= [ins 101 [oReg rax,oReg rcx]] :=rfl
    unfold moreR
    rw [hm]
    simpa only [List.append_assoc,List.cons_append,List.nil_append] using this
  have hq':q∈sgnL:=by rcases hq with rfl |rfl<;>decide
  have hlen:=moreR_len l1 l2
  have ml:=midR_len hq'
  have key: ∃tl,midR q=ins 243 [] ::ins 183 [oReg rcx] ::tl:=by rcases hq with rfl |rfl<;>exact⟨_,rfl⟩
  obtain⟨tl,htl⟩:=key
  have hx:=k_perform_exc (t:=tl) run s4
  refine⟨S pre [] {m2 with regs:= .int z:: .int 0:: .int (-(z%18446744073709551616/9223372036854775808%2)%18446744073709551616):: .int e.home:: .int 32768::e.rest},?_⟩
  · have hx':call TT (n+30) 33 [St9 pre,.lst (moreR rows la++midR q),dL] (S pre [] m)= .exc 1083 (S pre [] {m2 with regs:= .int z:: .int 0:: .int (-(z%18446744073709551616/9223372036854775808%2)%18446744073709551616):: .int e.home:: .int 32768::e.rest}):=by
      rw [htl,show moreR rows la++ins 243 [] ::ins 183 [oReg rcx] ::tl=moreR rows la++ [ins 243 []] ++ins 183 [oReg rcx] ::tl by simp]
      exact hx
    exact e_go (.r (k_rows hq')<| .v (addL hlen ml (by decide))<| .r hx' .nil) rfl
theorem law3{sc:V}(x:DrawnOk d){m2:M}(af:After d m2):
    (∃σ',evalSs TT (call TT (n+30)) f_law b_law3 ((d.ρ sc).set 11 (some d.kept)) (S d.pre [] m2)= .ok (.ret (.bool true)) σ')∨
    ∃ (q:Nat) (bad:V) (more:List V) (ρ':List (Option V)) (σ3:Sg),evalSs TT (call TT (n+30)) f_law b_law3 ((d.ρ sc).set 11 (some d.kept)) (S d.pre [] m2)= .ok (.next ρ') σ3∧
      ρ'[13]? =some (some bad)∧ρ'[17]? =some (some Sc)∧ρ'[14]? =some (some dL)∧ρ'[15]? =some (some (.lst more))∧ρ'[16]? =some (some (.obj 9 false 10))∧ρ'[18]? =some (some (.str q))∧
      evalE TT (call TT (n+30)) f_lam1 [some bad,some Sc] e_lam1 σ3= .exc 1071 σ3∧ ∃σ4,evalE TT (call TT (n+30)) f_lam2 [some dL,some (.lst more),some (.obj 9 false 10),some (.str q)] e_lam2 σ3= .exc 1083 σ4:=by
  refine k_drawI (l:=d.l) (n+29) d.two (scC::eqC d.f d.s d.t::cells 3 m2) [] x.l 4 (by decide) rfl x.rm.fst fun g sp1 tw1 g0 g1 a0 e1=>?_
  have hS:S d.pre [] m2=pS d.l d.spot d.two (scC::eqC d.f d.s d.t::cells 3 m2) [] :=rfl
  rw [hS]
  have e1':call TT (n+30) 52 [Pen,.int 4] (pS d.l d.spot d.two (scC::eqC d.f d.s d.t::cells 3 m2) [])= .ok (.int g) (pS d.l sp1 tw1 (scC::eqC d.f d.s d.t::cells 3 m2) []):=e1
  by_cases hg:0<g
  · left
    refine⟨pS d.l sp1 tw1 (scC::eqC d.f d.s d.t::cells 3 m2) [],?_⟩
    exact ss_go (.r e1'<| .y (decide_eq_true hg) .nil) rfl
  right
  refine k_pick (l:=d.l) (n+28) tw1 (scC::eqC d.f d.s d.t::cells 3 m2) [] x.l [35,36] (by decide) (by decide) (x.rm.go a0).fst fun q sp2 tw2 hq a2 e2=>?_
  have e2':call TT (n+30) 53 [Pen,.lst [.str 35,.str 36]] (pS d.l sp1 tw1 (scC::eqC d.f d.s d.t::cells 3 m2) [])= .ok (.str q) (pS d.l sp2 tw2 (scC::eqC d.f d.s d.t::cells 3 m2) []):=e2
  have hq':q=35∨q=36:=by simpa only [List.mem_cons,List.not_mem_nil,or_false] using hq
  refine k_leaf (l:=d.l) (n+20) tw2 (scC::eqC d.f d.s d.t::cells 3 m2) [] x.kn x.l ((x.rm.go a0).go a2) fun leaf a la sp3 tw3 gl a4 e3=>?_
  have e3':call TT (n+30) 59 [Pen,knV d.f d.s d.t] (pS d.l sp2 tw2 (scC::eqC d.f d.s d.t::cells 3 m2) [])= .ok (.tup [leaf,.int a,.lst la]) (pS d.l sp3 tw3 (scC::eqC d.f d.s d.t::cells 3 m2) []):=e3
  have s0:sm a=true:=gl.sm (by decide)
  have gll:=evS_bin (q:=44) (f:=d.f) (s:=d.s) (t:=d.t) (by decide) gl.ev gl.ev trivial s0 s0 (by decide)
  have gll3:EvS d.f d.s d.t 3 (binN 44 leaf leaf) 0:=by
    have:=gll.up.up
    rw [show recI 44 a a=0 from Int.sub_self a] at this
    exact this
  have fb:(binN 44 leaf leaf).free=true:=gll.free
  have b1: ∀σ,construct TT (call TT (n+30)) 3 [.str 44,leaf,leaf] σ= .ok (binN 44 leaf leaf) σ:=fun σ=>k_cBin (n:=n+29) gl.ev.free gl.ev.free
  have b2: ∀σ,construct TT (call TT (n+30)) 3 [.str q,d.node,binN 44 leaf leaf] σ= .ok (binN q d.node (binN 44 leaf leaf)) σ:=fun σ=>k_cBin (n:=n+29) x.good.ev.free fb
  have h44:44∈sgnL:=by decide
  have e6:call TT (n+30) 66 [knV d.f d.s d.t,.int d.home] (pS d.l sp3 tw3 (scC::eqC d.f d.s d.t::cells 3 m2) [])= .ok (.obj 9 false 10) (S (penC d.l sp3 tw3::scC::eqC d.f d.s d.t::cells 3 m2) [] (m0 d.f d.s d.t d.home)):=k_state (pre:=penC d.l sp3 tw3::scC::eqC d.f d.s d.t::cells 3 m2) (own:= []) (n+25)
  have l1:=x.good.ln
  have l2:=gl.ln
  have hp:Pre (d.env x.h0 x.h1) (m0 d.f d.s d.t d.home) 32768:=pre0 (d.env x.h0 x.h1) rfl rfl rfl rfl
  obtain⟨σ4,l4⟩:=lam2X (n:=n) (pre:=penC d.l sp3 tw3::scC::eqC d.f d.s d.t::cells 3 m2) hq' x.good gl hp (by show(24:Nat)≤100;decide)
  refine⟨q,binN q d.node (binN 44 leaf leaf),moreR d.rows la,((((((d.ρ sc).set 11 (some d.kept)).set 18 (some (.str q))).set 12 (some (.tup [leaf,.int a,.lst la]))).set 13 (some (binN q d.node (binN 44 leaf leaf)))).set 15 (some (.lst (moreR d.rows la)))).set 16 (some (.obj 9 false 10)),S (penC d.l sp3 tw3::scC::eqC d.f d.s d.t::cells 3 m2) [] (m0 d.f d.s d.t d.home),?_,rfl,rfl,rfl,rfl,rfl,rfl,?_,σ4,l4⟩
  · have r1:=lenA l2 l2
    have r2: ∀x y,(la++la++ [x,y]).length≤rlen 0+rlen 0+2:=fun x y=>lenA r1 (Nat.le_refl 2)
    have r4: ∀x y,(d.rows++(la++la++ [x,y])).length≤rlen 3+(rlen 0+rlen 0+2):=fun x y=>lenA l1 (r2 x y)
    have ml:=midR_len (q:=44) (by decide)
    have r5: ∀x y,(d.rows++(la++la++ [x,y])++midR 44).length≤rlen 3+(rlen 0+rlen 0+2)+3:=fun x y=>lenA (r4 x y) ml
    have r6: ∀x y z,(d.rows++(la++la++ [x,y])++midR 44++ [z]).length≤rlen 3+(rlen 0+rlen 0+2)+3+1:=fun x y z=>lenA (r5 x y) (Nat.le_refl 1)
    exact ss_go (.r e1'<| .n (decide_eq_false hg)<| .r e2'<| .r e3'<| .r (b1 _)<| .r (b2 _)<| .v (addL l2 l2 (by decide))<| .r k_reg1<| .r k_do1c<| .r k_reg0<| .r k_do1<| .v (addC _ r1 (by decide))<| .v (addL l1 (r2 _ _) (by decide))<| .r (k_rows h44)<| .v (addL (r4 _ _) ml (by decide))<| .r k_reg0<| .r k_do1<| .v (addC _ (r5 _ _) (by decide))<| .r k_reg1<| .r k_do1c<| .r k_reg0<| .r k_do1<| .v (addC _ (r6 _ _ _) (by decide))<| .r e6 .nil) rfl
  · exact lam1X (n:=n) (rest:=cells 3 m2++cells 10 (m0 d.f d.s d.t d.home)) (c0:=penC d.l sp3 tw3) hq' x.good.ev gll3 (by decide)
end
end Mine
end
section
open PySem PySem.Calls PySem.W PyProof.Rows
set_option maxRecDepth 100000
namespace Mine
section
variable {T:Tabs}{G:Gx}{fn:Fn}{n:Nat}{C:Cx T G fn n}{K:Nat→List V→Sg→R V}
theorem bind_ok{α β:Type}{r:R α}{f:α→Sg→R β}{b:β}{σ':Sg}(h:r.bind f= .ok b σ'): ∃a σ₁,r= .ok a σ₁∧f a σ₁= .ok b σ':=match r,h with
  | .ok a σ₁,h=>⟨a,σ₁,rfl,h⟩
theorem ew_ok(O:Okay T G.K)(KO:KOk T G n K){e:Ex}{ρ:List (Option V)}{σ σ':Sg}{x:V}(he:evalE T K fn ρ e σ= .ok x σ'){g:Gh}{s:Shared}(hs:St T G g σ s)(hf:Fm C g ρ s){Q E:Value→Shared→Prop}
    (k: ∀v g₁ s₁,Step T G g σ s g₁ σ' s₁→Rep T G.w.params g₁ x v→Q v s₁):wpAny (model PW G.w) C.A (eval (erE T fn e) C.env) Q E s:=
  (soundG O KO C ρ e).1 ⟨.refl hs,hf⟩ (by rw [he];exact fun g₁ s₁ v A _ r=>k v g₁ s₁ A.step r)
theorem bw_ok(O:Okay T G.K)(KO:KOk T G n K){e:Ex}{ρ:List (Option V)}{σ σ':Sg}{b:Bool}(he:evalE T K fn ρ e σ= .ok (.bool b) σ'){g:Gh}{s:Shared}(hs:St T G g σ s)(hf:Fm C g ρ s){Q:Bool→Shared→Prop}{E:Value→Shared→Prop}
    (k: ∀g₁ s₁,Step T G g σ s g₁ σ' s₁→Q b s₁):wpAny (model PW G.w) C.A (isTrue (erE T fn e) C.env (eval (erE T fn e) C.env)) Q E s:=
  (soundG O KO C ρ e).2 ⟨.refl hs,hf⟩ (by rw [he];exact⟨b,rfl,fun g₁ s₁ A _=>k g₁ s₁ A.step⟩)
theorem lw_ok(O:Okay T G.K)(KO:KOk T G n K){es:List Ex}{ρ:List (Option V)}{σ σ':Sg}{vs:List V}(he:evalEs T K fn ρ es σ= .ok (.tup vs) σ'){g:Gh}{s:Shared}(hs:St T G g σ s)(hf:Fm C g ρ s){pos:Pos}{Q:List Value→Shared→Prop}{E:Value→Shared→Prop}
    (k: ∀rs g₁ s₁,Step T G g σ s g₁ σ' s₁→RepL T G.w.params g₁ vs rs→Q rs s₁):wpAny (model PW G.w) C.A (spliced (backTo pos (starEach (erL T fn es) C.env))) Q E s:=
  (soundLG O KO C ρ es).1 ⟨.refl hs,hf⟩ pos (by rw [he];exact⟨vs,rfl,fun g₁ s₁ rs A _ r=>k rs g₁ s₁ A.step r⟩)
theorem At.freeze{g₀ σ₀ s₀ g σ ρ s}{D:Addr}{o:Obj}(x:At C g₀ σ₀ s₀ g σ ρ s)(ho:s.heap.get? D=some o)(hA:D∉g.act)(hD:Free1 C D)(h0:s₀.heap.get? D=none)(hF:g.F D=none):
    At C g₀ σ₀ s₀ ⟨g.F.put D o,g.φ,g.ψ⟩ σ ρ s:=by
  have st:=x.step.st
  have le:Gh.le g ⟨g.F.put D o,g.φ,g.ψ⟩:=⟨FH.le_put hF,fun _ _ e=>e,fun _ _ e=>e⟩
  have put: ∀b,b≠D→g.F b=none→(g.F.put D o) b=none:=fun b hb e=>by unfold FH.put;rw [if_neg hb];exact e
  have m1: ∀a,a≠D→Mine1 G g s.heap a→Mine1 G ⟨g.F.put D o,g.φ,g.ψ⟩ s.heap a:=fun a ne ⟨p,q,r,z⟩=>⟨put a ne p,q,r,z⟩
  refine⟨⟨⟨⟨fun b o' e=>?_,fun o c m e=>?_,st.lrw,st.lown,st.nd,fun a m=>?_,fun b o' e ht=>le.F _ _ (st.base b o' e ht),st.tabs,st.free⟩,st.gens,st.os⟩,x.step.le.trans le,x.step.keep,fun a ob e f m=>put a (fun q=>by rw [q,h0] at e;cases e) (x.step.newF a ob e f m),x.step.newA,x.step.live⟩,
    ⟨⟨x.fm.off.frames,fun a ha=>⟨put a (fun q=>hD.frs (q▸ha)) (x.fm.off.off a ha).1,(x.fm.off.off a ha).2⟩⟩,fun a ha=>m1 a (fun q=>hD.priv (q▸ha)) (x.fm.own a ha),fun i o a e=>⟨m1 a (fun q=>hD.cel i o (q▸e)) (x.fm.cells i o a e).1,(x.fm.cells i o a e).2⟩,?_⟩⟩
  · change (g.F.put D o) b=some o' at e
    unfold FH.put at e
    by_cases hb:b=D
    · subst hb;rw [if_pos rfl] at e;cases e;exact ho
    · rw [if_neg hb] at e;exact st.fz _ _ e
  · obtain ⟨a,h1,h2⟩:=st.cell o c m e
    exact⟨a,by cases o<;>exact h1,h2.mono le fun _ e=>e⟩
  · obtain ⟨p,q,r⟩:=st.off a m
    exact⟨put a (fun z=>hA (z▸m)) p,q,r⟩
  · obtain ⟨m,hm,hl⟩:=x.fm.loc
    exact⟨m,hm,hl.1,fun i v e=>let⟨r,h1,h2⟩:=hl.2 i v e;⟨r,h1,h2.mono le⟩⟩
structure CompOk(C:Cx T G fn n)(fc:Fn)(scope:Scope)(cl:List (Str×Addr))(cel:Nat→Option (Bool×Addr))(src:Nat→Nat):Prop where
  kind:scope.kind= .function
  nocell: ∀y∈scope.names,y.2≠ .cell
  locs: ∀y∈scope.names,y.2= .local→scope.names.lookup y.1=some .local
  x0:scope.names.lookup (nmOf T fc.ns 0)=some NameKind.local
  cel0:cel 0=none
  pos:0<fc.ns.length
  clos:closureFor scope C.env=pure cl
  celS: ∀i,0<i→i<fc.ns.length→ ∃a,cel i=some (true,a)∧(relabel scope C.env).names.lookup (nmOf T fc.ns i)=some .cell∧cl.lookup (nmOf T fc.ns i)=some a∧C.cel (src i)=some (true,a)
  celN: ∀i,fc.ns.length≤i→cel i=none
  clIn: ∀i,i<fc.ns.length→fc.cl.contains i=(cel i).isSome
  inj: ∀i j o o' a,cel i=some (o,a)→cel j=some (o',a)→i=j
  glo: ∀(i:Nat) (v:V),fc.gv[i]? =some v→False
  nosup:(relabel scope C.env).names.lookup ("super":Str)≠some NameKind.globalImplicit
  ninj: ∀i j,i<fc.ns.length→j<fc.ns.length→nmOf T fc.ns i=nmOf T fc.ns j→i=j
variable {fc:Fn}{scope:Scope}{cl:List (Str×Addr)}{cel:Nat→Option (Bool×Addr)}{src:Nat→Nat}
theorem CompOk.cell(Ok:CompOk C fc scope cl cel src){i o a}(e:cel i=some (o,a)):o=true∧0<i∧i<fc.ns.length∧C.cel (src i)=some (true,a)∧(relabel scope C.env).names.lookup (nmOf T fc.ns i)=some .cell∧cl.lookup (nmOf T fc.ns i)=some a:=by
  have h0:0<i:=by
    rcases Nat.eq_zero_or_pos i with rfl |h
    · rw [Ok.cel0] at e;cases e
    · exact h
  have h1:i<fc.ns.length:=by
    rcases Nat.lt_or_ge i fc.ns.length with h |h
    · exact h
    · rw [Ok.celN i h] at e;cases e
  obtain⟨a',e1,e2,e3,e4⟩:=Ok.celS i h0 h1
  rw [e] at e1;cases e1
  exact⟨rfl,h0,h1,e4,e2,e3⟩
noncomputable def compCx(Ok:CompOk C fc scope cl cel src)(L:Addr)(hL: ∀i o a,C.cel i=some (o,a)→a≠L)(ps:List Addr)(hps: ∀i a,cel i=some (true,a)→a∈ps):Cx T G fc n where
  A:=C.A
  env:=compEnvC scope cl L C.env
  outer:=C.outer
  frs:=C.frs
  out:=true
  cel:=cel
  priv:=L::ps
  frames:=C.frames
  hfrs:=fun h=>by cases h
  handled:=C.handled
  kind:=by show(relabel scope C.env).kind=_;exact Ok.kind
  glob:=C.glob
  blt:=C.blt
  frame:=fun h=>by cases h
  loc :=fun i hi h=>by
    rcases Nat.eq_zero_or_pos i with rfl |q
    · exact lookup_relabel_local Ok.x0
    · obtain ⟨a,e,_⟩:=Ok.celS i q hi
      rw [h] at e;cases e
  cll:=fun i o a hi e=>by
    obtain⟨rfl,_,_,_,h1,h2⟩:=Ok.cell e
    exact⟨h1,h2⟩
  clIn:=Ok.clIn
  clNe:=fun i o a e=>hL _ _ _ (Ok.cell e).2.2.2.1
  clInj:=Ok.inj
  privL:= .head _
  privC:=fun i a e=> .tail _ (hps i a e)
  privO:=fun i a e=>by have:=(Ok.cell e).1;cases this
  hidP:=fun h=>by cases h
  glo:=fun i v e=>(Ok.glo i v e).elim
  nosup:=Ok.nosup
  nodbg:=C.nodbg
  nocd:=C.nocd
  inj:=Ok.ninj
  depth:=C.depth
  units:=C.units
theorem comp_fm(Ok:CompOk C fc scope cl cel src){L hL ps hps g ρ s m}(x:Fm C g ρ s)(hps': ∀a∈ps,∃i,cel i=some (true,a))(hm:Mine1 G g s.heap L)(hn:s.heap.Ns L m){v:V}{r:Value}(hr:m (nmOf T fc.ns 0)=some r)(hv:Rep T G.w.params g v r)
    {ρt:List (Option V)} (hl:ρt.length+1=fc.ns.length) (hρ: ∀i w,ρt[i]? =some (some w)→ρ[src (i+1)]? =some (some w)):Fm (compCx Ok L hL ps hps) g (some v::ρt) s:=by
  refine⟨x.off,fun a ha=>?_,fun i o a e=>?_,m,hn,hl,fun i w e=>?_⟩
  · rcases List.mem_cons.mp ha with rfl |ha
    · exact hm
    · obtain ⟨i,e⟩:=hps' a ha
      exact(x.cells _ _ _ (Ok.cell e).2.2.2.1).1
  · exact x.cells _ _ _ (Ok.cell (show cel i=_ from e)).2.2.2.1
  · cases i with
    | zero=>
      simp only [List.getElem?_cons_zero,Option.some.injEq] at e
      subst e
      refine⟨r,?_,hv⟩
      show(match cel 0 with |none=>m (nmOf T fc.ns 0)=some r |some (_,a)=>_)
      rw [Ok.cel0];exact hr
    | succ i=>
      rw [List.getElem?_cons_succ] at e
      have hi:i+1<fc.ns.length:=by rw [←hl];exact Nat.succ_lt_succ (List.getElem?_eq_some_iff.mp e).1
      obtain⟨a,e1,e2,e3,e4⟩:=Ok.celS (i+1) (Nat.succ_pos _) hi
      obtain⟨m',hm',hL'⟩:=x.loc
      obtain⟨q,h1,h2⟩:=hL'.2 _ _ (hρ i w e)
      refine⟨q,?_,h2⟩
      show(match cel (i+1) with |none=>m (nmOf T fc.ns (i+1))=some q |some (_,a)=> ∃o,s.heap.get? a=some o∧o.data= .cell (some q))
      rw [e1]
      unfold Holds at h1
      rw [e4] at h1
      exact h1
theorem At.new {g₀ σ₀ s₀ g σ ρ s} {D:Addr} (h:St T G g₀ σ₀ s₀) (x:At C g₀ σ₀ s₀ g σ ρ s) (n:s.heap.get? D=none) (hp:D∉C.priv):s₀.heap.get? D=none:=by
  cases q:s₀.heap.get? D with
  |none=>rfl
  | some o=>
    by_cases ha:D∈g₀.act
    · have:D∈g.act:=by
        unfold Gh.act at ha ⊢
        rcases List.mem_append.mp ha with m |m
        · obtain ⟨k,hk,e⟩:=List.mem_iff_getElem.mp m
          exact List.mem_append_left _ (List.mem_of_getElem? (x.step.le.φ k D (by rw [List.getElem?_eq_getElem hk,e])))
        · obtain ⟨k,hk,e⟩:=List.mem_iff_getElem.mp m
          exact List.mem_append_right _ (List.mem_of_getElem? (x.step.le.ψ k D (by rw [List.getElem?_eq_getElem hk,e])))
      obtain⟨_,_,o',e⟩:=x.step.st.off D this
      rw [n] at e;cases e
    · have:=x.step.keep D o q ha hp
      rw [n] at this;cases this
theorem comp_core {e:Ex} (Ok:CompOk C fc scope cl cel src) (O:Okay T G.K) (KO:KOk T G n K) {vs ws:List V} {σ:Sg} {ρ ρt:List (Option V)} (hev: ∀(j:Nat) (v:V),vs[j]? =some v→ ∃w,ws[j]? =some w∧evalE T K fc (some v::ρt) e σ= .ok w σ) (hlen:ws.length=vs.length) (hsz:vs.length≤1000)
    (hl:ρt.length+1=fc.ns.length) (hρ: ∀i w,ρt[i]? =some (some w)→ρ[src (i+1)]? =some (some w)) {px pos:Pos} {iterE:PySem.Expr} {RR:Value→Addr→Result→Shared→Prop} {E:Value→Shared→Prop} {g g₁:Gh} {s s₂:Shared} (hs0:St T G g σ s)
    {I:Addr} {fp:List Addr} {P:Nat→Value→Prop} {Stt:Nat→Heap→Prop} (x:At C g σ s g₁ σ ρ s₂) (W:Walks PW G.w C.A I fp [I] vs.length P Stt)
    (hP: ∀j v w g,Gh.le g₁ g→P j v→vs[j]? =some w→Rep T G.w.params g w v) (hfp: ∀a∈fp,a=I∨ ∃o,g₁.F a=some o) (hlive: ∀j h,Stt j h→ ∃o,h.get? I=some o) (hst:Stt 0 s₂.heap) (hI0:s.heap.get? I=none) (hIF:g₁.F I=none) (hIA:I∉g₁.act) (hIfree:Free1 C I)
    (hRR: ∀D L g' s' m,At C g σ s g' σ ρ s'→Rep T G.w.params g' (.lst ws) (.ref D)→s'.heap.Ns L m→g'.F L=none→L∉g'.act→Free1 C L→s.heap.get? L=none→RR (.ref D) L (.ok .next) s'):
    wpAny (model PW G.w) C.A (newList []) (fun acc s₃=>wpAny (model PW G.w) C.A (newFunctionEnv scope C.env.globals cl [] C.env.qual none .none (some C.env)) (fun cenv s₄=>
      codeAny (model PW G.w) C.A (.compStart (.ListComp (erE T fc e) [⟨.Name (nmOf T fc.ns 0) px,iterE,[],0⟩] scope pos) 0 (.ref I) acc {cenv with scope:=relabel scope C.env}) (RR acc cenv.locals) s₄) E s₃) E s₂:=by
  refine wpAny_newObj_type (wpAny_newFunctionEnv Ok.nocell (by intro y hy;simp at hy) (fun h₁ hns₁ hsb₁=>?_) Ok.kind)
  dsimp only at hns₁ hsb₁ ⊢
  generalize hH2:s₂.heap.push {cls:= .type "list",dict:=none,data:= .seq ([] :List Value).toArray}=H2 at hns₁ hsb₁ ⊢
  have hC:H2.objs.size=s₂.heap.objs.size+1:=by rw [←hH2,Heap.size_push]
  obtain⟨D,hDdef⟩: ∃D,D=s₂.heap.objs.size:=⟨_,rfl⟩
  obtain⟨L,hLdef⟩: ∃L,L=H2.objs.size:=⟨_,rfl⟩
  rw [←hLdef] at hns₁ hsb₁ ⊢
  rw [←hDdef]
  have hLD:L=D+1:=by rw [hLdef,hC,hDdef]
  have hDL:D≠L:=by omega
  have old: ∀b o,s₂.heap.get? b=some o→h₁.get? b=some o:=fun b o e=>hsb₁.extBut b o (Nat.ne_of_lt (by rw [hLD,hDdef];exact Nat.lt_succ_of_lt (Heap.lt_size e))) (Heap.get?_push_of_some _ (hH2▸Heap.get?_push_of_some _ e))
  have nD:s₂.heap.get? D=none:=by rw [hDdef];exact none_size _
  have nL:s₂.heap.get? L=none:=by
    cases q:s₂.heap.get? L with
    |none=>rfl
    |some o=>exact absurd (Heap.lt_size q) (by rw [hLD,hDdef];exact Nat.not_lt.mpr (Nat.le_succ _))
  have st2:=x.step.st
  have fD:=x.fm.free1 st2 nD
  have fL:=x.fm.free1 st2 nL
  have hD0:=x.new hs0 nD fD.priv
  have hL0:=x.new hs0 nL fL.priv
  have x3:At C g σ s g₁ σ ρ {s₂ with heap:=h₁,toks:=s₂.toks+([] :List (Str×Value)).length}:=x.go (Step.grow st2 old rfl rfl)
  have celL: ∀i o a,C.cel i=some (o,a)→a≠L:=fun i o a q z=>by
    obtain⟨ob,v,h1,h2⟩:=(x.fm.cells i o a q).2
    rw [z,nL] at h1;cases h1
  obtain⟨ps,hps,hps'⟩: ∃ps:List Addr,(∀i a,cel i=some (true,a)→a∈ps)∧ ∀a∈ps,∃i,cel i=some (true,a):=by
    refine⟨(List.range fc.ns.length).filterMap fun i=>(cel i).map (·.2),fun i a q=>?_,fun a ha=>?_⟩
    · exact List.mem_filterMap.mpr ⟨i,List.mem_range.mpr (Ok.cell q).2.2.1,by rw [q];rfl⟩
    · obtain ⟨i,_,h2⟩:=List.mem_filterMap.mp ha
      obtain⟨⟨o,b⟩,h3,h4⟩:=Option.map_eq_some_iff.mp h2
      obtain rfl:=(Ok.cell h3).1
      exact⟨i,by rw [h3];exact congrArg some (Prod.ext rfl h4)⟩
  have nID:I≠D:=fun q=>by obtain⟨o,e⟩:=hlive _ _ hst;rw [q,nD] at e;cases e
  have nIL:I≠L:=fun q=>by obtain⟨o,e⟩:=hlive _ _ hst;rw [q,nL] at e;cases e
  have loop : codeAny (model PW G.w) C.A (.compLoop (.ListComp (erE T fc e) [⟨.Name (nmOf T fc.ns 0) px,iterE,[],0⟩] scope pos) 0 (.ref I) (.ref D) (compEnvC scope cl L C.env))
      (RR (.ref D) L) {s₂ with heap:=h₁,toks:=s₂.toks+([] :List (Str×Value)).length}:=by
    refine codeAny_compLoop_list (fun k s'=> ∃j g' ys m,j+k=vs.length∧At C g σ s g' σ ρ s'∧Gh.le g₁ g'∧Stt j s'.heap∧s'.heap.PlainList D ys∧RepL T G.w.params g' (ws.take j) ys.toList∧s'.heap.Ns L m∧
        (∀z,z=I∨z=D∨z=L→g'.F z=none∧z∉g'.act)) (fun k s' Iv=>?_) vs.length ?_
    · obtain ⟨j,g',ys,m,hj,x',le',hst',hDl,hys,hN,hz⟩:=Iv
      obtain⟨zI1,zI2⟩:=hz I (.inl rfl)
      obtain⟨zD1,zD2⟩:=hz D (.inr (.inl rfl))
      obtain⟨zL1,zL2⟩:=hz L (.inr (.inr rfl))
      cases k with
      | zero=>
        have hj':j=vs.length:=by omega
        subst hj'
        refine W.done s' _ _ hst' fun h' tk kp=>?_
        have xa:=x'.junk (t:=tk) (fun b o ne e=>kp b o (by simpa using ne) e) zI1 zI2 hIfree hI0
        obtain⟨c,hc⟩:=hDl
        have hD2:h'.get? D=some {cls:= .type "list",data:= .seq ys c}:=kp D _ (by simpa using Ne.symm nID) hc
        have xc:=xa.freeze hD2 zD2 fD hD0 zD1
        refine hRR D L _ _ m xc (rep_lst.mpr ⟨D,ys.toList,c,rfl,by simp [FH.put],?_⟩) (hN.at' fun o e=>kp _ o (by simpa using Ne.symm nIL) e) (by show(g'.F.put D _) L=none;unfold FH.put;rw [if_neg (Ne.symm hDL)];exact zL1) zL2 fL hL0
        rw [←hlen,List.take_length] at hys
        exact hys.mono (show Gh.le g' ⟨g'.F.put D _,g'.φ,g'.ψ⟩ from⟨FH.le_put zD1,fun _ _ e=>e,fun _ _ e=>e⟩)
      | succ k=>
        have hlt:j<vs.length:=by omega
        refine W.item j s' _ _ hlt hst' fun v h' tk hPv hst'' kp=>?_
        have xa:=x'.junk (t:=tk) (fun b o ne e=>kp b o (by simpa using ne) e) zI1 zI2 hIfree hI0
        have hv:=hP j v vs[j] g' le' hPv (List.getElem?_eq_getElem hlt)
        have hN':h'.Ns L m:=hN.at' fun o e=>kp _ o (by simpa using Ne.symm nIL) e
        refine assign_Name (wpAny_storeName_local (env:=compEnvC scope cl L C.env) (lookup_relabel_local Ok.x0) hN' (fun h'' hn'' hs''=>?_) (by show(((relabel scope C.env).kind== .class)||((relabel scope C.env).kind== .module&&_))=false;rw [show(relabel scope C.env).kind= .function from Ok.kind];rfl))
        have xb:=xa.junk (t:=tk+1) (h':=h'') (fun b o ne e=>hs''.extBut b o ne e) zL1 zL2 fL hL0
        have nbase:G.g₀.get? L=none:=fL.base
        obtain⟨oL,es,ep,hL1,hL2,hL3⟩:=id hn''
        have mL:Mine1 G g' h'' L:=⟨zL1,zL2,nbase,oL,hL1,fun vs e=>by rw [hL2] at e;cases e⟩
        have fm:=comp_fm (L:=L) (hL:=celL) (ps:=ps) (hps:=hps) Ok xb.fm hps' mL hn'' (show(if nmOf T fc.ns 0=nmOf T fc.ns 0 then some v else m (nmOf T fc.ns 0))=some v from if_pos rfl) hv hl hρ
        obtain⟨w,hw,hwe⟩:=hev j vs[j] (List.getElem?_eq_getElem hlt)
        refine ew_ok (C:=compCx Ok L celL ps hps) O KO hwe xb.step.st fm fun y g₂ s₂' st₂ r₂=>?_
        · have xc:=xb.go st₂
          obtain⟨oI,hI1⟩:=hlive _ _ hst''
          have hI2:h''.get? I=some oI:=hs''.extBut I _ nIL hI1
          obtain⟨c,hc⟩:=hDl
          have hD2:h''.get? D=some {cls:= .type "list",data:= .seq ys c}:=hs''.extBut D _ hDL (kp D _ (by simpa using Ne.symm nID) hc)
          have hD3:s₂'.heap.PlainList D ys:=⟨c,st₂.keep D _ hD2 zD2⟩
          have nI3:=st₂.newF I oI hI2 zI1 zI2
          have nI4:=st₂.newA I oI hI2 zI2
          have nD3:=st₂.newF D _ hD2 zD1 zD2
          have nD4:=st₂.newA D _ hD2 zD2
          have nL3:=st₂.newF L oL hL1 zL1 zL2
          have nL4:=st₂.newA L oL hL1 zL2
          have hsz':ys.size≤sizeLine:=by
            have:=hys.length
            rw [List.length_take] at this
            have e4:ys.toList.length=ys.size:=by simp
            have:(1000:Nat)≤sizeLine:=by decide
            omega
          refine wpAny_list_append_plain (hsz:=hsz') hD3 fun h₅ hl₅ hs₅=>?_
          have xd:=xc.junk (t:=s₂'.toks) (h':=h₅) (fun b o ne e=>hs₅.extBut b o ne e) nD3 nD4 fD hD0
          refine⟨k,Nat.lt_succ_self k,j+1,g₂,ys.push y,_,by omega,xd,le'.trans st₂.le,W.frame _ _ _ hst'' (fun b hb o ho=>?_),hl₅,?_,(hn''.at' fun o e=>hs₅.extBut _ o (Ne.symm hDL) (st₂.keep _ o e zL2)),?_⟩
          · have key:b≠L∧b≠D∧b∉g'.act:=by
              rcases hfp b hb with rfl |⟨o',ho'⟩
              · exact⟨nIL,nID,zI2⟩
              · have hb':=le'.F _ _ ho'
                refine⟨fun q=>?_,fun q=>?_,fun q=>?_⟩
                · rw [q,zL1] at hb';cases hb'
                · rw [q,zD1] at hb';cases hb'
                · rw [(x'.step.st.off b q).1] at hb';cases hb'
            exact hs₅.extBut b o key.2.1 (st₂.keep b o (hs''.extBut b o key.1 ho) key.2.2)
          · rw [Array.toList_push,show ws.take (j+1)=ws.take j++ [w] by rw [List.take_succ,hw];rfl]
            exact(hys.mono st₂.le).app (.cons r₂ .nil)
          · rintro z (rfl |rfl |rfl)
            · exact⟨nI3,nI4⟩
            · exact⟨nD3,nD4⟩
            · exact⟨nL3,nL4⟩
    · refine ⟨0,g₁,#[],_,Nat.zero_add _,x3,.refl _,W.frame _ _ _ hst fun b _ o e=>old b o e,⟨_,hsb₁.extBut _ _ hDL (Heap.get?_push_of_some _ (by rw [←hH2,hDdef];exact Heap.get?_push_size _ rfl))⟩,.nil,hns₁,?_⟩
      rintro z (rfl |rfl |rfl)
      · exact⟨hIF,hIA⟩
      · exact⟨st2.newF (by omega),st2.newA (by omega)⟩
      · exact⟨st2.newF (by omega),st2.newA (by omega)⟩
  exact codeAny_compStart_list loop (W.self 0 _ _ _ (W.frame _ _ _ hst fun b _ o e=>old b o e) loop)
noncomputable abbrev IterOk(C:Cx T G fn n)(g:Gh)(σ:Sg)(ρ:List (Option V))(s:Shared)(vs:List V)(iterE:PySem.Expr)(E:Value→Shared→Prop):Prop:=
  wpAny (model PW G.w) C.A (eval iterE C.env) (fun xv s₁=>wpAny (model PW G.w) C.A (pyIter xv) (fun it s₂=> ∃I fp P Stt g₁,it= .ref I∧At C g σ s g₁ σ ρ s₂∧Walks PW G.w C.A I fp [I] vs.length P Stt∧
      (∀j v w g,Gh.le g₁ g→P j v→vs[j]? =some w→Rep T G.w.params g w v)∧(∀a∈fp,a=I∨ ∃o,g₁.F a=some o)∧(∀j h,Stt j h→ ∃o,h.get? I=some o)∧Stt 0 s₂.heap∧s.heap.get? I=none∧g₁.F I=none∧I∉g₁.act∧Free1 C I) E s₁) E s
theorem comp_run{e:Ex}(Ok:CompOk C fc scope cl cel src)(O:Okay T G.K)(KO:KOk T G n K){vs ws:List V}{σ:Sg}{ρ ρt:List (Option V)}(hev: ∀(j:Nat) (v:V),vs[j]? =some v→ ∃w,ws[j]? =some w∧evalE T K fc (some v::ρt) e σ= .ok w σ)(hlen:ws.length=vs.length)(hsz:vs.length≤1000)
    (hl:ρt.length+1=fc.ns.length) (hρ: ∀i w,ρt[i]? =some (some w)→ρ[src (i+1)]? =some (some w)) {px pos:Pos} {iterE:PySem.Expr} {Q:Value→Shared→Prop} {E:Value→Shared→Prop} {g:Gh} {s:Shared} (hs0:St T G g σ s)
    (hit:IterOk C g σ ρ s vs iterE E) (hQ: ∀D g' s',At C g σ s g' σ ρ s'→Rep T G.w.params g' (.lst ws) (.ref D)→Q (.ref D) s') (hs: ∀x,foldedSetIterable iterE C.env x=pure x):
    wpAny (model PW G.w) C.A (eval (.ListComp (erE T fc e) [⟨.Name (nmOf T fc.ns 0) px,iterE,[],0⟩] scope pos) C.env) Q E s:=by
  rw [eval_ListComp]
  refine wpAny_comprehension_free (use:=none) rfl hs Ok.clos Ok.kind Ok.locs (wpAny_mono hit (fun xv s₁ h₁=>wpAny_mono h₁ (fun it s₂ h₂=>?_) fun _ _ e=>e) fun _ _ e=>e)
  obtain⟨I,fp,P,Stt,g₁,rfl,x,W,hP,hfp,hlive,hst,hI0,hIF,hIA,hIfree⟩:=h₂
  refine comp_core (RR:=fun acc L=>compPost (model PW G.w) C.A E none Q acc L) Ok O KO hev hlen hsz hl hρ hs0 x W hP hfp hlive hst hI0 hIF hIA hIfree fun D L g' s' m xa hr hN z1 z2 fL hL0=>?_
  exact⟨m,hN,fun h'' hs''=>hQ D g' _ (xa.junk (t:=s'.toks) (h':=h'') (fun b o ne e=>hs''.extBut b o ne e) z1 z2 fL hL0) hr⟩
theorem comp_use{e:Ex}(Ok:CompOk C fc scope cl cel src)(O:Okay T G.K)(KO:KOk T G n K){vs ws:List V}{σ:Sg}{ρ ρt:List (Option V)}(hev: ∀(j:Nat) (v:V),vs[j]? =some v→ ∃w,ws[j]? =some w∧evalE T K fc (some v::ρt) e σ= .ok w σ)(hlen:ws.length=vs.length)(hsz:vs.length≤1000)
    (hl:ρt.length+1=fc.ns.length) (hρ: ∀i w,ρt[i]? =some (some w)→ρ[src (i+1)]? =some (some w)) {px pos py spos:Pos} {iterE:PySem.Expr} {Q:Flow→Shared→Prop} {E:Value→Shared→Prop} {g:Gh} {s:Shared} (hs0:St T G g σ s) {i:Nat} (hi:i<ρ.length) (hci:C.cel i=none)
    (hsw:swapsWith (.ListComp (erE T fc e) [⟨.Name (nmOf T fc.ns 0) px,iterE,[],0⟩] scope pos) (some (.Name (nmOf T fn.ns i) py)) spos.line C.env=pure true)
    (hit:IterOk C g σ ρ s vs iterE E) (hQ: ∀g' s',At C g σ s g' σ (ρ.set i (some (.lst ws))) s'→Q .next s') (hs: ∀x,foldedSetIterable iterE C.env x=pure x):
    wpAny (model PW G.w) C.A (exec (.Assign [.Name (nmOf T fn.ns i) py] (.ListComp (erE T fc e) [⟨.Name (nmOf T fc.ns 0) px,iterE,[],0⟩] scope pos) spos) C.env) Q E s:=by
  rw [exec_Assign_Name_used _ _ _ _ hsw]
  refine wpAny_bind (wpAny_standAt (wpAny_bind ?_))
  show wpAny _ C.A (do let _ ←comprehension (.ListComp (erE T fc e) [⟨.Name (nmOf T fc.ns 0) px,iterE,[],0⟩] scope pos) scope C.env _ (newList []) false (eval iterE C.env) (some (assign (.Name (nmOf T fn.ns i) py) C.env))) _ _ s
  refine wpAny_bind (wpAny_mono (wpAny_comprehension_free (use:=some (assign (.Name (nmOf T fn.ns i) py) C.env)) (Q:=fun _ s'=>Q .next s') rfl hs Ok.clos Ok.kind Ok.locs
    (wpAny_mono hit (fun xv s₁ h₁=>wpAny_mono h₁ (fun it s₂ h₂=>?_) fun _ _ e=>e) fun _ _ e=>e)) (fun _ s' hq=>wpAny_pure (wpAny_pure hq)) fun _ _ e=>e)
  obtain⟨I,fp,P,Stt,g₁,rfl,x,W,hP,hfp,hlive,hst,hI0,hIF,hIA,hIfree⟩:=h₂
  refine comp_core (RR:=fun acc L=>compPost (model PW G.w) C.A E (some (assign (.Name (nmOf T fn.ns i) py) C.env)) (fun _ s'=>Q .next s') acc L) Ok O KO hev hlen hsz hl hρ hs0 x W hP hfp hlive hst hI0 hIF hIA hIfree fun D L g' s' m xa hr hN z1 z2 fL hL0=>?_
  show wpAny _ C.A (assign (.Name (nmOf T fn.ns i) py) C.env (.ref D)) _ _ _
  obtain⟨m₀,hm₀,hL₀⟩:=xa.fm.loc
  have hi':i<fn.ns.length:=by rw [←hL₀.1];exact hi
  have nLC:C.env.locals≠L:=fun q=>fL.priv (q▸C.privL)
  refine assign_Name (wpAny_storeName_local (C.loc i hi' hci) hm₀ (fun h₂ hn₂ hs₂=>?_) (by rw [C.kind];rfl))
  have xb:=xa.store (t:=s'.toks+1) hi hci hr hm₀ hL₀ (fun a o ne e=>hs₂.extBut a o ne e) hn₂ (fun y=>rfl)
  exact⟨m,hN.at' fun o e=>hs₂.extBut _ o (Ne.symm nLC) e,fun h₃ hs₃=>hQ g' _ (xb.junk (t:=s'.toks+1) (h':=h₃) (fun b o ne e=>hs₃.extBut b o ne e) z1 z2 fL hL0)⟩
end
end Mine
namespace Mine
section
variable {T:Tabs}{G:Gx}{fn:Fn}{n:Nat}{C:Cx T G fn n}{K:Nat→List V→Sg→R V}
theorem rng_iter{g g₁:Gh}{σ:Sg}{ρ:List (Option V)}{s s₁:Shared}{E:Value→Shared→Prop}(hs0:St T G g σ s)(x:At C g σ s g₁ σ ρ s₁){a b:Int}{k:Nat}(hk:b=a+k)(ha:0≤a)(hb:b≤1000){r:Addr}{t u v:Tok}(hr:IsRange s₁.heap r a b 1 t u v):
    wpAny (model PW G.w) C.A (pyIter (.ref r)) (fun it s₂=> ∃I fp P Stt g₁,it= .ref I∧At C g σ s g₁ σ ρ s₂∧Walks PW G.w C.A I fp [I] ((List.range k).map fun(i:Nat)=>V.int (a+i)).length P Stt∧
      (∀j v w g,Gh.le g₁ g→P j v→((List.range k).map fun(i:Nat)=>V.int (a+i))[j]? =some w→Rep T G.w.params g w v)∧(∀a∈fp,a=I∨ ∃o,g₁.F a=some o)∧(∀j h,Stt j h→ ∃o,h.get? I=some o)∧Stt 0 s₂.heap∧s.heap.get? I=none∧g₁.F I=none∧I∉g₁.act∧Free1 C I) E s₁:=by
  have hsz:Builtin.Range.rangeSize a b 1=(k:Int):=by rw [rangeSize_one];split<;>omega
  refine wpAny_pyIter_range hr (by
    have fit: ∀z:Int,0≤z→z≤1000→Builtin.Range.rangeFitsLong z=true:=fun z h1 h2=>by
      unfold Builtin.Range.rangeFitsLong
      simp
      omega
    unfold Builtin.Range.small
    simp only [hsz]
    rw [fit a (by omega) (by omega),fit b (by omega) (by omega),fit 1 (by omega) (by omega),fit k (by omega) (by omega),if_pos (show(1:Int)>0 by decide),show b+((1:Int)-1)=b by omega,fit b (by omega) hb]
    simp) ?_
  have st:=x.step.st
  have nI:=none_size s₁.heap
  have fI:=x.fm.free1 st nI
  have W:=(Walks.range (prog:=PW) (w:=G.w) C.handled s₁.heap.objs.size a 1 k).bound
  have hlen:((List.range k).map fun(i:Nat)=>V.int (a+i)).length=k:=by simp
  rw [←hlen] at W
  refine⟨s₁.heap.objs.size,_,_,_,g₁,rfl,x.go (Step.grow st (fun _ _ e=>Heap.get?_push_of_some _ e) rfl rfl),W,fun j v w g le hp hw=>?_,fun b hb=> .inl (by simpa using hb),fun j h h1=>⟨_,h1⟩,?_,x.new hs0 nI fI.priv,st.newF (Nat.le_refl _),st.newA (Nat.le_refl _),fI⟩
  · obtain ⟨hj,t,rfl⟩:=hp
    have:w= .int (a+j):=by
      rw [List.getElem?_map,List.getElem?_range (by simpa using hj)] at hw
      simpa using hw.symm
    subst this
    rw [show a+(j:Int)*1=a+j by omega];exact .int _ _
  · show IsRangeIter _ _ _ _ _
    rw [hsz]
    have:=Heap.get?_push_size s₁.heap (o:={cls:= .type "range_iterator",data:= .fields #[rawInt a,rawInt (k:Int),rawInt 1]}) rfl
    simpa using this
theorem iter_rng(O:Okay T G.K)(KO:KOk T G n K)(hout:C.out=true){i:Ex}{k:Nat}{σ:Sg}{ρ:List (Option V)}{g:Gh}{s:Shared}{E:Value→Shared→Prop}(hs0:St T G g σ s)(hf:Fm C g ρ s)(he:evalE T K fn ρ i σ= .ok (.rng k) σ)(hk:k≤1000):
    IterOk C g σ ρ s ((List.range k).map fun(i:Nat)=>V.int (0+i)) (erE T fn i) E:=by
  refine ew_ok O KO he hs0 hf fun v g₁ s₁ st r₁=>?_
  obtain⟨a,t,u,v,rfl,hF⟩:=rep_rng.mp r₁
  exact rng_iter hs0 ((At.refl hs0 hf).go st) (a:=0) (b:=k) (by omega) (by decide) (by omega) (st.st.fz _ _ hF)
theorem iter_rng2(O:Okay T G.K)(KO:KOk T G n K)(hout:C.out=true){f:Ex}{p1 p2 p:Pos}{k1 k2:Nat}{a b:Int}{k:Nat}{σ:Sg}{ρ:List (Option V)}{g:Gh}{s:Shared}{E:Value→Shared→Prop}(hs0:St T G g σ s)(hf:Fm C g ρ s)(hN:isN f=true)(he:evalE T K fn ρ f σ= .ok (.prim 1) σ)(hk:b=a+k)(ha:0≤a)(hb:b≤1000):
    IterOk C g σ ρ s ((List.range k).map fun(i:Nat)=>V.int (a+i)) (erE T fn (.call f [.int a k1 p1,.int b k2 p2] p)) E:=by
  have he':eval (erE T fn (.call f [.int a k1 p1,.int b k2 p2] p)) C.env=(do callWith p (←eval (erE T fn f) C.env) [] (backTo p (starEach (erL T fn [.int a k1 p1,.int b k2 p2]) C.env)) (backToKw p (keywordEach [] C.env))):=by
    cases f<;>first |rfl |exact no_true hN
  unfold IterOk
  rw [he']
  refine wpAny_bind (ew_ok O KO he hs0 hf fun v g₁ s₁ st r₁=>?_)
  obtain rfl:=rep_prim.mp r₁
  have x1:=(At.refl hs0 hf).go st
  refine call_with (lw_ok O KO (show evalEs T K fn ρ [.int a k1 p1,.int b k2 p2] σ= .ok (.tup [.int a,.int b]) σ from rfl) x1.step.st x1.fm fun rs g₂ s₂ st₂ r₂=>?_)
  obtain⟨r,q,rfl,h1,h2⟩:=repL_two r₂
  obtain⟨t,rfl⟩:=rep_int.mp h1
  obtain⟨u,rfl⟩:=rep_int.mp h2
  refine⟨⟨.machine,.inr (.inl rfl),Looks.of_pure rfl⟩,?_⟩
  have x2:=x1.go st₂
  refine call_range_2 ?_
  have x3:=x2.go (Step.grow (s':={s₂ with heap:=s₂.heap.push {cls:= .type "range",data:= .fields #[.int a t,.int b u,.int 1 s₂.toks]},toks:=s₂.toks+1}) x2.step.st (fun _ _ e=>Heap.get?_push_of_some _ e) rfl rfl)
  exact rng_iter hs0 x3 hk ha hb (IsRange.new ..)
end
end Mine
namespace Mine
section
variable {T:Tabs}{G:Gx}{fn:Fn}{n:Nat}{C:Cx T G fn n}{K:Nat→List V→Sg→R V}
theorem ss_then(O:Okay T G.K)(KO:KOk T G n K)(RO:RaiseOk T G)(hout:C.out=true)(hi:interactive C.env=false)(W: ∀i,C.own i){rest:List Stmt}{Q:Flow→Shared→Prop}{E:Value→Shared→Prop}{o:Out}{σ':Sg}: ∀(ss:List Sx),plainSs ss=true→ ∀(ρ:List (Option V)) (σ:Sg),evalSs T K fn ss ρ σ= .ok o σ'→ ∀(g:Gh) (s:Shared),St T G g σ s→Fm C g ρ s→
    (∀ρ',o= .next ρ'→ ∀g₁ s₁,At C g σ s g₁ σ' ρ' s₁→wpAny (model PW G.w) C.A (execs rest C.env) Q E s₁)→(∀x,o= .ret x→ ∀v g₁ s₁,StepL T G C.priv g σ s g₁ σ' s₁→Rep T G.w.params g₁ x v→Q (.ret v) s₁)→
    wpAny (model PW G.w) C.A (execs (erSs T fn ss++rest) C.env) Q E s
  | [],_,ρ,σ,he,g,s,hs,hf,k1,k2=>by
    cases (he:R.ok (Out.next ρ) σ= .ok o σ')
    exact k1 _ rfl _ _ (At.refl hs hf)
  | st::ss,hp,ρ,σ,he,g,s,hs,hf,k1,k2=>by
    obtain⟨a,σ₁,e,he⟩:=bind_ok he
    show wpAny _ _ (execs (erS T fn st::(erSs T fn ss++rest)) C.env) _ _ _
    refine wpAny_execs_cons (soundS O KO RO C hi W st (fun _=>(Bool.and_eq_true _ _▸(hp:(plainS st&&plainSs ss)=true)).1) (At.refl hs hf) ?_)
    rw [e]
    cases a with
    |next ρ₁=>exact fun g₁ s₁ x=>ss_then O KO RO hout hi W ss (Bool.and_eq_true _ _▸(hp:(plainS st&&plainSs ss)=true)).2 ρ₁ σ₁ he g₁ s₁ x.step.st x.fm (fun ρ' q g₂ s₂ y=>k1 ρ' q g₂ s₂ ⟨x.step.trans y.step,y.fm⟩) fun v q r g₂ s₂ y=>k2 v q r g₂ s₂ (x.step.trans y)
    | ret v=>
      cases (he:R.ok (Out.ret v) σ₁= .ok o σ')
      exact fun g₁ s₁ r x=>k2 v rfl r g₁ s₁ x
end
end Mine
namespace Mine
noncomputable def lawKinds:List (Str×NameKind):=(f_law.ns.mapIdx fun i k=>(nmT k,if f_law.cl.contains i then NameKind.cell else NameKind.local))++f_law.gs.map fun k=>(nmT k,NameKind.globalImplicit)
noncomputable def lawMore:List (Str×Const):=match defOf (view PW [138]) (Str.ofString "law") with
  |some (d,_)=>d.scope.more
  |none=> []
noncomputable def lawScope:Scope:={kind:= .function,names:=lawKinds,isGenerator:=false,isCoroutine:=false,more:=lawMore}
noncomputable def lawTb:List (Nat×Nat):= [(6,1),(10,2),(13,3),(14,4),(15,5),(16,6),(17,7),(18,8)]
noncomputable def lawCel(L:Addr)(i:Nat):Option (Bool×Addr):=(lawTb.lookup i).map fun k=>(true,L+k)
noncomputable def lawCells(L:Addr):List (Str×Addr):= [(nmT 32,L+8),(nmT 59,L+7),(nmT 28,L+6),(nmT 314,L+5),(nmT 147,L+4),(nmT 313,L+3),(nmT 112,L+2),(nmT 258,L+1)]
theorem lw_cells(L:Addr):cellsFrom (L+1) lawKinds [] =lawCells L:=by kernel_rfl
theorem lw_kinds:((List.range 19).all fun i=>match lawCel 0 i with |none=>hasKind lawScope .local (nmOf TT f_law.ns i)|some _=>hasKind lawScope .cell (nmOf TT f_law.ns i))=true:=by kernel_rfl
theorem lw_gkinds:(f_law.gs.all fun k=>hasKind lawScope .globalImplicit (TT.nm k))=true:=by kernel_rfl
theorem lw_glo:f_law.gs.map (fun k=>tab1 k gloT)=f_law.gv.map some:=by kernel_rfl
theorem lw_super:hasKind lawScope .globalImplicit "super"=false:=by kernel_rfl
theorem lawCel_iff{L:Addr}{i:Nat}:(lawCel L i).isSome=(lawCel 0 i).isSome:=(Option.isSome_map ..).trans (Option.isSome_map ..).symm
theorem lawCel_none{L:Addr}{i:Nat}(h:lawCel L i=none):lawCel 0 i=none:=Option.map_eq_none_iff.mpr (Option.map_eq_none_iff.mp h)
theorem mem_lookup{k:Nat}{v:Nat}: ∀{l:List (Nat×Nat)},l.lookup k=some v→(k,v)∈l
  | (a,b)::l,h=>by
    rw [List.lookup_cons] at h
    cases q:k==a with
    |true=>rw [q] at h;cases h;rw [beq_iff_eq.mp q];exact .head _
    |false=>rw [q] at h;exact .tail _ (mem_lookup h)
theorem lawCel_tb{L:Addr}{i:Nat}{o:Bool}{a:Addr}(h:lawCel L i=some (o,a)): ∃k,lawTb.lookup i=some k∧o=true∧a=L+k:=by
  obtain⟨k,e,q⟩:=Option.map_eq_some_iff.mp h
  cases q
  exact⟨k,e,rfl,rfl⟩
theorem lawTb_all{P:Nat→Nat→Prop}(h: ∀p∈lawTb,P p.1 p.2){i k:Nat}(e:lawTb.lookup i=some k):P i k:=h _ (mem_lookup e)
theorem lawTb_in{i k:Nat}(e:lawTb.lookup i=some k):i<19∧1≤k∧k≤8:=lawTb_all (P:=fun i k=>i<19∧1≤k∧k≤8) (by decide) e
theorem lawCel_inj{L:Addr}{i j:Nat}{o o':Bool}{a:Addr}(h:lawCel L i=some (o,a))(h':lawCel L j=some (o',a)):i=j:=by
  obtain⟨k,e,-,q⟩:=lawCel_tb h
  obtain⟨k',e',-,q'⟩:=lawCel_tb h'
  obtain rfl:=Nat.add_left_cancel (q.symm.trans q')
  exact(by decide: ∀p∈lawTb,∀p'∈lawTb,p.2=p'.2→p.1=p'.1) _ (mem_lookup e) _ (mem_lookup e') rfl
theorem lw_at{L:Addr}{i:Nat}{o:Bool}{a:Addr}(h:lawCel L i=some (o,a)):(lawCells L).lookup (nmOf TT f_law.ns i)=some a:=by
  obtain⟨k,e,-,rfl⟩:=lawCel_tb h
  refine lawTb_all (P:=fun i k=>(lawCells L).lookup (nmOf TT f_law.ns i)=some (L+k)) ?_ e
  simp only [lawTb,List.forall_mem_cons]
  exact⟨by kernel_rfl,by kernel_rfl,by kernel_rfl,by kernel_rfl,by kernel_rfl,by kernel_rfl,by kernel_rfl,by kernel_rfl,fun _ h=>nomatch h⟩
theorem lw_cl:((List.range 19).all fun i=>f_law.cl.contains i==(lawCel 0 i).isSome)=true:=by kernel_rfl
theorem lw_nodup:f_law.ns.Nodup:=by decide
noncomputable abbrev lawFd(params:Arguments)(body:List Stmt)(pm cd doc:Value):FuncData:=docDef "law" params body lawScope pm cd doc
noncomputable def lawEnv(fd:FuncData)(L a:Addr):PySem.Env:=callEnvC fd L a
noncomputable def lawCx{G:Gx}(hK:G.K=KP G.w.params)(fd:FuncData)(hs:fd.scope=lawScope)(hg:fd.globals=mainGlobals)(hb:fd.builtins=builtinsNs)(L a:Addr):Cx TT G f_law 30 where
  A:=callerA.deeper (lawEnv fd L a)
  env:=lawEnv fd L a
  outer:= []
  frs:= [lawEnv fd L a]
  out:=true
  cel:=lawCel L
  priv:=(List.range 9).map (L+ ·)
  frames:=Around.frames_deeper rfl
  hfrs:=fun h=>by cases h
  handled:=rfl
  kind:=by show fd.scope.kind=_;rw [hs];rfl
  glob:=hg
  blt:=hb
  frame:=fun h=>by cases h
  loc:=fun i hi h=>by
    have:=lw_kinds
    rw [List.all_eq_true] at this
    have z:=this i (List.mem_range.mpr hi)
    have hn:lawCel 0 i=none:=lawCel_none h
    simp only [hn] at z
    show fd.scope.names.lookup _=_
    rw [hs];exact hasKind_iff.mp z
  cll :=fun i o a' hi h=>by
    have:=lw_kinds
    rw [List.all_eq_true] at this
    have z:=this i (List.mem_range.mpr hi)
    obtain⟨k,e,rfl,-⟩:=lawCel_tb h
    simp only [show lawCel 0 i=some (true,0+k) from congrArg (Option.map _) e] at z
    refine⟨?_,?_⟩
    · show fd.scope.names.lookup _=_
      rw [hs];exact hasKind_iff.mp z
    · show (cellsFrom (L+1) fd.scope.names []).lookup _=_
      rw [hs];show(cellsFrom (L+1) lawKinds []).lookup _=_
      rw [lw_cells];exact lw_at h
  clIn:=fun i hi=>by
    have:=lw_cl
    rw [List.all_eq_true] at this
    have z:=this i (List.mem_range.mpr hi)
    rw [beq_iff_eq] at z
    exact z.trans lawCel_iff.symm
  clNe:=fun i o a' h=>by
    obtain⟨k,e,-,rfl⟩:=lawCel_tb h
    exact Nat.ne_of_gt (Nat.lt_add_of_pos_right (lawTb_in e).2.1)
  clInj:=fun i j o o' a' h h'=>lawCel_inj h h'
  privL:= .head _
  privC:=fun i a' h=>by
    obtain⟨k,e,-,rfl⟩:=lawCel_tb h
    exact List.mem_map.mpr ⟨k,lawTb_all (P:=fun _ k=>k∈List.range 9) (by decide) e,rfl⟩
  privO:=fun i a' h=>by obtain⟨k,-,q,-⟩:=lawCel_tb h;cases q
  hidP:=fun h=>by cases h
  glo :=fun i v h=>by
    have hi:i<f_law.gv.length:=(List.getElem?_eq_some_iff.mp h).1
    have hi':i<f_law.gs.length:=hi
    have hm:f_law.gs.getD i 0∈f_law.gs:=by rw [List.getD_eq_getElem?_getD,List.getElem?_eq_getElem hi'];exact List.getElem_mem hi'
    refine⟨?_,?_⟩
    · have:=lw_gkinds
      rw [List.all_eq_true] at this
      show fd.scope.names.lookup _=_
      rw [hs];exact hasKind_iff.mp (this _ hm)
    · rw [hK]
      refine glo_ok G.w.params _ v ?_
      have:=congrArg (fun l=>l[i]?) lw_glo
      simp only [List.getElem?_map,h,Option.map_some,List.getElem?_eq_getElem hi',Option.some.injEq] at this
      rw [List.getD_eq_getElem?_getD,List.getElem?_eq_getElem hi']
      exact this
  nosup:=fun q=>by
    have h:fd.scope.names.lookup ("super":Str)=some .globalImplicit:=q
    rw [hs] at h
    have:=hasKind_iff.mpr h
    rw [lw_super] at this;cases this
  nodbg:=fun k=>((prog_ok G.w.params).dbg k).1
  nocd:=fun k=>((prog_ok G.w.params).dbg k).2
  inj:=fun i j hi hj e=>by
    have:=(prog_ok G.w.params).okay.tab.inj _ _ e
    rw [List.getD_eq_getElem?_getD,List.getD_eq_getElem?_getD,List.getElem?_eq_getElem hi,List.getElem?_eq_getElem hj] at this
    exact(List.getElem_inj lw_nodup).mp this
  depth:=by show callerA.depth+1+2*30≤800;rw [depth_caller];decide
  units:=by show callerA.units+3+8*30≤800;rw [units_caller];decide
end Mine
namespace Mine
noncomputable def gh0(G:Gx):Gh:=⟨fun a=>if a=G.tab then none else G.g₀.get? a,[],[]⟩
theorem st0{G:Gx}{s:Shared}(hs:s.heap=G.g₀)(hg:s.gens= #[])(ho:s.os=G.os₀):St TT G (gh0 G) ⟨[],[]⟩ s:=by
  refine⟨⟨fun a o e=>?_,fun o k m e=>?_,rfl,rfl,.nil,fun a m=>(by cases m),fun a o e h=>?_,?_,fun k m e=>(by simp at e)⟩,hg,ho⟩
  · simp only [gh0] at e
    split at e
    · cases e
    · rw [hs];exact e
  · cases o<;>simp [Sg.get] at e
  · simp only [gh0];rw [if_neg h];exact e
  · rw [hs];exact G.tabL
section
variable {G:Gx}(hK:G.K=KP G.w.params){fd:FuncData}(hs:fd.scope=lawScope)(hg:fd.globals=mainGlobals)(hb:fd.builtins=builtinsNs){L a:Addr}
theorem law_enter {s s₁:Shared} (h0:s.heap=G.g₀) (st:St TT G (gh0 G) ⟨[],[]⟩ s) {v:V} {r:Value} (hr:Rep TT G.w.params (gh0 G) v r) (hL:L=s.heap.objs.size) {cm:Str→Option Value}
    (x:InCallC s L (fun y=>if y=nmT 212 then some r else none) (lawEnv fd L a).cells cm s₁):St TT G (gh0 G) ⟨[],[]⟩ s₁∧Fm (lawCx hK fd hs hg hb L a) (gh0 G) (some v::List.replicate 18 none) s₁:=by
  obtain⟨h',tk,rfl,hk⟩:=x.done
  have gr:=Step.grow (s':={s with heap:=h',toks:=tk}) st hk rfl rfl
  have above: ∀b,L≤b→(gh0 G).F b=none∧b∉(gh0 G).act∧G.g₀.get? b=none:=fun b hb=>⟨st.newF (by rw [←hL];exact hb),st.newA (by rw [←hL];exact hb),Heap.get?_none_of_le (by rw [←h0,←hL];exact hb)⟩
  obtain⟨oL,es,ep,hL1,hL2,hL3⟩:=id x.toInCall.ns
  have cells: ∀i o b,lawCel L i=some (o,b)→L≤b∧ ∃ob v,h'.get? b=some ob∧ob.data= .cell v:=fun i o b e=>by
    obtain⟨k,q,-,rfl⟩:=lawCel_tb e
    refine⟨Nat.le_add_right _ _,?_⟩
    have hi:i<f_law.ns.length:=(lawTb_in q).1
    have hl:=((lawCx hK fd hs hg hb L a).cll i o _ hi e).2
    obtain⟨ob,q1,q2⟩:=x.cell _ _ hl
    exact⟨ob,_,q1,q2⟩
  have knd:(lawEnv fd L a).scope.kind≠ .module:=by rw [show(lawEnv fd L a).scope.kind= .function from(lawCx hK fd hs hg hb L a).kind];exact fun q=>(by cases q)
  refine⟨gr.st,⟨⟨⟨knd,⟨L,oL,rfl,(above L (Nat.le_refl _)).2.2,hL1,fun vs e=>(by rw [hL2] at e;cases e)⟩,trivial⟩,fun b m=>?_⟩,fun b m=>?_,fun i o b e=>?_,_,x.toInCall.ns,rfl,fun i w e=>?_⟩⟩
  · have:b=L:=by simpa [lawCx,lawEnv,callEnvC,newEnv] using m
    subst this
    exact⟨(above b (Nat.le_refl _)).1,(above b (Nat.le_refl _)).2.1⟩
  · by_cases q:b=L
    · subst q
      obtain⟨z1,z2,z3⟩:=above b (Nat.le_refl _)
      exact⟨z1,z2,z3,oL,hL1,fun vs e=>by rw [hL2] at e;cases e⟩
    · have: ∃i,lawCel L i=some (true,b):=by
        have m':b∈ [L,L+1,L+2,L+3,L+4,L+5,L+6,L+7,L+8] :=m
        simp only [List.mem_cons,List.not_mem_nil,or_false] at m'
        rcases m' with h |h |h |h |h |h |h |h |h
        · exact absurd h q
        · exact⟨6,by rw [h];rfl⟩
        · exact⟨10,by rw [h];rfl⟩
        · exact⟨13,by rw [h];rfl⟩
        · exact⟨14,by rw [h];rfl⟩
        · exact⟨15,by rw [h];rfl⟩
        · exact⟨16,by rw [h];rfl⟩
        · exact⟨17,by rw [h];rfl⟩
        · exact⟨18,by rw [h];rfl⟩
      obtain⟨i,e⟩:=this
      obtain⟨c1,ob,c2,c3,c4⟩:=cells i true b e
      obtain⟨z1,z2,z3⟩:=above b c1
      exact⟨z1,z2,z3,ob,c3,fun vs q=>by rw [c4] at q;cases q⟩
  · obtain ⟨c1,ob,c2,c3,c4⟩:=cells i o b e
    obtain⟨z1,z2,z3⟩:=above b c1
    exact⟨⟨z1,z2,z3,ob,c3,fun vs q=>by rw [c4] at q;cases q⟩,ob,c2,c3,c4⟩
  · cases i with
    | zero=>
      simp only [List.getElem?_cons_zero,Option.some.injEq] at e
      subst e
      refine⟨r,?_,hr⟩
      show(if nmOf TT f_law.ns 0=nmT 212 then some r else none)=some r
      exact if_pos rfl
    | succ i=>
      rw [List.getElem?_cons_succ,List.getElem?_replicate] at e
      split at e<;>simp at e
end
end Mine
namespace Mine
section
variable {G:Gx}(hK:G.K=KP G.w.params){fd:FuncData}(hs:fd.scope=lawScope)(hg:fd.globals=mainGlobals)(hb:fd.builtins=builtinsNs){L a:Addr}
noncomputable abbrev LC{G:Gx}(hK:G.K=KP G.w.params){fd:FuncData}(hs:fd.scope=lawScope)(hg:fd.globals=mainGlobals)(hb:fd.builtins=builtinsNs)(L a:Addr):Cx TT G f_law 30:=lawCx hK fd hs hg hb L a
noncomputable def scope1:Scope:={kind:= .function,names:= [(Str.ofString ".0",.local),(nmT 216,.local),(nmT 258,.free),(nmT 112,.free)],isGenerator:=false,isCoroutine:=false,more:= []}
noncomputable def scope3:Scope:={kind:= .function,names:= [(Str.ofString ".0",.local),(nmT 53,.local)],isGenerator:=false,isCoroutine:=false,more:= []}
noncomputable def cel1(L:Addr):Nat→Option (Bool×Addr)
  |1=>some (true,L+1)
  |2=>some (true,L+2)
  |_=>none
noncomputable def src1:Nat→Nat
  |1=>6
  |2=>10
  |_=>0
include hK hs hg hb in
theorem lw_kc(i:Nat)(o:Bool)(b:Addr)(hi:i<19)(h:lawCel L i=some (o,b)):(lawEnv fd L a).kindOf (nmOf TT f_law.ns i)=some .cell∧(lawEnv fd L a).cells.lookup (nmOf TT f_law.ns i)=some b:=by
  obtain⟨h1,h2⟩:=(LC hK hs hg hb L a).cll i o b hi h
  obtain⟨k,-,rfl,-⟩:=lawCel_tb h
  exact⟨h1,h2⟩
theorem rl1(hk:(lawEnv fd L a).scope.kind= .function)(h1:(lawEnv fd L a).kindOf (nmT 258)=some .cell)(h2:(lawEnv fd L a).kindOf (nmT 112)=some .cell):
    (relabel scope1 (lawEnv fd L a)).names= [(Str.ofString ".0",.local),(nmT 216,.local),(nmT 258,.cell),(nmT 112,.cell)] :=by
  simp [relabel,scope1,hk,h1,h2]
theorem lk1:List.lookup (nmT 258) [(Str.ofString ".0",NameKind.local),(nmT 216,.local),(nmT 258,.cell),(nmT 112,.cell)] =some .cell:=by kernel_rfl
theorem lk2:List.lookup (nmT 112) [(Str.ofString ".0",NameKind.local),(nmT 216,.local),(nmT 258,.cell),(nmT 112,.cell)] =some .cell:=by kernel_rfl
theorem lk3:List.lookup ("super":Str) [(Str.ofString ".0",NameKind.local),(nmT 216,.local),(nmT 258,.cell),(nmT 112,.cell)] =none:=by kernel_rfl
theorem lk4:scope1.names.lookup (nmT 216)=some .local:=by kernel_rfl
theorem lk5(L:Addr):List.lookup (nmT 258) [(nmT 112,L+2),(nmT 258,L+1)] =some (L+1):=by kernel_rfl
theorem lk6(L:Addr):List.lookup (nmT 112) [(nmT 112,L+2),(nmT 258,L+1)] =some (L+2):=by kernel_rfl
theorem lk7:List.lookup (Str.ofString ".0") scope1.names=some .local:=by kernel_rfl
theorem nn:nmT 216≠nmT 258∧nmT 216≠nmT 112∧nmT 258≠nmT 112:=by decide+kernel
theorem clo1(h1:(lawEnv fd L a).cells.lookup (nmT 258)=some (L+1))(h2:(lawEnv fd L a).cells.lookup (nmT 112)=some (L+2)):closureFor scope1 (lawEnv fd L a)=pure [(nmT 112,L+2),(nmT 258,L+1)] :=by
  simp only [closureFor,scope1,cellOf]
  simp only [List.forIn_cons,List.forIn_nil,h1,h2]
  rfl
include hK hs hg hb in
theorem comp1Ok:CompOk (LC hK hs hg hb L a) f_lc1 scope1 [(nmT 112,L+2),(nmT 258,L+1)] (cel1 L) src1:=by
  obtain⟨k1,c1⟩:=lw_kc hK hs hg hb (a:=a) (L:=L) 6 true (L+1) (by decide) rfl
  obtain⟨k2,c2⟩:=lw_kc hK hs hg hb (a:=a) (L:=L) 10 true (L+2) (by decide) rfl
  have hk:(lawEnv fd L a).scope.kind= .function:=(LC hK hs hg hb L a).kind
  have r:=rl1 (fd:=fd) (L:=L) (a:=a) hk k1 k2
  refine⟨rfl,?_,?_,lk4,rfl,by decide,clo1 c1 c2,?_,?_,?_,?_,fun i v e=>by simp [f_lc1] at e,?_,?_⟩
  · intro y hy
    simp only [scope1,List.mem_cons,List.not_mem_nil,or_false] at hy
    rcases hy with rfl |rfl |rfl |rfl<;>exact fun q=>(by cases q)
  · intro y hy hl
    simp only [scope1,List.mem_cons,List.not_mem_nil,or_false] at hy
    rcases hy with rfl |rfl |rfl |rfl
    · exact lk7
    · exact lk4
    · cases hl
    · cases hl
  · intro i h0 hi
    have hi':i<3:=hi
    have:i=1∨i=2:=by omega
    rcases this with rfl |rfl
    · exact⟨L+1,rfl,by show(relabel scope1 (lawEnv fd L a)).names.lookup _=_;rw [r];exact lk1,lk5 L,rfl⟩
    · exact⟨L+2,rfl,by show(relabel scope1 (lawEnv fd L a)).names.lookup _=_;rw [r];exact lk2,lk6 L,rfl⟩
  · intro i hi
    have hi':3≤i:=hi
    unfold cel1
    split<;>first |rfl |(exfalso;omega)
  · intro i hi
    have hi':i<3:=hi
    have:i=0∨i=1∨i=2:=by omega
    rcases this with rfl |rfl |rfl<;>rfl
  · intro i j o o' b h h'
    unfold cel1 at h h'
    split at h<;>split at h'<;>simp only [Option.some.injEq,Prod.mk.injEq,reduceCtorEq] at h h'<;>first |rfl |(exfalso;obtain⟨_,rfl⟩:=h;obtain⟨_,q⟩:=h';exact absurd (Nat.add_left_cancel q) (by decide))
  · show (relabel scope1 (lawEnv fd L a)).names.lookup _≠_
    rw [r,lk3];exact fun q=>(by cases q)
  · intro i j hi hj e
    have hi':i<3:=hi
    have hj':j<3:=hj
    obtain⟨n1,n2,n3⟩:=nn
    have a1:i=0∨i=1∨i=2:=by omega
    have a2:j=0∨j=1∨j=2:=by omega
    rcases a1 with rfl |rfl |rfl<;>rcases a2 with rfl |rfl |rfl<;>first |rfl |exact absurd e n1 |exact absurd e n2 |exact absurd e n3 |exact absurd e.symm n1 |exact absurd e.symm n2 |exact absurd e.symm n3
theorem lk8:scope3.names.lookup (nmT 53)=some .local:=by kernel_rfl
theorem lk9:List.lookup (Str.ofString ".0") scope3.names=some .local:=by kernel_rfl
theorem lk10:List.lookup ("super":Str) scope3.names=none:=by kernel_rfl
include hK hs hg hb in
theorem comp3Ok:CompOk (LC hK hs hg hb L a) f_lc3 scope3 [] (fun _=>none) (fun i=>i):=by
  have r:(relabel scope3 (lawEnv fd L a)).names=scope3.names:=by simp [relabel,scope3]
  refine⟨rfl,?_,?_,lk8,rfl,by decide,closureFor_none ?_,?_,fun _ _=>rfl,?_,fun i j o o' b h=>(by cases h),fun i v e=>by simp [f_lc3] at e,?_,?_⟩
  · intro y hy
    simp only [scope3,List.mem_cons,List.not_mem_nil,or_false] at hy
    rcases hy with rfl |rfl<;>exact fun q=>(by cases q)
  · intro y hy hl
    simp only [scope3,List.mem_cons,List.not_mem_nil,or_false] at hy
    rcases hy with rfl |rfl
    · exact lk9
    · exact lk8
  · intro y hy
    simp only [scope3,List.mem_cons,List.not_mem_nil,or_false] at hy
    rcases hy with rfl |rfl<;>exact fun q=>(by cases q)
  · intro i h0 hi
    have hi':i<1:=hi
    omega
  · intro i hi
    have hi':i<1:=hi
    have:i=0:=by omega
    subst this;rfl
  · show (relabel scope3 (lawEnv fd L a)).names.lookup _≠_
    rw [r,lk10];exact fun q=>(by cases q)
  · intro i j hi hj e
    have hi':i<1:=hi
    have hj':j<1:=hj
    omega
end
end Mine
namespace Mine
theorem okG{G:Gx}(hK:G.K=KP G.w.params):Okay TT G.K:=by rw [hK];exact(prog_ok G.w.params).okay
noncomputable abbrev vs3:List V:=(List.range 3).map fun(i:Nat)=>V.int (0+i)
theorem hev3{n:Nat}{pre own:List Cell}{m:M}{home x0 x1 x2:Int}{e:Ex}(he:e=e_lc1∨e=e_lc2)(ho:Oct m.held)(r0:rd8 m.held (home+0)=x0)(r1:rd8 m.held (home+8)=x1)(r2:rd8 m.held (home+16)=x2):
    ∀(j:Nat) (v:V),vs3[j]? =some v→ ∃w,[V.int x0,.int x1,.int x2][j]? =some w∧evalE TT (call TT (n+30)) f_lc1 (some v:: [some (.int home),some (St9 pre)]) e (S pre own m)= .ok w (S pre own m):=by
  have hh: ∀{j:Int},evalE TT (call TT (n+30)) f_lc1 [some (.int j),some (.int home),some (St9 pre)] e (S pre own m)= .ok (.int (rd8 m.held (home+8*j))) (S pre own m):=by
    intro j;rcases he with rfl |rfl
    · exact lc_read ho
    · exact lc_read' ho
  intro j v hv
  match j,hv with
  |0,hv=>obtain rfl:V.int 0=v:=Option.some.inj hv;exact⟨_,rfl,by rw [←r0];exact hh⟩
  |1,hv=>obtain rfl:V.int 1=v:=Option.some.inj hv;exact⟨_,rfl,by rw [←r1];exact hh⟩
  |2,hv=>obtain rfl:V.int 2=v:=Option.some.inj hv;exact⟨_,rfl,by rw [←r2];exact hh⟩
  |j+3,hv=>exact nomatch (hv:(none:Option V)=some v)
noncomputable abbrev vs11:List V:=(List.range 11).map fun(i:Nat)=>V.int (5+i)
theorem hev11{n:Nat}{σ:Sg}: ∀(j:Nat) (v:V),vs11[j]? =some v→ ∃w,restL[j]? =some w∧evalE TT (call TT (n+30)) f_lc3 (some v:: []) e_lc3 σ= .ok w σ:=by
  intro j v hv
  rw [List.getElem?_map] at hv
  obtain⟨i,hi,rfl⟩:=Option.map_eq_some_iff.mp hv
  exact⟨.int (1000003*(5+(i:Int))+17),by rw [show restL=(List.range 11).map fun(i:Nat)=>V.int (1000003*(5+i)+17) from rfl,List.getElem?_map,hi];rfl,lc_num⟩
section
variable {G:Gx}(hK:G.K=KP G.w.params){fd:FuncData}(hs:fd.scope=lawScope)(hg:fd.globals=mainGlobals)(hb:fd.builtins=builtinsNs){L a:Addr}
include hK hs hg hb in
theorem law_hi:interactive (LC hK hs hg hb L a).env=false:=by unfold interactive;rw [(LC hK hs hg hb L a).kind];rfl
include hK hs hg hb in
theorem law_own: ∀i,(LC hK hs hg hb L a).own i:=fun i b e=>by
  have e':lawCel L i=some (false,b):=e
  obtain⟨k,-,q,-⟩:=lawCel_tb e'
  cases q
theorem lk11:(scope1.names.any fun(n,k)=>n==nmT 311&&(k== .local||k== .cell))=false:=by kernel_rfl
theorem ev_i1{n:Nat}{ρ:List (Option V)}{σ:Sg}:evalE TT (call TT (n+30)) f_law ρ i_lc1 σ= .ok (.rng 3) σ:=rfl
theorem ev_i2{n:Nat}{ρ:List (Option V)}{σ:Sg}:evalE TT (call TT (n+30)) f_law ρ i_lc2 σ= .ok (.rng 3) σ:=rfl
theorem law_s10{d:Drawn}(x:DrawnOk d){sc:V}{g:Gh}{s:Shared}(hst:St TT G g (S d.pre [] (m0 d.f d.s d.t d.home)) s)(hf:Fm (LC hK hs hg hb L a) g (d.ρ sc) s){Q:Flow→Shared→Prop}{E:Value→Shared→Prop}
    (k: ∀g' s',At (LC hK hs hg hb L a) g (S d.pre [] (m0 d.f d.s d.t d.home)) s g' (S d.pre [] (m0 d.f d.s d.t d.home)) ((d.ρ sc).set 11 (some d.kept)) s'→Q .next s'):
    wpAny (model PW G.w) (LC hK hs hg hb L a).A (exec s_law10 (LC hK hs hg hb L a).env) Q E s:=by
  have hp:Pre (d.env x.h0 x.h1) (m0 d.f d.s d.t d.home) 32768:=pre0 (d.env x.h0 x.h1) rfl rfl rfl rfl
  have bk:(LC hK hs hg hb L a).env.blockKind= .function:=by unfold PySem.Env.blockKind;rw [(LC hK hs hg hb L a).kind];rfl
  have hl:=(LC hK hs hg hb L a).loc 11 (by decide) rfl
  refine comp_use (e:=e_lc1) (i:=11) (px:=⟨1018,54,1018,58⟩) (pos:=⟨1018,11,1018,71⟩) (py:=⟨1018,4,1018,8⟩) (spos:=⟨1018,4,1018,71⟩) (comp1Ok hK hs hg hb) (okG hK) (prog_call hK 30) (vs:=vs3) (ws:= [.int (d.f%18446744073709551616),.int (d.s%18446744073709551616),.int ((d.t+d.s-d.f)%18446744073709551616)]) (ρt:= [some (.int d.home),some (St9 d.pre)])
    (hev3 (n:=0) (.inl rfl) hp.oct hp.k0 hp.k1 hp.k2) rfl (by decide) rfl ?_ hst (by show 11<19;decide) rfl ?_ (iter_rng (okG hK) (prog_call hK 30) rfl hst hf (ev_i1 (n:=0)) (by decide)) (fun g' s' y=>k g' s' y) (by intro z;rfl)
  · intro i w e
    match i,e with
    |0,e=>simp only [List.getElem?_cons_zero] at e;rw [←e];rfl
    |1,e=>simp only [List.getElem?_cons_succ,List.getElem?_cons_zero] at e;rw [←e];rfl
    |i+2,e=>simp at e
  · show swapsWith (.ListComp _ _ scope1 _) (some (.Name (nmT 311) _)) _ _=_
    unfold swapsWith
    have hl':(LC hK hs hg hb L a).env.kindOf (nmT 311)=some .local:=hl
    simp only [bk,hl',lk11]
    rfl
theorem law_units:(LC hK hs hg hb L a).A.units<cLine:=(LC hK hs hg hb L a).room
theorem same_ints: ∀l:List Int,sameAs (l.map V.int) (l.map V.int)=true
  | [] =>rfl
  |a::l=>by show((a==a)&&sameAs (l.map V.int) (l.map V.int))=true;rw [beq_self_eq_true,same_ints l];rfl
theorem same3(a b c:Int):sameAs [.int a,.int b,.int c] [.int a,.int b,.int c] =true:=same_ints [a,b,c]
theorem ev_12b{n:Nat}{d:Drawn}{sc:V}{σ:Sg}:evalE TT (call TT (n+30)) f_law ((d.ρ sc).set 11 (some d.kept)) e_law12b σ= .ok d.kept σ:=rfl
theorem ne_false{g:Gh}{σ:Sg}{s:Shared}{v w:V}{r q:Value}{A:Around}(hi:Inj TT)(hu:A.units<cLine)(hst:St TT G g σ s)(h₁:Rep TT G.w.params g v r)(h₂:Rep TT G.w.params g w q)(e:cmpV σ .NotEq v w=some false){Q:Bool→Shared→Prop}{E:Value→Shared→Prop}
    (k: ∀g' s',Step TT G g σ s g' σ s'→Q false s'):wpAny (model PW G.w) A (compareOp .NotEq r q) (fun c s₃=>wpAny (model PW G.w) A (truthy c) Q E s₃) E s:=
  wpAny_mono (cmpV_rule hi hu e hst h₁ h₂) (fun c s' ⟨g',st,rc⟩=>by obtain rfl:=rep_bool.mp rc;exact wpAny_truthy_bool (k g' s' st)) fun _ _ x=>x
theorem law_s12{d:Drawn}(x:DrawnOk d){sc:V}{m:M}(af:After d m){g:Gh}{s:Shared}(hst:St TT G g (S d.pre [] m) s)(hf:Fm (LC hK hs hg hb L a) g ((d.ρ sc).set 11 (some d.kept)) s){Q:Flow→Shared→Prop}{E:Value→Shared→Prop}
    (k: ∀g' s',At (LC hK hs hg hb L a) g (S d.pre [] m) s g' (S d.pre [] m) ((d.ρ sc).set 11 (some d.kept)) s'→Q .next s'):
    wpAny (model PW G.w) (LC hK hs hg hb L a).A (exec s_law12 (LC hK hs hg hb L a).env) Q E s:=by
  refine wpAny_If (wpAny_isTrue_BoolOp (wpAny_allTrue_Or_cons (bw_ok (okG hK) (prog_call hK 30) (law12a (n:=0) af rfl) hst hf fun g₁ s₁ st=>?_)))
  have x1:=(At.refl hst hf).go st
  refine wpAny_allTrue_Or_cons (wpAny_isTrue_Compare1 (comp_run (e:=e_lc2) (px:=⟨1020,91,1020,95⟩) (pos:=⟨1020,48,1020,108⟩) (comp1Ok hK hs hg hb) (okG hK) (prog_call hK 30) (vs:=vs3) (ws:= [.int (d.f%18446744073709551616),.int (d.s%18446744073709551616),.int ((d.t+d.s-d.f)%18446744073709551616)]) (ρt:= [some (.int d.home),some (St9 d.pre)])
    (hev3 (n:=0) (.inr rfl) af.oct af.k0 af.k1 af.k2) rfl (by decide) rfl ?_ x1.step.st (iter_rng (okG hK) (prog_call hK 30) rfl x1.step.st x1.fm (ev_i2 (n:=0)) (by decide)) (fun D g₂ s₂ y hr=>?_) (by intro z;rfl)) rfl)
  · intro i w e
    match i,e with
    |0,e=>simp only [List.getElem?_cons_zero] at e;rw [←e];rfl
    |1,e=>simp only [List.getElem?_cons_succ,List.getElem?_cons_zero] at e;rw [←e];rfl
    |i+2,e=>simp at e
  · refine ew_ok (okG hK) (prog_call hK 30) (ev_12b (n:=0)) y.step.st y.fm fun v g₃ s₃ st₃ r₃=>?_
    have y3:=y.go st₃
    refine ne_false (okG hK).tab.inj (law_units hK hs hg hb) y3.step.st (hr.mono st₃.le) r₃ (by show cond (sameAs _ _) (some false) none=some false;rw [same3];rfl) fun g₄ s₄ st₄=>?_
    have y4:=y3.go st₄
    refine wpAny_allTrue_Or_nil ?_
    exact wpAny_execs_nil (k g₄ s₄ ⟨x1.step.trans y4.step,y4.fm⟩)
theorem same11(a b:Int):sameAs (.int a:: .int b::restL) (.int a:: .int b::restL)=true:=same_ints [a,b,5000032,6000035,7000038,8000041,9000044,10000047,11000050,12000053,13000056,14000059,15000062]
theorem ev_f3{n:Nat}{ρ:List (Option V)}{σ:Sg}{p:Pos}:evalE TT (call TT (n+30)) f_law ρ (.glob 11 p) σ= .ok (.prim 1) σ:=rfl
theorem law_s13{d:Drawn}(x:DrawnOk d){sc:V}{m:M}(af:After d m){g:Gh}{s:Shared}(hst:St TT G g (S d.pre [] m) s)(hf:Fm (LC hK hs hg hb L a) g ((d.ρ sc).set 11 (some d.kept)) s){Q:Flow→Shared→Prop}{E:Value→Shared→Prop}
    (k: ∀g' s',At (LC hK hs hg hb L a) g (S d.pre [] m) s g' (S d.pre [] m) ((d.ρ sc).set 11 (some d.kept)) s'→Q .next s'):
    wpAny (model PW G.w) (LC hK hs hg hb L a).A (exec s_law13 (LC hK hs hg hb L a).env) Q E s:=by
  refine wpAny_If (wpAny_isTrue_Compare1 (ew_ok (okG hK) (prog_call hK 30) (law13a (n:=0) af rfl) hst hf fun v1 g₁ s₁ st₁ r₁=>?_) rfl)
  have x1:=(At.refl hst hf).go st₁
  refine wpAny_BinOp (ew_ok (okG hK) (prog_call hK 30) (law13b (n:=0)) x1.step.st x1.fm fun v2 g₂ s₂ st₂ r₂=>?_)
  have x2:=x1.go st₂
  refine comp_run (e:=e_lc3) (px:=⟨1022,68,1022,74⟩) (pos:=⟨1022,41,1022,91⟩) (comp3Ok hK hs hg hb) (okG hK) (prog_call hK 30) (vs:=vs11) (ws:=restL) (ρt:= []) (hev11 (n:=0)) rfl (by decide) rfl (fun i w e=>by simp at e) x2.step.st
    (iter_rng2 (okG hK) (prog_call hK 30) rfl x2.step.st x2.fm rfl (ev_f3 (n:=0)) (by decide) (by decide) (by decide)) (fun D g₃ s₃ y hr=>?_) (by intro z;rfl)
  refine wpAny_mono (binV_rule (op:= .Add) (u:= .lst (.int d.home:: .int 32768::restL)) rfl y.step.st (r₂.mono y.step.le) hr) (fun v3 s₄ z=>?_) fun _ _ x=>x
  obtain⟨g₄,st₄,r₄⟩:=z
  have y4:=y.go st₄
  refine ne_false (okG hK).tab.inj (law_units hK hs hg hb) y4.step.st (((r₁.mono st₂.le).mono y.step.le).mono st₄.le) r₄ (by show cond (sameAs _ _) (some false) none=some false;rw [same11];rfl) fun g₅ s₅ st₅=>?_
  have y5:=y4.go st₅
  exact wpAny_execs_nil (k g₅ s₅ ⟨x2.step.trans y5.step,y5.fm⟩)
end
end Mine
namespace Mine
structure Kept{G:Gx}{fn:Fn}{n:Nat}(C:Cx TT G fn n)(g:Gh)(ρ:List (Option V))(ps:Array Value)(s:Shared):Prop where
  off:Off G C.frs g s
  cell: ∀i o b v,C.cel i=some (o,b)→ρ[i]? =some (some v)→Mine1 G g s.heap b∧ ∃ob r,s.heap.get? b=some ob∧ob.data= .cell (some r)∧Rep TT G.w.params g v r
  tabF:g.F G.tab=none
  tab:s.heap.get? G.tab=some (tabObj ps)
section
variable {G:Gx}{fn:Fn}{n:Nat}{C:Cx TT G fn n}{g:Gh}{ρ:List (Option V)}{ps:Array Value}{s:Shared}
theorem Kept.of{σ:Sg}(hs:St TT G g σ s)(hf:Fm C g ρ s)(h1:g.F G.tab=none)(h2:s.heap.get? G.tab=some (tabObj ps)):Kept C g ρ ps s:=by
  refine⟨hf.off,fun i o b v e e'=>?_,h1,h2⟩
  obtain⟨m,hm,hl⟩:=hf.loc
  obtain⟨r,h3,h4⟩:=hl.2 i v e'
  unfold Holds at h3
  rw [e] at h3
  obtain⟨ob,h5,h6⟩:=h3
  exact⟨(hf.cells i o b e).1,ob,r,h5,h6,h4⟩
theorem St.tabA{σ:Sg}(hs:St TT G g σ s):G.tab∉g.act:=fun m=>(hs.off _ m).2.1 rfl
theorem Kept.step{σ σ':Sg}{g':Gh}{s':Shared}(hs:St TT G g σ s)(x:Kept C g ρ ps s)(y:Step TT G g σ s g' σ' s'):Kept C g' ρ ps s':=by
  refine⟨x.off.step y,fun i o b v e e'=>?_,y.newF _ _ x.tab x.tabF hs.tabA,y.keep _ _ x.tab hs.tabA⟩
  obtain⟨h1,ob,r,h2,h3,h4⟩:=x.cell i o b v e e'
  exact⟨h1.step rfl y,ob,r,y.keep b ob h2 h1.2.1,h3,h4.mono y.le⟩
theorem frames_but{h h':Heap}{P:Addr}{base:Heap}(hx:Heap.ExtBut P h h')(hP: ∃o,base.get? P=some o): ∀{l:List PySem.Env},h.FunFrames base l→h'.FunFrames base l
  | [],_=>trivial
  |e::r,⟨hk,⟨L,o,hf,hn,ho,hd⟩,hr⟩=>⟨hk,⟨L,o,hf,hn,hx _ _ (fun q=>by obtain⟨o',e'⟩:=hP;rw [q,e'] at hn;cases hn) ho,hd⟩,frames_but hx hP hr⟩
theorem St.turn{σ:Sg}{h':Heap}{t:Nat}(hs:St TT G g σ s)(hF:g.F G.tab=none)(hx:Heap.ExtBut G.tab s.heap h')(hT: ∃o,h'.get? G.tab=some o):St TT G g σ {s with heap:=h',toks:=t}:=by
  have ne: ∀a o,g.F a=some o→a≠G.tab:=fun a o e q=>by rw [q,hF] at e;cases e
  refine⟨⟨fun a o e=>hx _ _ (ne a o e) (hs.fz a o e),fun o c m e=>?_,hs.lrw,hs.lown,hs.nd,fun a m=>?_,hs.base,hT,hs.free⟩,hs.gens,hs.os⟩
  · obtain ⟨a,h1,h2⟩:=hs.cell o c m e
    have ha:a∈g.act:=by
      cases o
      · exact List.mem_append_left _ (List.mem_of_getElem? h1)
      · exact List.mem_append_right _ (List.mem_of_getElem? h1)
    exact⟨a,h1,h2.mono (.refl g) fun o e=>hx _ _ (hs.off a ha).2.1 e⟩
  · obtain ⟨x,y,o,z⟩:=hs.off a m
    exact⟨x,y,o,hx _ _ y z⟩
theorem Kept.turn{h':Heap}{t:Nat}{ps':Array Value}(x:Kept C g ρ ps s)(hx:Heap.ExtBut G.tab s.heap h')(hT:h'.get? G.tab=some (tabObj ps')):Kept C g ρ ps' {s with heap:=h',toks:=t}:=by
  have hb: ∃o,G.g₀.get? G.tab=some o:=G.tabL
  refine⟨⟨frames_but hx hb x.off.frames,x.off.off⟩,fun i o b v e e'=>?_,x.tabF,hT⟩
  obtain⟨⟨m1,m2,m3,o1,m4,m5⟩,ob,r,h2,h3,h4⟩:=x.cell i o b v e e'
  have nb:b≠G.tab:=fun q=>by obtain⟨o',e'⟩:=hb;rw [q,e'] at m3;cases m3
  exact⟨⟨m1,m2,m3,o1,hx _ _ nb m4,m5⟩,ob,r,hx _ _ nb h2,h3,h4⟩
end
structure Base(G:Gx)(c:Addr)(mg:Str→Option Value):Prop where
  code:codeHdIn G.K c G.tab=true
  g:G.g₀.Ns mainGlobals mg
  bm:G.g₀.BuiltinsAt mg G.tab
  ne:mainGlobals≠G.tab
section
variable {G:Gx}{fn:Fn}{n:Nat}{C:Cx TT G fn n}{g:Gh}{σ:Sg}{ρ:List (Option V)}{ps:Array Value}{s:Shared}{c:Addr}{mg:Str→Option Value}
theorem lam_make(B:Base G c mg)(hcd:C.env.code= .ref c)(hst:St TT G g σ s)(hk:Kept C g ρ ps s){body:PySem.Expr}{scope:Scope}{pos:Pos}{clos:List (Str×Addr)}(ht:TriplesOk ps.toList)(hnf:codeAmong pos ps.toList=none)(hcl:closureFor scope C.env=pure clos){Q E:Value→Shared→Prop}
    (h: ∀f c' ctv pm qual s',St TT G g σ s'→Kept C g ρ (ps++ #[rawInt pos.line,rawInt pos.col,.ref c']) s'→s'.heap.get? f=some (kla_obj "<lambda>" qual noArgs body scope clos pm c' ctv)→s'.heap.CodeRec (.ref c') qual→Q (.ref f) s'):
    wpAny (model PW G.w) C.A (eval (.Lambda noArgs body scope pos) C.env) Q E s:=by
  have KI:G.K.In s.heap:=Gx.frag hst
  have keep: ∀a o,G.g₀.get? a=some o→a≠G.tab→s.heap.get? a=some o:=fun a o e ne=>hst.fz _ _ (hst.base _ _ e ne)
  have hg:s.heap.Ns mainGlobals mg:=by
    obtain⟨o,es,ep,ho,q⟩:=B.g
    exact⟨o,es,ep,keep _ _ ho B.ne,q⟩
  have hb:s.heap.BuiltinsAt mg G.tab:=by
    obtain⟨bm,o,b1,b2,b3,b4,b5,q⟩:=B.bm
    exact⟨bm,o,b1,b2,b3,b4,keep _ _ b5 b4,q⟩
  refine kla_eval rfl (kla_makeFunction hcl C.glob hg hcd (codeHd_of_K KI B.code) hk.tab ht hnf B.ne hb fun c' ctv h' tk hx hge hlt hrec htb=>?_)
  have hx':Heap.ExtBut G.tab s.heap (h'.push (kla_obj "<lambda>" (C.env.qual++"<lambda>") noArgs body scope clos ((mg "__name__").getD .none) c' ctv)):=fun b o ne e=>Heap.get?_push_of_some _ (hx b o ne e)
  have hT:=Heap.get?_push_of_some (kla_obj "<lambda>" (C.env.qual++"<lambda>") noArgs body scope clos ((mg "__name__").getD .none) c' ctv) htb
  refine h _ c' ctv _ _ _ (hst.turn hk.tabF hx' ⟨_,hT⟩) (hk.turn hx' hT) (Heap.get?_push_size _ rfl) ?_
  obtain⟨c₂,oc,vs,t,e2,hoc,hd,hv⟩:=hrec
  exact⟨c₂,oc,vs,t,e2,Heap.get?_push_of_some _ hoc,hd,hv⟩
end
end Mine
namespace Mine
noncomputable def heardClause:ExceptHandler:= .ExceptHandler (some (.Tuple [.Name (nmT 71) ⟨1003,12,1003,24⟩,.Name (nmT 24) ⟨1003,26,1003,37⟩] 0 ⟨1003,11,1003,38⟩)) none [.Return (some (.Constant (.bool true) 0 ⟨1004,15,1004,19⟩)) ⟨1004,8,1004,19⟩] ⟨1003,4,1004,19⟩
noncomputable def heardTry:Stmt:= .Try [.Expr (.Call (.Name "ask" ⟨1002,8,1002,11⟩) [] [] ⟨1002,8,1002,13⟩) ⟨1002,8,1002,13⟩] [heardClause] [] [] ⟨1001,4,1004,19⟩
noncomputable def heardBody:List Stmt:= [heardTry,.Return (some (.Constant (.bool false) 0 ⟨1005,11,1005,16⟩)) ⟨1005,4,1005,16⟩]
noncomputable def heardScope:Scope:={kind:= .function,names:= [("ask",.local),(nmT 71,.globalImplicit),(nmT 24,.globalImplicit)],isGenerator:=false,isCoroutine:=false,more:= []}
noncomputable abbrev heardFd(K:Frag):FuncData:={fdIn K 1412 with body:= .stmts heardBody,scope:=heardScope,globals:=mainGlobals,closure:= [],builtins:=builtinsNs}
theorem hd_obj(P:Params):(KP P).lookup 1412=some ⟨(oIn (KP P) 1412).cls,(oIn (KP P) 1412).dict,.func (heardFd (KP P)),(oIn (KP P) 1412).slots⟩:=by kernel_rfl
theorem hd_code(P:Params):codeIn (KP P) (heardFd (KP P)).code (heardFd (KP P)).qualname=true:=by kernel_rfl
theorem hd_bind(P:Params)(r:Value)(S:Setting):peek (KP P) S (bindArgs (heardFd (KP P)) ⟨[r],[]⟩)=some [(("ask":Str),r)] :=by kernel_rfl
theorem hd_sym(P:Params):exmAny (KP P) (.ref 71) [.ref 83,.ref 71] =some true:=by kernel_rfl
theorem hd_mac(P:Params):exmAny (KP P) (.ref 83) [.ref 83,.ref 71] =some true:=by kernel_rfl
theorem hd_keep(P:Params):keepIn (KP P) (.ref 1412)=true:=by kernel_rfl
theorem law_code(P:Params):codeHdIn (KP P) 1416 1414=true:=by kernel_rfl
theorem hd_n71(P:Params):isRf 83 (nsIn (KP P) mainGlobals (nmT 71))=true:=by kernel_rfl
theorem hd_n24(P:Params):isRf 71 (nsIn (KP P) mainGlobals (nmT 24))=true:=by kernel_rfl
section
variable {G:Gx}{g:Gh}{σ:Sg}{s:Shared}
theorem StH.up{B:Heap}(hb:StH TT G g σ B)(hk:B.StaysIn s.heap)(hg:s.gens= #[])(ho:s.os=G.os₀):St TT G g σ s:=by
  have h0:St TT G g σ {s with heap:=B}:=⟨hb,hg,ho⟩
  exact(Step.grow (s':=s) h0 hk rfl rfl).st
theorem flying_push{B:Heap}{l:List PySem.Env}{e:Addr}{cls a0:Value}{h h':Heap}(x:Heap.FlyingW B l e cls a0 h)(k: ∀b o,h.get? b=some o→h'.get? b=some o):Heap.FlyingW B l e cls a0 h':=by
  obtain⟨f1,f2,f3,oe,vs,T,oT,ts,q1,q2,q3,q4,q5,q6,q7,q8⟩:=x
  exact⟨fun b o e=>k _ _ (f1 b o e),f2,f3.of_keeps fun b o e _=>⟨o,k _ _ e,rfl⟩,oe,vs,T,oT,ts,k _ _ q1,q2,q3,q4,q5,q6,k _ _ q7,q8⟩
theorem glob_ref{A:Around}{env:PySem.Env}{K:Frag}(X:K.In s.heap){k:Nat}{a:Addr}(hk:env.scope.kind= .function)(hg:env.globals=mainGlobals)(hn:env.kindOf (nmT k)=some .globalImplicit)(e:isRf a (nsIn K mainGlobals (nmT k))=true){pos:Pos}{Q E:Value→Shared→Prop}(h:Q (.ref a) s):
    wpAny (model PW G.w) A (eval (.Name (nmT k) pos) env) Q E s:=by
  refine Name_function_global hk hn ?_ (nmT_far k).2.1
  unfold loadGlobal
  rw [hg]
  exact wpAny_bind ((looks_nsIn X (isRf_eq e)).here (wpAny_pure h))
theorem handler_ok(hK:G.K=KP G.w.params){A:Around}{env:PySem.Env}{B:Heap}{l:List PySem.Env}{e:Addr}{C:Addr}{a0:Value}(hC:C=71∨C=83)(hB:StH TT G g σ B)(hk:env.scope.kind= .function)(hg:env.globals=mainGlobals)
    (n1:env.kindOf (nmT 71)=some .globalImplicit) (n2:env.kindOf (nmT 24)=some .globalImplicit) (hf:Heap.FlyingW B l e (.ref C) a0 s.heap) (gs:s.gens= #[]) (os:s.os=G.os₀) {Q:Flow→Shared→Prop} {E:Value→Shared→Prop}
    (h: ∀s',St TT G g σ s'→B.StaysIn s'.heap→s'.heap.FunFrames B l→Q (.ret (.bool true)) s'):
    wpAny (model PW G.w) A (handleBy (.ref e) env [heardClause]) Q E s:=by
  have hs:St TT G g σ s:=hB.up hf.1 gs os
  have X:G.K.In s.heap:=Gx.frag hs
  rw [hK] at X
  refine wpAny_handleBy_cons (codeAny_handlers_test (Tuple_ (spliced_more (glob_ref X hk hg n1 (hd_n71 _) (spliced_more (glob_ref X hk hg n2 (hd_n24 _) (spliced_none ?_))))))) (by intro q;cases q)
  refine wpAny_newObj_type ?_
  have hf':=flying_push hf (h':=s.heap.push {cls:= .type "tuple",data:= .seq [Value.ref 83,.ref 71].toArray}) fun b o e=>Heap.get?_push_of_some _ e
  have LT:Looks (model PW G.w) (s.heap.push {cls:= .type "tuple",data:= .seq [Value.ref 83,.ref 71].toArray}) (typeOf (.ref e)) (.ref C):=by
    obtain⟨ob,h1,h2⟩:=hf'.there
    rw [←h2]
    exact(Looks.ld h1).andThen .now
  have X':(KP G.w.params).In (s.heap.push {cls:= .type "tuple",data:= .seq [Value.ref 83,.ref 71].toArray}):=X.keeps fun b o e=>Heap.get?_push_of_some _ e
  refine(exm_tup2 (tp:=s.heap.objs.size) X' LT (Heap.get?_push_size _ rfl) (by rcases hC with rfl |rfl;exact hd_sym _;exact hd_mac _)).here ?_
  refine codeAny_handlers_suite ?_
  refine lands_againW hf' fun h' hf'' hsm=>?_
  refine wpAny_execs_cons ?_
  refine wpAny_Return_some (wpAny_Constant_bool ?_)
  exact h _ (hB.up hf''.1 gs os) hf''.1 hf''.2.2.1
end
end Mine
namespace Mine
structure LamOk(G:Gx)(fl:Fn)(scl:Scope)(clos:List (Str×Addr))(celL:Nat→Option (Bool×Addr)):Prop where
  kind:scl.kind= .function
  co:scl.isCoroutine=false
  gen:scl.isGenerator=false
  cell: ∀x∈scl.names,x.2≠ .cell
  cel: ∀i,i<fl.ns.length→ ∃b,celL i=some (false,b)∧scl.names.lookup (nmOf TT fl.ns i)=some .free∧clos.lookup (nmOf TT fl.ns i)=some b
  celO: ∀i,fl.ns.length≤i→celL i=none
  clIn: ∀i,i<fl.ns.length→fl.cl.contains i=true
  clInj: ∀i j o o' a,celL i=some (o,a)→celL j=some (o',a)→i=j
  glo: ∀i v,fl.gv[i]? =some v→scl.names.lookup (nmOf TT fl.gs i)=some .globalImplicit∧GloOk TT G.K (fl.gs.getD i 0) v
  nosup:scl.names.lookup ("super":Str)≠some .globalImplicit
  inj: ∀i j,i<fl.ns.length→j<fl.ns.length→nmOf TT fl.ns i=nmOf TT fl.ns j→i=j
section
variable {G:Gx}{g:Gh}{σ σ':Sg}{s:Shared}{fl:Fn}{scl:Scope}{clos:List (Str×Addr)}{celL:Nat→Option (Bool×Addr)}
theorem St.none_size0(hS:St TT G g σ s):G.g₀.get? s.heap.objs.size=none:=by
  have nL:=none_size s.heap
  cases q:G.g₀.get? s.heap.objs.size with
  |none=>rfl
  | some o=>
    by_cases t:s.heap.objs.size=G.tab
    · obtain ⟨o',e⟩:=hS.tabs
      rw [←t,nL] at e;cases e
    · have:=hS.fz _ _ (hS.base _ _ q t)
      rw [nL] at this;cases this
theorem St.nolimit(hS:St TT G g σ s):s.heap.NoLimit:=by
  obtain⟨mc,⟨o,es,ep,ho,r⟩,q⟩:=G.lim
  exact⟨mc,⟨o,es,ep,hS.fz _ _ (hS.base _ _ ho G.offs),r⟩,q⟩
theorem Off.more{outer:List PySem.Env}{env:PySem.Env}{h:Heap}{t:Nat}(hS:St TT G g σ s)(hO:Off G outer g s)(hk: ∀b o,s.heap.get? b=some o→h.get? b=some o){m:Str→Option Value}(hn:h.Ns s.heap.objs.size m)(kind:env.scope.kind= .function)(fr:env.frame=some s.heap.objs.size):
    Off G (env::outer) g {s with heap:=h,toks:=t}:=by
  have gr:=Step.grow (s':={s with heap:=h,toks:=t}) hS hk rfl rfl
  obtain⟨oL,es,ep,hL1,hL2,hL3⟩:=id hn
  refine⟨⟨(by rw [kind];exact fun q=>by cases q),⟨s.heap.objs.size,oL,fr,hS.none_size0,hL1,fun vs e=>by rw [hL2] at e;cases e⟩,(hO.step gr).frames⟩,fun a ha=>?_⟩
  rw [List.filterMap_cons,fr] at ha
  rcases List.mem_cons.mp ha with rfl |ha
  · exact⟨hS.newF (Nat.le_refl _),hS.newA (Nat.le_refl _)⟩
  · exact(hO.step gr).off a ha
theorem lam_run (O:Okay TT G.K) (KO:KOk TT G 30 (call TT 30)) (Ok:LamOk G fl scl clos celL) {A:Around} {outer:List PySem.Env} {el:Ex} {ρl:List (Option V)} {cc:Nat} (hev:evalE TT (call TT 30) fl ρl el σ= .exc cc σ')
    (hA:A.frames=some outer) (hh:A.handled=none) (hd:A.depth+70≤800) (hu:A.units+260≤800) (hO:Off G outer g s) (hS:St TT G g σ s)
    {f c':Addr} {ctv pm:Value} {qual:Str} (ho:s.heap.get? f=some (kla_obj "<lambda>" qual noArgs (erE TT fl el) scl clos pm c' ctv)) (hcd:s.heap.CodeRec (.ref c') qual) (hlen:ρl.length=fl.ns.length)
    (hc: ∀i o b v,celL i=some (o,b)→ρl[i]? =some (some v)→ ∃ob r,s.heap.get? b=some ob∧ob.data= .cell (some r)∧Rep TT G.w.params g v r) (hm: ∀i o b,celL i=some (o,b)→Mine1 G g s.heap b∧ ∃ob v,s.heap.get? b=some ob∧ob.data= .cell v):
    codeAny (model PW G.w) A (.call (.ref f) ⟨[],[]⟩) (fun q s'=> ∃e,q= .error e∧ExP TT G outer (framesOf outer) g s (.exc cc σ':R V) e s') s:=by
  refine kla_callFunE (by show A.depth<1000;omega) ho rfl Ok.co Ok.gen rfl hcd ?_
  rw [show bindArgs (kla_fn "<lambda>" qual noArgs (erE TT fl el) scl clos pm (.ref c') ctv) ⟨[],[]⟩=pure [] from rfl]
  refine wpAny_pure (wpAny_newFunctionEnv Ok.cell (fun x hx=>nomatch hx) (fun h₁ hns hsb=>⟨hS.nolimit.fresh _ hsb,?_⟩) Ok.kind)
  have hk₁: ∀b o,s.heap.get? b=some o→h₁.get? b=some o:=fun b o e=>hsb.extBut b o (Nat.ne_of_lt (Heap.lt_size e)) (Heap.get?_push_of_some _ e)
  generalize s.toks+_=tk
  have gr:=Step.grow (s':={s with heap:=h₁,toks:=tk}) hS hk₁ rfl rfl
  let env:PySem.Env:=newEnv scl s.heap.objs.size mainGlobals clos (qual++".<locals>.") (some f) (.ref c') none builtinsNs
  have celM: ∀i p,celL i=some p→i<fl.ns.length:=fun i p e=>by
    rcases Nat.lt_or_ge i fl.ns.length with q |q
    · exact q
    · rw [Ok.celO i q] at e;cases e
  have celI: ∀i o a,celL i=some (o,a)→o=false∧scl.names.lookup (nmOf TT fl.ns i)=some .free∧clos.lookup (nmOf TT fl.ns i)=some a:=fun i o a e=>by
    obtain⟨b,h1,h2,h3⟩:=Ok.cel i (celM i _ e)
    rw [h1] at e;cases e
    exact⟨rfl,h2,h3⟩
  have neL: ∀i o a,celL i=some (o,a)→a≠s.heap.objs.size:=fun i o a e q=>by
    obtain⟨_,ob,v,h1,_⟩:=hm i o a e
    rw [q,none_size] at h1;cases h1
  let C:Cx TT G fl 30:={
    A:=A.deeper env,env:=env,outer:=outer,frs:=env::outer,out:=false,cel:=celL,priv:= [s.heap.objs.size]
    frames:=Around.frames_deeper hA,hfrs:=fun _=>rfl,handled:=hh
    depth:=by show A.depth+1+2*30≤800;omega
    units:=by show A.units+3+8*30≤800;omega
    kind:=Ok.kind,glob:=rfl,blt:=rfl,frame:=fun _=>rfl
    loc:=fun i hi e=>by obtain⟨b,h1,_⟩:=Ok.cel i hi;rw [h1] at e;cases e
    cll:=fun i o a hi e=>by obtain⟨rfl,h2,h3⟩:=celI i o a e;exact⟨h2,h3⟩
    clIn:=fun i hi=>by obtain⟨b,h1,_⟩:=Ok.cel i hi;rw [h1,Ok.clIn i hi];rfl
    clNe:=fun i o a e=>neL i o a e
    clInj:=Ok.clInj
    privL:= .head _
    privC:=fun i a e=>by obtain⟨q,_⟩:=celI i true a e;cases q
    privO:=fun i a e q=>by rw [List.mem_singleton] at q;exact neL i false a e q
    hidP:=fun _ a ha=>by rw [List.mem_singleton] at ha;subst ha;exact .head _
    glo:=Ok.glo
    nosup:=Ok.nosup
    nodbg:=fun k=>((prog_ok G.w.params).dbg k).1
    nocd:=fun k=>((prog_ok G.w.params).dbg k).2
    inj:=Ok.inj}
  have nL:=none_size s.heap
  obtain⟨oL,es,ep,hL1,hL2,hL3⟩:=id hns
  have fm:Fm C g ρl {s with heap:=h₁,toks:=tk}:=by
    refine⟨Off.more hS hO hk₁ hns Ok.kind rfl,fun a ha=>?_,fun i o a e=>?_,_,hns,hlen,fun i v e=>?_⟩
    · rw [List.mem_singleton] at ha;subst ha
      exact⟨hS.newF (Nat.le_refl _),hS.newA (Nat.le_refl _),hS.none_size0,oL,hL1,fun vs e=>by rw [hL2] at e;cases e⟩
    · obtain ⟨h1,ob,v,h2,h3⟩:=hm i o a e
      exact⟨h1.step rfl gr,ob,v,hk₁ _ _ h2,h3⟩
    · have hi:i<fl.ns.length:=by rw [←hlen];exact(List.getElem?_eq_some_iff.mp e).1
      obtain⟨b,h1,_⟩:=Ok.cel i hi
      obtain⟨ob,r,h2,h3,h4⟩:=hc i _ b v h1 e
      refine⟨r,?_,h4⟩
      unfold Holds
      rw [show C.cel i=some (false,b) from h1]
      exact⟨ob,hk₁ _ _ h2,h3⟩
  refine kla_codeExpr (((soundE O KO C ρl el).1 σ).use (by rw [hev];exact fun q=>by cases q) gr.st fm (fun v y σ₁ g₁ s₁ e st r₁=>?_) fun e s' p=>?_)
  · rw [hev] at e;cases e
  · have key: ∀{e s'},ExP TT G outer (framesOf (C.env::C.outer)) g {s with heap:=h₁,toks:=tk} (.exc cc σ':R V) e s'→ExP TT G outer (framesOf outer) g s (.exc cc σ':R V) e s':=by
      rintro e s' ⟨g',σ',c,B,x,a0,h1,h2,h3⟩
      refine⟨g',σ',c,B,x,a0,h1,⟨h2.st,h2.le,fun a o e na nh=>h2.keep a o (hk₁ _ _ e) na fun q=>?_,fun a o l=>h2.newF a o (hk₁ _ _ l),fun a o l=>h2.newA a o (hk₁ _ _ l)⟩,h3⟩
      unfold framesOf at q
      rw [List.filterMap_cons,C.frame rfl] at q
      rcases List.mem_cons.mp q with rfl |q
      · have:s.heap.get? s.heap.objs.size=some o:=e
        rw [nL] at this;cases this
      · exact nh q
    unfold ExF at p
    rw [hev] at p
    exact wpAny_mono p (fun _ _ q=>⟨_,rfl,key q⟩) fun _ _ q=>⟨_,rfl,key q⟩
end
end Mine
namespace Mine
section
variable {G:Gx}{fn:Fn}{n:Nat}{C:Cx TT G fn n}{g:Gh}{σ σ':Sg}{ρ:List (Option V)}{ps:Array Value}{s:Shared}{fl:Fn}{scl:Scope}{clos:List (Str×Addr)}{celL:Nat→Option (Bool×Addr)}
theorem frames_two{h h0 base B:Heap}: ∀{l:List PySem.Env},h0.FunFrames base l→h.FunFrames B l→h.FunFrames base l
  | [],_,_=>trivial
  | e::r,h,h'=>by
    obtain⟨k,⟨L,o,f,n,-,-⟩,x⟩:=h
    obtain⟨-,⟨L',o',f',-,m,d⟩,y⟩:=h'
    rw [f] at f';cases f'
    exact⟨k,⟨L,o',f,n,m,d⟩,frames_two x y⟩
theorem Kept.caught{hid:List Addr}{g':Gh}{σ':Sg}{B:Heap}{s':Shared}(hs:St TT G g σ s)(x:Kept C g ρ ps s)(y:Land TT G hid g s.heap g' σ' B)(h1: ∀a∈hid,G.g₀.get? a=none∧ ∀i o ob,s.heap.get? a=some ob→C.cel i≠some (o,a))(k:B.StaysIn s'.heap)(fr:s'.heap.FunFrames B C.frs):Kept C g' ρ ps s':=by
  have nt:G.tab∉hid:=fun m=>by obtain⟨o,e⟩:=G.tabL;rw [(h1 _ m).1] at e;cases e
  refine⟨⟨frames_two x.off.frames fr,fun a ha=>?_⟩,fun i o b v e e'=>?_,y.newF _ _ x.tab x.tabF hs.tabA,k _ _ (y.keep _ _ x.tab hs.tabA nt)⟩
  · obtain ⟨_,o,ho,_⟩:=x.off.frames.mem ha
    obtain⟨q1,q2⟩:=x.off.off a ha
    exact⟨y.newF a o ho q1 q2,y.newA a o ho q2⟩
  · obtain ⟨⟨m1,m2,m3,o1,m4,m5⟩,ob,r,h2,h3,h4⟩:=x.cell i o b v e e'
    have nb:b∉hid:=fun m=>(h1 _ m).2 i o ob h2 e
    have hb:=k _ _ (y.keep b ob h2 m2 nb)
    exact⟨⟨y.newF b ob h2 m1 m2,y.newA b ob h2 m2,m3,ob,hb,fun vs e=>by rw [h3] at e;cases e⟩,ob,r,hb,h3,h4.mono y.le⟩
theorem hd_ex(P:Params): ∃oc od osl,∃fd:FuncData,(KP P).lookup 1412=some ⟨oc,od,.func fd,osl⟩∧codeIn (KP P) fd.code fd.qualname=true∧fd.body= .stmts heardBody∧fd.scope=heardScope∧fd.globals=mainGlobals∧ ∀r S,peek (KP P) S (bindArgs fd ⟨[r],[]⟩)=some [(("ask":Str),r)] :=
  ⟨_,_,_,heardFd (KP P),hd_obj P,hd_code P,rfl,rfl,rfl,hd_bind P⟩
theorem hs_cell: ∀x∈heardScope.names,x.2≠ .cell:=by decide+kernel
theorem hs_ask:heardScope.names.lookup ("ask":Str)=some .local:=by kernel_rfl
theorem hs_71:heardScope.names.lookup (nmT 71)=some .globalImplicit:=by kernel_rfl
theorem hs_24:heardScope.names.lookup (nmT 24)=some .globalImplicit:=by kernel_rfl
theorem ask_at(v:Value):List.lookup ("ask":Str) [(("ask":Str),v)].reverse=some v:=by kernel_rfl
theorem ask_dbg:(("ask":Str)==("__debug__":Str))=false:=by kernel_rfl
theorem eval_ask{env:PySem.Env}{pos np:Pos}{x:Str}:eval (.Call (.Name x np) [] [] pos) env=(do callWith pos (←eval (.Name x np) env) [] (backTo pos (starEach [] env)) (backToKw pos (keywordEach [] env))):=rfl
theorem heard_call(hK:G.K=KP G.w.params)(O:Okay TT G.K)(KO:KOk TT G 30 (call TT 30))(Ok:LamOk G fl scl clos celL){el:Ex}{ρl:List (Option V)}{cc:Nat}(hev:evalE TT (call TT 30) fl ρl el σ= .exc cc σ')(hcc:TT.clsAddr cc=71∨TT.clsAddr cc=83)
    (hd:C.A.depth+71≤800) (hu:C.A.units+263≤800) (hframe: ∀a∈framesOf C.frs,∀i o,C.cel i≠some (o,a)) (hS:St TT G g σ s) (hk:Kept C g ρ ps s)
    {f c':Addr} {ctv pm:Value} {qual:Str} (ho:s.heap.get? f=some (kla_obj "<lambda>" qual noArgs (erE TT fl el) scl clos pm c' ctv)) (hcd:s.heap.CodeRec (.ref c') qual) (hlen:ρl.length=fl.ns.length)
    (hρ: ∀i o b,celL i=some (o,b)→ ∃j o' v,C.cel j=some (o',b)∧ρ[j]? =some (some v)∧ρl[i]? =some (some v)) {R:Result→Shared→Prop}
    (hR: ∀g' s',St TT G g' σ' s'→Kept C g' ρ ps s'→R (.ok (.ret (.bool true))) s'):
    codeAny (model PW G.w) C.A (.call (.ref 1412) ⟨[.ref f],[]⟩) R s:=by
  have KI:(KP G.w.params).In s.heap:=by rw [←hK];exact Gx.frag hS
  obtain⟨oc,od,osl,fd,f1,f2,f3,f4,f5,f6⟩:=hd_ex G.w.params
  have kfd:fd.scope.kind= .function:=by rw [f4];rfl
  refine codeAny_call_def (fd:=fd) (body:=heardBody) (by show C.A.depth<1000;omega) (KI _ _ f1) rfl hS.nolimit (codeRec_of KI f2) f3 (kp_binds KI (f6 _)) (by rw [f4];exact hs_cell) ?_ (fun h₁ hns₁ hk₁=>?_) (by rw [f4];rfl) (by rw [f4];rfl) kfd
  · intro x hx
    rw [List.mem_singleton] at hx;subst hx
    rw [f4];exact hs_ask
  generalize s.toks+_=tk
  have gr:=Step.grow (s':={s with heap:=h₁,toks:=tk}) hS hk₁ rfl rfl
  have n71:(callEnv fd s.heap.objs.size 1412).kindOf (nmT 71)=some .globalImplicit:=by show fd.scope.names.lookup (nmT 71)=_;rw [f4];exact hs_71
  have n24:(callEnv fd s.heap.objs.size 1412).kindOf (nmT 24)=some .globalImplicit:=by show fd.scope.names.lookup (nmT 24)=_;rw [f4];exact hs_24
  have nask:(callEnv fd s.heap.objs.size 1412).kindOf "ask"=some .local:=by show fd.scope.names.lookup ("ask":Str)=_;rw [f4];exact hs_ask
  have kh:(callEnv fd s.heap.objs.size 1412).scope.kind= .function:=kfd
  have gh:(callEnv fd s.heap.objs.size 1412).globals=mainGlobals:=f5
  have fh:(callEnv fd s.heap.objs.size 1412).frame=some s.heap.objs.size:=rfl
  have ih:interactive (callEnv fd s.heap.objs.size 1412)=false:=by unfold interactive;rw [kh];rfl
  have lh:(callEnv fd s.heap.objs.size 1412).locals=s.heap.objs.size:=rfl
  generalize callEnv fd s.heap.objs.size 1412=envh at*
  have hO₁:Off G (envh::C.frs) g {s with heap:=h₁,toks:=tk}:=Off.more hS hk.off hk₁ hns₁ kh fh
  have nL:=none_size s.heap
  refine wpAny_execs_cons (wpAny_Try_except (wpAny_execs_cons (wpAny_Expr_any ?_ ih rfl)))
  rw [eval_ask]
  refine wpAny_bind (wpAny_Name (wpAny_loadName_local kh nask (by rw [lh];exact hns₁) (ask_at _) ?_) ask_dbg)
  refine callWith_of (P:=KeepOk (model PW G.w) (.ref f)) rfl (fun h p=>p) (evalArgs_any rfl ?_)
  refine Calls.spliced_nil ⟨⟨.frame,.inl rfl,(Looks.ld (part:=none) (hk₁ _ _ ho)).andThen .now⟩,?_⟩
  have hcd₁:h₁.CodeRec (.ref c') qual:=by
    obtain⟨c₂,oc,vs,t,e2,hoc,hd,hv⟩:=hcd
    exact⟨c₂,oc,vs,t,e2,hk₁ _ _ hoc,hd,hv⟩
  refine wpAny_call (codeAny_mono (lam_run O KO Ok hev (A:=C.A.deeper envh) (outer:=envh::C.frs) (Around.frames_deeper C.frames) C.handled (by show C.A.depth+1+70≤800;omega) (by show C.A.units+3+260≤800;omega) hO₁ gr.st (hk₁ _ _ ho) hcd₁ hlen (fun i o b v e e'=>?_) (fun i o b e=>?_)) fun q s' z=>?_)
  · obtain ⟨j,o',v',h1,h2,h3⟩:=hρ i o b e
    rw [h3] at e';cases e'
    obtain⟨_,ob,r,h4,h5,h6⟩:=hk.cell j o' b _ h1 h2
    exact⟨ob,r,hk₁ _ _ h4,h5,h6⟩
  · obtain ⟨j,o',v',h1,h2,h3⟩:=hρ i o b e
    obtain⟨h0,ob,r,h4,h5,h6⟩:=hk.cell j o' b _ h1 h2
    exact⟨h0.step rfl gr,ob,some r,hk₁ _ _ h4,h5⟩
  obtain⟨e,rfl,g',σ₂,c,B,x,a0,rfl,h2,h3,h4,h5,h6⟩:=z
  simp only [Mine.R.exc.injEq] at h6
  obtain⟨rfl,rfl⟩:=h6
  refine wpAny_looks_onW (Around.frames_deeper C.frames) fh h3 fun h' hheld hsm=>?_
  refine wpAny_landsW hheld fun h'' hfl hsm'=>?_
  refine handler_ok (s:={s' with heap:=h''}) hK hcc h2.st kh gh n71 n24 hfl h4 h5 fun s'' hs'' kp fr=>?_
  refine hR g' s'' hs'' ?_
  have hl:Land TT G (framesOf (envh::C.frs)) g s.heap g' σ' B:=⟨h2.st,h2.le,fun a o e na nh=>h2.keep a o (hk₁ _ _ e) na nh,fun a o l=>h2.newF a o (hk₁ _ _ l),fun a o l=>h2.newA a o (hk₁ _ _ l)⟩
  refine hk.caught hS hl (fun a ha=>?_) kp fr.2.2
  unfold framesOf at ha
  rw [List.filterMap_cons,fh] at ha
  rcases List.mem_cons.mp ha with rfl |ha
  · exact⟨hS.none_size0,fun i o ob e=>by rw [nL] at e;cases e⟩
  · exact⟨(hk.off.frames.mem ha).1,fun i o _ _=>hframe a ha i o⟩
end
end Mine
namespace Mine
noncomputable def cl1(L:Addr):Nat→Option (Bool×Addr)
  |0=>some (false,L+3)
  |1=>some (false,L+7)
  |_=>none
noncomputable def cl2(L:Addr):Nat→Option (Bool×Addr)
  |0=>some (false,L+4)
  |1=>some (false,L+5)
  |2=>some (false,L+6)
  |3=>some (false,L+8)
  |_=>none
noncomputable abbrev co1(L:Addr):List (Str×Addr):= [(nmT 59,L+7),(nmT 313,L+3)]
noncomputable abbrev co2(L:Addr):List (Str×Addr):= [(nmT 32,L+8),(nmT 28,L+6),(nmT 314,L+5),(nmT 147,L+4)]
theorem l1a(L:Addr):(co1 L).lookup (nmOf TT f_lam1.ns 0)=some (L+3):=by kernel_rfl
theorem l1b(L:Addr):(co1 L).lookup (nmOf TT f_lam1.ns 1)=some (L+7):=by kernel_rfl
theorem l2a(L:Addr):(co2 L).lookup (nmOf TT f_lam2.ns 0)=some (L+4):=by kernel_rfl
theorem l2b(L:Addr):(co2 L).lookup (nmOf TT f_lam2.ns 1)=some (L+5):=by kernel_rfl
theorem l2c(L:Addr):(co2 L).lookup (nmOf TT f_lam2.ns 2)=some (L+6):=by kernel_rfl
theorem l2d(L:Addr):(co2 L).lookup (nmOf TT f_lam2.ns 3)=some (L+8):=by kernel_rfl
theorem k1:((List.range 2).all fun i=>hasKind sc_lam1 .free (nmOf TT f_lam1.ns i))=true:=by kernel_rfl
theorem k2:((List.range 4).all fun i=>hasKind sc_lam2 .free (nmOf TT f_lam2.ns i))=true:=by kernel_rfl
theorem k1g:(f_lam1.gs.all fun k=>hasKind sc_lam1 .globalImplicit (nmT k))=true:=by kernel_rfl
theorem k2g:(f_lam2.gs.all fun k=>hasKind sc_lam2 .globalImplicit (nmT k))=true:=by kernel_rfl
theorem g1:f_lam1.gs.map (fun k=>tab1 k gloT)=f_lam1.gv.map some:=by kernel_rfl
theorem g2:f_lam2.gs.map (fun k=>tab1 k gloT)=f_lam2.gv.map some:=by kernel_rfl
theorem k1s:hasKind sc_lam1 .globalImplicit "super"=false:=by kernel_rfl
theorem k2s:hasKind sc_lam2 .globalImplicit "super"=false:=by kernel_rfl
theorem inj_of{fl:Fn}(nd:fl.ns.Nodup): ∀i j,i<fl.ns.length→j<fl.ns.length→nmOf TT fl.ns i=nmOf TT fl.ns j→i=j:=fun i j hi hj e=>by
  have:=nmT_inj _ _ e
  rw [List.getD_eq_getElem?_getD,List.getD_eq_getElem?_getD,List.getElem?_eq_getElem hi,List.getElem?_eq_getElem hj] at this
  exact(List.getElem_inj nd).mp this
theorem glo_of{G:Gx}(hK:G.K=KP G.w.params){fl:Fn}{scl:Scope}(hl:fl.gs.length=fl.gv.length)(hk:(fl.gs.all fun k=>hasKind scl .globalImplicit (nmT k))=true)(hg:fl.gs.map (fun k=>tab1 k gloT)=fl.gv.map some):
    ∀i v,fl.gv[i]? =some v→scl.names.lookup (nmOf TT fl.gs i)=some .globalImplicit∧GloOk TT G.K (fl.gs.getD i 0) v:=fun i v h=>by
  have hi:i<fl.gv.length:=(List.getElem?_eq_some_iff.mp h).1
  have hi':i<fl.gs.length:=by rw [hl];exact hi
  have hm:fl.gs.getD i 0∈fl.gs:=by rw [List.getD_eq_getElem?_getD,List.getElem?_eq_getElem hi'];exact List.getElem_mem hi'
  rw [List.all_eq_true] at hk
  refine⟨hasKind_iff.mp (hk _ hm),?_⟩
  rw [hK]
  refine glo_ok G.w.params _ v ?_
  have:=congrArg (fun l=>l[i]?) hg
  simp only [List.getElem?_map,h,Option.map_some,List.getElem?_eq_getElem hi',Option.some.injEq] at this
  rw [List.getD_eq_getElem?_getD,List.getElem?_eq_getElem hi']
  exact this
section
variable {G:Gx}(hK:G.K=KP G.w.params){fd:FuncData}(hs:fd.scope=lawScope)(hg:fd.globals=mainGlobals)(hb:fd.builtins=builtinsNs){L a:Addr}
include hK in
theorem lam1Ok:LamOk G f_lam1 sc_lam1 (co1 L) (cl1 L) where
  kind:=rfl
  co:=rfl
  gen:=rfl
  cell:=fun y hy=>by
    simp only [sc_lam1,List.mem_cons,List.not_mem_nil,or_false] at hy
    rcases hy with rfl |rfl |rfl<;>exact fun q=>(by cases q)
  cel:=fun i hi=>by
    have hi':i<2:=hi
    have hk:=k1
    rw [List.all_eq_true] at hk
    have h:=hasKind_iff.mp (hk i (List.mem_range.mpr hi'))
    have:i=0∨i=1:=by omega
    rcases this with rfl |rfl
    · exact⟨L+3,rfl,h,l1a L⟩
    · exact⟨L+7,rfl,h,l1b L⟩
  celO:=fun i hi=>by
    have hi':2≤i:=hi
    unfold cl1
    split<;>first |rfl |(exfalso;omega)
  clIn:=fun i hi=>by
    have hi':i<2:=hi
    have:i=0∨i=1:=by omega
    rcases this with rfl |rfl<;>rfl
  clInj:=fun i j o o' b h h'=>by
    unfold cl1 at h h'
    split at h<;>split at h'<;>simp only [Option.some.injEq,Prod.mk.injEq,reduceCtorEq] at h h'<;>first |rfl |(exfalso;obtain⟨_,rfl⟩:=h;obtain⟨_,q⟩:=h';exact absurd (Nat.add_left_cancel q) (by decide))
  glo:=glo_of hK rfl k1g g1
  nosup:=fun q=>by have:=hasKind_iff.mpr q;rw [k1s] at this;cases this
  inj:=inj_of (by decide)
include hK in
theorem lam2Ok:LamOk G f_lam2 sc_lam2 (co2 L) (cl2 L) where
  kind:=rfl
  co:=rfl
  gen:=rfl
  cell:=fun y hy=>by
    simp only [sc_lam2,List.mem_cons,List.not_mem_nil,or_false] at hy
    rcases hy with rfl |rfl |rfl |rfl |rfl |rfl<;>exact fun q=>(by cases q)
  cel:=fun i hi=>by
    have hi':i<4:=hi
    have hk:=k2
    rw [List.all_eq_true] at hk
    have h:=hasKind_iff.mp (hk i (List.mem_range.mpr hi'))
    have:i=0∨i=1∨i=2∨i=3:=by omega
    rcases this with rfl |rfl |rfl |rfl
    · exact⟨L+4,rfl,h,l2a L⟩
    · exact⟨L+5,rfl,h,l2b L⟩
    · exact⟨L+6,rfl,h,l2c L⟩
    · exact⟨L+8,rfl,h,l2d L⟩
  celO:=fun i hi=>by
    have hi':4≤i:=hi
    unfold cl2
    split<;>first |rfl |(exfalso;omega)
  clIn:=fun i hi=>by
    have hi':i<4:=hi
    have:i=0∨i=1∨i=2∨i=3:=by omega
    rcases this with rfl |rfl |rfl |rfl<;>rfl
  clInj:=fun i j o o' b h h'=>by
    unfold cl2 at h h'
    split at h<;>split at h'<;>simp only [Option.some.injEq,Prod.mk.injEq,reduceCtorEq] at h h'<;>first |rfl |(exfalso;obtain⟨_,rfl⟩:=h;obtain⟨_,q⟩:=h';exact absurd (Nat.add_left_cancel q) (by decide))
  glo:=glo_of hK rfl k2g g2
  nosup:=fun q=>by have:=hasKind_iff.mpr q;rw [k2s] at this;cases this
  inj:=inj_of (by decide)
include hK hs hg hb in
theorem lclo1:closureFor sc_lam1 (lawEnv fd L a)=pure (co1 L):=by
  have h1:=(lw_kc hK hs hg hb (a:=a) (L:=L) 13 true (L+3) (by decide) rfl).2
  have h2:=(lw_kc hK hs hg hb (a:=a) (L:=L) 17 true (L+7) (by decide) rfl).2
  have h1':(lawEnv fd L a).cells.lookup (nmT 313)=some (L+3):=h1
  have h2':(lawEnv fd L a).cells.lookup (nmT 59)=some (L+7):=h2
  simp only [closureFor,sc_lam1,cellOf]
  simp only [List.forIn_cons,List.forIn_nil,h1',h2']
  rfl
include hK hs hg hb in
theorem lclo2:closureFor sc_lam2 (lawEnv fd L a)=pure (co2 L):=by
  have h1:(lawEnv fd L a).cells.lookup (nmT 147)=some (L+4):=(lw_kc hK hs hg hb (a:=a) (L:=L) 14 true (L+4) (by decide) rfl).2
  have h2:(lawEnv fd L a).cells.lookup (nmT 314)=some (L+5):=(lw_kc hK hs hg hb (a:=a) (L:=L) 15 true (L+5) (by decide) rfl).2
  have h3:(lawEnv fd L a).cells.lookup (nmT 28)=some (L+6):=(lw_kc hK hs hg hb (a:=a) (L:=L) 16 true (L+6) (by decide) rfl).2
  have h4:(lawEnv fd L a).cells.lookup (nmT 32)=some (L+8):=(lw_kc hK hs hg hb (a:=a) (L:=L) 18 true (L+8) (by decide) rfl).2
  simp only [closureFor,sc_lam2,cellOf]
  simp only [List.forIn_cons,List.forIn_nil,h1,h2,h3,h4]
  rfl
end
end Mine
namespace Mine
section
variable {G:Gx}(hK:G.K=KP G.w.params){fd:FuncData}(hs:fd.scope=lawScope)(hg:fd.globals=mainGlobals)(hb:fd.builtins=builtinsNs){L a:Addr}
theorem eval_call1{env:PySem.Env}{pos np:Pos}{x:Str}{e:PySem.Expr}:eval (.Call (.Name x np) [e] [] pos) env=(do callWith pos (←eval (.Name x np) env) [] (backTo pos (starEach [e] env)) (backToKw pos (keywordEach [] env))):=rfl
theorem lam_star{p:Arguments}{b:PySem.Expr}{sc:Scope}{q:Pos}{env:PySem.Env}{rest:List PySem.Expr}:starEach (.Lambda p b sc q::rest) env=(false,eval (.Lambda p b sc q) env)::starEach rest env:=rfl
theorem f1412:TT.fnAddr 2412=1412:=by kernel_rfl
theorem law_gv20:f_law.gv[20]? =some (.fn 2412):=rfl
theorem cls1071:TT.clsAddr 1071=71:=by kernel_rfl
theorem cls1083:TT.clsAddr 1083=83:=by kernel_rfl
include hK hs hg hb in
theorem heard_one{mg:Str→Option Value}(B:Base G 1416 mg)(hcd:fd.code= .ref 1416){fl:Fn}{scl:Scope}{clos:List (Str×Addr)}{celL:Nat→Option (Bool×Addr)}(Ok:LamOk G fl scl clos celL)(hcl:closureFor scl (lawEnv fd L a)=pure clos){el:Ex}{ρ ρl:List (Option V)}{cc:Nat}{σ σ':Sg}
    (hev:evalE TT (call TT 30) fl ρl el σ= .exc cc σ') (hcc:TT.clsAddr cc=71∨TT.clsAddr cc=83) {g:Gh} {s:Shared} {ps:Array Value} (hst:St TT G g σ s) (hk:Kept (LC hK hs hg hb L a) g ρ ps s) {lp np pos:Pos} (ht:TriplesOk ps.toList) (hnf:codeAmong lp ps.toList=none)
    (hlen:ρl.length=fl.ns.length) (hρ: ∀i o b,celL i=some (o,b)→ ∃j o' v,lawCel L j=some (o',b)∧ρ[j]? =some (some v)∧ρl[i]? =some (some v)) {Q E:Value→Shared→Prop}
    (h: ∀g' s' c',St TT G g' σ' s'→Kept (LC hK hs hg hb L a) g' ρ (ps++ #[rawInt lp.line,rawInt lp.col,.ref c']) s'→Q (.bool true) s'):
    wpAny (model PW G.w) (LC hK hs hg hb L a).A (eval (.Call (.Name (nmOf TT f_law.gs 20) np) [.Lambda noArgs (erE TT fl el) scl lp] [] pos) (LC hK hs hg hb L a).env) Q E s:=by
  rw [eval_call1]
  obtain⟨hk20,r,hr,hrep⟩:=(LC hK hs hg hb L a).glo 20 _ law_gv20
  have KI:=Gx.frag hst
  refine wpAny_bind (Name_function_global (LC hK hs hg hb L a).kind hk20 ?_ ((LC hK hs hg hb L a).nodbg _))
  have fin: ∀r,(∀P g,Rep TT P g (.fn 2412) r)→wpAny (model PW G.w) (LC hK hs hg hb L a).A (callWith pos r [] (backTo pos (starEach [.Lambda noArgs (erE TT fl el) scl lp] (LC hK hs hg hb L a).env)) (backToKw pos (keywordEach [] (LC hK hs hg hb L a).env))) Q E s:=by
    intro r hrep
    have hr':=rep_fn.mp (hrep G.w.params g)
    rw [f1412] at hr'
    subst hr'
    refine callWith_of (P:=KeepOk (model PW G.w) (.ref 1412)) rfl (fun h p=>p) (evalArgs_any rfl ?_)
    rw [lam_star]
    refine Calls.spliced_cons (lam_make B hcd hst hk ht hnf hcl fun f c' ctv pm qual s' hst' hk' ho hcr=>?_)
    refine Calls.spliced_nil ⟨?_,?_⟩
    · obtain ⟨k,q1,q2⟩:=looks_keep (M:=model PW G.w) (hd_keep G.w.params) (show(KP G.w.params).In s'.heap by rw [←hK];exact Gx.frag hst')
      exact⟨k,q1.elim .inl fun e=> .inr (.inl e),q2⟩
    · refine wpAny_call (heard_call (C:=LC hK hs hg hb L a) hK (okG hK) (prog_call hK 30) Ok hev hcc (by show callerA.depth+1+71≤800;rw [depth_caller];decide) (by show callerA.units+3+263≤800;rw [units_caller];decide) (fun b hb' i o e=>?_) hst' hk' ho hcr hlen hρ fun g' s'' hst'' hk''=>h g' s'' c' hst'' hk'')
      have:b∈ [L] :=hb'
      rw [List.mem_singleton] at this
      subst this
      exact(LC hK hs hg hb b a).clNe i o b e rfl
  unfold loadGlobal
  rw [(LC hK hs hg hb L a).glob]
  rcases hr with hr |⟨h1,h2,h3⟩
  · exact wpAny_bind ((looks_nsIn KI hr).here (wpAny_pure (fin r hrep)))
  · refine wpAny_bind ((looks_nsIn KI h1).here ?_)
    rw [(LC hK hs hg hb L a).blt]
    obtain⟨o,es,ep,ho,q⟩:=G.nb
    refine wpAny_bind (wpAny_nsGet (m:=G.mb) ⟨o,es,ep,hst.fz _ _ (hst.base _ _ ho G.offb),q⟩ ?_)
    rw [show G.mb (nmOf TT f_law.gs 20)=some r from(G.keyed _ h3).trans h2]
    exact wpAny_pure (fin r hrep)
include hK hs hg hb in
theorem law_s20{mg:Str→Option Value}(B:Base G 1416 mg)(hcd:fd.code= .ref 1416){q:Nat}{bad:V}{more:List V}{ρ:List (Option V)}{σ3:Sg}
    (r13:ρ[13]? =some (some bad)) (r17:ρ[17]? =some (some Sc)) (r14:ρ[14]? =some (some dL)) (r15:ρ[15]? =some (some (.lst more))) (r16:ρ[16]? =some (some (.obj 9 false 10))) (r18:ρ[18]? =some (some (.str q)))
    (e1:evalE TT (call TT 30) f_lam1 [some bad,some Sc] e_lam1 σ3= .exc 1071 σ3) (e2: ∃σ4,evalE TT (call TT 30) f_lam2 [some dL,some (.lst more),some (.obj 9 false 10),some (.str q)] e_lam2 σ3= .exc 1083 σ4)
    {g:Gh} {s:Shared} (hst:St TT G g σ3 s) (hf:Fm (LC hK hs hg hb L a) g ρ s) (hF:g.F G.tab=none) (hT:s.heap.get? G.tab=some (tabObj #[])) {Q:Flow→Shared→Prop} {E:Value→Shared→Prop}
    (h: ∀g' σ' s' ps,St TT G g' σ' s'→s'.heap.get? G.tab=some (tabObj ps)→Q (.ret (.bool true)) s'):
    wpAny (model PW G.w) (LC hK hs hg hb L a).A (exec s_law20 (LC hK hs hg hb L a).env) Q E s:=by
  obtain⟨σ4,e2⟩:=e2
  have hk:=Kept.of hst hf hF hT
  refine wpAny_Return_some ?_
  show wpAny _ _ (do
    let v ←eval (.Call (.Name (nmOf TT f_law.gs 20) ⟨1031,11,1031,21⟩) [.Lambda noArgs (erE TT f_lam1 e_lam1) sc_lam1 ⟨1032,0,1032,28⟩] [] ⟨1031,11,1032,30⟩) (LC hK hs hg hb L a).env
    standAt ⟨1031,11,1033,55⟩
    let t ←holding [v] (truthy v)
    match BoolOp.And,t with
    | .And,false | .Or,true=>pure v
    |_,_=>boolOp ⟨1031,11,1033,55⟩ .And (evalEach [.Call (erE TT f_law e_heard2) [x_lam2] [] ⟨1032,35,1033,55⟩] (LC hK hs hg hb L a).env)) _ _ _
  refine wpAny_bind (heard_one hK hs hg hb B hcd (lam1Ok hK) (lclo1 hK hs hg hb) e1 (.inl cls1071) hst hk trivial rfl rfl (fun i o b e=>?_) fun g₁ s₁ c₁ st₁ k₁=>?_)
  · unfold cl1 at e
    split at e<;>simp only [Option.some.injEq,Prod.mk.injEq,reduceCtorEq] at e
    · obtain⟨rfl,rfl⟩:=e;exact⟨13,true,bad,rfl,r13,rfl⟩
    · obtain⟨rfl,rfl⟩:=e;exact⟨17,true,Sc,rfl,r17,rfl⟩
  refine wpAny_bind (wpAny_standAt (wpAny_bind (wpAny_holding (wpAny_truthy_bool ?_))))
  show wpAny _ _ (eval (.Call (.Name (nmOf TT f_law.gs 20) _) [.Lambda noArgs (erE TT f_lam2 e_lam2) sc_lam2 ⟨1033,0,1033,53⟩] [] ⟨1032,35,1033,55⟩) (LC hK hs hg hb L a).env) _ _ _
  refine heard_one hK hs hg hb B hcd (lam2Ok hK) (lclo2 hK hs hg hb) e2 (.inr cls1083) st₁ k₁ trivial rfl rfl (fun i o b e=>?_) fun g₂ s₂ c₂ st₂ k₂=>h g₂ σ4 s₂ _ st₂ k₂.tab
  unfold cl2 at e
  split at e<;>simp only [Option.some.injEq,Prod.mk.injEq,reduceCtorEq] at e
  · obtain⟨rfl,rfl⟩:=e;exact⟨14,true,dL,rfl,r14,rfl⟩
  · obtain⟨rfl,rfl⟩:=e;exact⟨15,true,.lst more,rfl,r15,rfl⟩
  · obtain⟨rfl,rfl⟩:=e;exact⟨16,true,.obj 9 false 10,rfl,r16,rfl⟩
  · obtain⟨rfl,rfl⟩:=e;exact⟨18,true,.str q,rfl,r18,rfl⟩
end
end Mine
namespace Mine
noncomputable def lawBody:List Stmt:=erSs TT f_law b_law1++(s_law10::(erSs TT f_law b_law2++(s_law12::s_law13::(erSs TT f_law b_law3++ [s_law20]))))
theorem p1:plainSs b_law1=true:=by kernel_rfl
theorem p2:plainSs b_law2=true:=by kernel_rfl
theorem p3:plainSs b_law3=true:=by kernel_rfl
section
variable {G:Gx}(hK:G.K=KP G.w.params){fd:FuncData}(hs:fd.scope=lawScope)(hg:fd.globals=mainGlobals)(hb:fd.builtins=builtinsNs){L a:Addr}
noncomputable abbrev TabIs(G:Gx)(g:Gh)(s:Shared):Prop:=g.F G.tab=none∧s.heap.get? G.tab=some (tabObj #[])
theorem TabIs.step{fn:Fn}{n:Nat}{C:Cx TT G fn n}{g g':Gh}{σ σ':Sg}{s s':Shared}{ρ:List (Option V)}(hst:St TT G g σ s)(hf:Fm C g ρ s)(t:TabIs G g s)(y:StepL TT G C.priv g σ s g' σ' s'):TabIs G g' s':=
  ⟨y.newF _ _ t.2 t.1 hst.tabA,y.keep _ _ t.2 hst.tabA fun m=>by
    obtain⟨_,_,h,_⟩:=hf.own _ m
    obtain⟨o,e⟩:=G.tabL
    rw [h] at e;cases e⟩
include hK hs hg hb in
theorem law_body{mg:Str→Option Value}(B:Base G 1416 mg)(hcd:fd.code= .ref 1416){l:List Int}(hl:l.length≤100000){s:Shared}(hst:St TT G (gh0 G) ⟨[],[]⟩ s)(hf:Fm (LC hK hs hg hb L a) (gh0 G) (some (.lst (l.map .int))::List.replicate 18 none) s)(t0:TabIs G (gh0 G) s)
    {Q:Flow→Shared→Prop} {E:Value→Shared→Prop} (h: ∀g' σ' s' ps,St TT G g' σ' s'→s'.heap.get? G.tab=some (tabObj ps)→Q (.ret (.bool true)) s'):
    wpAny (model PW G.w) (LC hK hs hg hb L a).A (execs lawBody (LC hK hs hg hb L a).env) Q E s:=by
  have O:=okG hK
  have KO:=prog_call hK 30
  have RO:=raise_ok hK
  have hi:=law_hi hK hs hg hb (L:=L) (a:=a)
  have W:=law_own hK hs hg hb (L:=L) (a:=a)
  obtain⟨d,x,e1⟩:=law1 (n:=0) l hl
  refine ss_then O KO RO rfl hi W b_law1 p1 _ _ e1 _ _ hst hf (fun ρ₁ q₁ g₁ s₁ y₁=>?_) fun v q=>by cases q
  cases q₁
  have t1:=t0.step hst hf y₁.step
  refine wpAny_execs_cons (law_s10 hK hs hg hb x y₁.step.st y₁.fm fun g₂ s₂ y₂=>?_)
  have t2:=t1.step y₁.step.st y₁.fm y₂.step
  obtain⟨m2,af,e2⟩:=law2 (n:=0) (sc:= .lst (l.map .int)) x
  refine ss_then O KO RO rfl hi W b_law2 p2 _ _ e2 _ _ y₂.step.st y₂.fm (fun ρ₃ q₃ g₃ s₃ y₃=>?_) fun v q=>by cases q
  cases q₃
  have t3:=t2.step y₂.step.st y₂.fm y₃.step
  refine wpAny_execs_cons (law_s12 hK hs hg hb x af y₃.step.st y₃.fm fun g₄ s₄ y₄=>?_)
  have t4:=t3.step y₃.step.st y₃.fm y₄.step
  refine wpAny_execs_cons (law_s13 hK hs hg hb x af y₄.step.st y₄.fm fun g₅ s₅ y₅=>?_)
  have t5:=t4.step y₄.step.st y₄.fm y₅.step
  rcases law3 (n:=0) (sc:= .lst (l.map .int)) x af with⟨σ',e3⟩ |⟨q,bad,more,ρ',σ3,e3,r13,r17,r14,r15,r16,r18,ex1,ex2⟩
  · refine ss_then O KO RO rfl hi W b_law3 p3 _ _ e3 _ _ y₅.step.st y₅.fm (fun ρ₆ q=>by cases q) fun v q₆ r g₆ s₆ y₆ hr=>?_
    cases q₆
    obtain rfl:=rep_bool.mp hr
    exact h g₆ _ s₆ _ y₆.st (t5.step y₅.step.st y₅.fm y₆).2
  · refine ss_then O KO RO rfl hi W b_law3 p3 _ _ e3 _ _ y₅.step.st y₅.fm (fun ρ₆ q₆ g₆ s₆ y₆=>?_) fun v q=>by cases q
    cases q₆
    have t6:=t5.step y₅.step.st y₅.fm y₆.step
    exact wpAny_execs_cons (law_s20 hK hs hg hb B hcd r13 r17 r14 r15 r16 r18 ex1 ex2 y₆.step.st y₆.fm t6.1 t6.2 fun g₇ σ₇ s₇ ps st₇ tb₇=>h g₇ σ₇ s₇ ps st₇ tb₇)
theorem n212:lawScope.names.lookup (nmT 212)=some .local:=by kernel_rfl
include hK hs hg hb in
theorem law_call{mg:Str→Option Value}(B:Base G 1416 mg)(hcd:fd.code= .ref 1416){l:List Int}(hl:l.length≤100000){s:Shared}(h0:s.heap=G.g₀)(gs:s.gens= #[])(os:s.os=G.os₀)(ht:s.heap.get? G.tab=some (tabObj #[]))
    {o:Obj} (ho:s.heap.get? a=some o) (hd:o.data= .func fd) (hbody:fd.body= .stmts lawBody) (hrec:s.heap.CodeRec fd.code fd.qualname) (hclo:fd.closure= []) {v:Value} (hbind:bindArgs fd ⟨[v],[]⟩=pure [(nmT 212,v)]) (hv:Rep TT G.w.params (gh0 G) (.lst (l.map .int)) v)
    {R:Result→Shared→Prop} (h: ∀g' σ' s' ps,St TT G g' σ' s'→s'.heap.get? G.tab=some (tabObj ps)→R (.ok (.ret (.bool true))) s'):
    codeAny (model PW G.w) callerA (.call (.ref a) ⟨[v],[]⟩) R s:=by
  have hst:=st0 (G:=G) h0 gs os
  have kf:fd.scope.kind= .function:=by rw [hs];rfl
  refine codeAny_call_cells (by rw [depth_caller];decide) ho hd hst.nolimit hrec hbody hbind hclo (fun x hx=>?_) (fun s₁ x=>?_) (by rw [hs];rfl) (by rw [hs];rfl) kf
  · rw [List.mem_singleton] at hx;subst hx
    left;rw [hs];exact n212
  have kn:(callEnvC fd s.heap.objs.size a).kindOf (nmT 212)=some .local:=by show fd.scope.names.lookup (nmT 212)=_;rw [hs];exact n212
  have x':InCallC s s.heap.objs.size (fun y=>if y=nmT 212 then some v else none) (lawEnv fd s.heap.objs.size a).cells (bindC (callEnvC fd s.heap.objs.size a).kindOf [(nmT 212,v)] fun _=>none) s₁:=by
    have:=x
    unfold bindL at this
    rw [if_pos kn] at this
    exact this
  obtain⟨st₁,fm₁⟩:=law_enter hK hs hg hb h0 hst hv rfl x'
  have t1:TabIs G (gh0 G) s₁:=⟨by simp [gh0],x.toInCall.keep _ _ ht⟩
  exact wpAny_mono (law_body hK hs hg hb B hcd hl st₁ fm₁ t1 (Q:=fun f s'=>R (.ok (.ret (match f with | .ret v=>v |_=> .none))) s') fun g' σ' s' ps st tb=>h g' σ' s' ps st tb) (fun _ _ q=>q) fun _ _ q=>q
end
end Mine
end
section
open PySem PySem.W PyProof.Rows
set_option maxRecDepth 100000
set_option maxHeartbeats 0
namespace Mine
noncomputable def view1:Program:=view PW [138]
noncomputable def loose1:List Str:=PW.boundNames.filter fun n=>n !=("law":Str)
noncomputable def posZ:Pos:=⟨0,0,0,0⟩
noncomputable abbrev startS(w:World)(os:OsState):Shared:=(⟨Tp.tr0 w.params,15,{},⟨[]⟩,{},187,os⟩:SharedT).abs
theorem pre_run(w:World)(os:OsState):topGo treeTable PW w 11 (some (.ref 6)) 12 ⟨boot_heap w.params,Array.mk [],boot_drawn,boot_toks,os⟩ (topStub PW)=
    some (startS w os,⟨denote treeTable (.body (behindTheImports PW) Tp.topEnv),.body (behindTheImports PW) Tp.topEnv,posZ,[topFrame posZ]⟩):=by kernel_rfl
theorem block_run(w:World)(os:OsState)(b:List Stmt)(hb:blockStart b Tp.topEnv=pure ()):segRun treeTable PW w 11 (some (.ref 6)) 1 1 (startS w os)
    (blockOf b Tp.topEnv (.body b Tp.topEnv) posZ [topFrame posZ])=some (.next,startS w os,.body b Tp.topEnv,posZ):=by
  unfold blockOf
  rw [hb]
  kernel_rfl
theorem block_pure:blockStart (behindTheImports PW) Tp.topEnv=pure ():=by kernel_rfl
theorem fin_run (w:World) (os:OsState) (b:List Stmt):topRun treeTable PW w 11 (some (.ref 6)) 3
        ((⟨Tp.topTree w.params,1418,{},⟨[]⟩,{},2149,os⟩:SharedT).abs)
        (restOf [] Tp.topEnv (.body b Tp.topEnv) ⟨1006,0,1033,55⟩ [topFrame posZ])=some ⟨topHeap w.params,⟨[]⟩,{},2149,os⟩:=by kernel_rfl
theorem seg_go{N M n k n' k':Nat}{t t':Params→BT}{p p':Pos}{l l':List Stmt}(h:Tp.Seg N t n k p l t' n' k' p'){w:World}{os:OsState}{b:List Stmt}{r:Shared}
    (q:topRun treeTable PW w 11 (some (.ref 6)) M (⟨t' w.params,n',{},⟨[]⟩,{},k',os⟩:SharedT).abs (restOf l' Tp.topEnv (.body b Tp.topEnv) p' [topFrame posZ])=some r):
    topRun treeTable PW w 11 (some (.ref 6)) (N+M) (⟨t w.params,n,{},⟨[]⟩,{},k,os⟩:SharedT).abs (restOf (l++l') Tp.topEnv (.body b Tp.topEnv) p [topFrame posZ])=some r:=
  piece_app (segRun_of (congrFun (congrFun (congrFun (h w) PW) b) os)) q
theorem all_sl:behindTheImports PW=Tp.sl 0 16++(Tp.sl 16 4++(Tp.sl 20 13++(Tp.sl 33 37++(Tp.sl 70 9++(Tp.sl 79 5++(Tp.sl 84 3++(Tp.sl 87 36++(Tp.sl 123 16++ [])))))))):=by kernel_rfl
theorem body_run(w:World)(os:OsState)(b:List Stmt):topRun treeTable PW w 11 (some (.ref 6)) (1201+(1087+(1265+(1212+(1104+(1044+(1034+(1272+(494+3)))))))))
    (startS w os) (restOf (behindTheImports PW) Tp.topEnv (.body b Tp.topEnv) posZ [topFrame posZ])=some ⟨topHeap w.params,⟨[]⟩,{},2149,os⟩:=by
  rw [all_sl]
  exact seg_go Tp.seg0 (seg_go Tp.seg1 (seg_go Tp.seg2 (seg_go Tp.seg3 (seg_go Tp.seg4 (seg_go Tp.seg5 (seg_go Tp.seg6 (seg_go Tp.seg7 (seg_go Tp.seg8 (fin_run w os b)))))))))
theorem whole_body: ∃M,Nat.ble M 20000=true∧ ∀(w:World) (os:OsState),topRun treeTable PW w 11 (some (.ref 6)) M ⟨boot_heap w.params,Array.mk [],boot_drawn,boot_toks,os⟩ (topStub PW)=some ⟨topHeap w.params,⟨[]⟩,{},2149,os⟩:=by
  refine⟨_,?_,fun w os=>go_top (pre_run w os) (piece_block (block_run w os _ block_pure) (body_run w os _))⟩
  rfl
end Mine
namespace Mine
noncomputable abbrev finS(w:World)(os:OsState):Shared:=⟨topHeap w.params,⟨[]⟩,{},2149,os⟩
theorem size_ok(w:World):((boot_heap w.params).isNs mainGlobals&&(Array.mk [] :Array GenState).size==0,(boot_heap w.params).objs.size,(boot_heap w.params).nsMap mainGlobals "__annotations__")=(true,11,some (.ref 6)):=by kernel_rfl
theorem l1(w:World):staticsOk (importedModules PW.main.body) (boot_heap w.params) (topHeap w.params)=true:=by kernel_rfl
theorem l3(w:World)(os:OsState):gensDone (finS w os)=true:=by kernel_rfl
theorem l4(w:World):laidKept (boot_heap w.params) (topHeap w.params)=true:=by kernel_rfl
theorem l2(w:World):namesBound PW (topHeap w.params)=true:=by kernel_rfl
theorem s1(w:World)(os:OsState):seen ((recsOf view1).map (·.name)) (ownsOf view1) [] {finS w os with gens:= #[]}=expectedOf view1:=by kernel_rfl
end Mine
namespace Mine
theorem s2(w:World):(topHeap w.params).bltView=bltViewBooted:=by kernel_rfl
theorem s3b(w:World):(topHeap w.params).accountedOkI (importedModules PW.main.body)=true:=by kernel_rfl
theorem s3c(w:World):(topHeap w.params).isNs mainGlobals=true:=by kernel_rfl
theorem s3d(w:World):(topHeap w.params).isNs builtinsNs=true:=by kernel_rfl
theorem s3e(w:World):tablesOk view1 (topHeap w.params)=true:=by kernel_rfl
theorem s4(w:World)(os:OsState):tabsOk view1 (finS w os)=true:=by kernel_rfl
theorem s5(w:World)(os:OsState):pinSeenD view1 (drecsOf view1) (finS w os)=pinGoodD (drecsOf view1):=by kernel_rfl
theorem s6(w:World)(os:OsState):plainSeenE view1 (looseW view1 loose1) (finS w os)=plainGoodE view1 (looseW view1 loose1):=by kernel_rfl
theorem s7(w:World)(os:OsState):plainSeenD view1 loose1 (finS w os)=plainGoodD view1 loose1:=by kernel_rfl
theorem s8(w:World)(os:OsState):wideSeen view1 (finS w os)=wideGood view1:=by kernel_rfl
theorem s9(w:World)(os:OsState):clsSeenW view1 loose1 (finS w os)=clsGoodW view1 loose1:=by kernel_rfl
theorem s3a(w:World):(topHeap w.params).keysOk (looseW view1 loose1) ((recsOf view1).map (·.name)) ((litsOf view1).map (·.1)) ((clssOf view1 (looseW view1 loose1)).map (·.name))=true:=by kernel_rfl
end Mine
end
section
open PySem PySem.Calls PySem.W PyProof.Rows
set_option maxRecDepth 100000
namespace Mine
noncomputable abbrev row1:OpenRow:=PySem.Challenge.rw_nn0096_01.row
noncomputable def lawD:DefRec:=match defOf view1 row1.name with
  |some (d,_)=>d
  |none=>⟨"",⟨[],[],none,[],[],none,[]⟩,[],lawScope,⟨0,0,0,0⟩⟩
theorem law_def:defOf view1 row1.name=some (lawD,[]):=by kernel_rfl
theorem lawD_name:lawD.name="law":=by kernel_rfl
theorem lawD_body:lawD.body=lawBody:=by kernel_rfl
theorem lawD_scope:lawD.scope=lawScope:=by kernel_rfl
theorem law_binds(pm cd doc v:Value):bindArgs {docDef lawD.name lawD.params lawD.body lawD.scope pm cd doc with defaults:= .none,kwdefaults:= .none} ⟨[v],[]⟩=pure [(nmT 212,v)] :=by kernel_rfl
theorem lawD_dflt:lawD.params.defaults.isEmpty=true:=by kernel_rfl
theorem law_the:row1.prog.theDef row1.name=some (lawD.params,lawD.body,lawD.scope):=by kernel_rfl
theorem law_kw:kwWritten? lawD.params.kwonlyargs lawD.params.kw_defaults=some [] :=by kernel_rfl
theorem law_at(P:Params):isRf 1417 (nsIn (KP P) mainGlobals "law")=true:=by kernel_rfl
theorem law_obj(P:Params):(KP P).lookup 1417=some ⟨(oIn (KP P) 1417).cls,(oIn (KP P) 1417).dict,.func (fdIn (KP P) 1417),(oIn (KP P) 1417).slots⟩:=by kernel_rfl
theorem law_cd(P:Params):(fdIn (KP P) 1417).code= .ref 1416:=by kernel_rfl
theorem tab_no(P:Params):(KP P).lookup 1414=none:=by kernel_rfl
theorem top_get{P:Params}{a:Nat}{o:Obj}(h:a<1418)(e:(topTree P).get a=some o)(f:o.isFreed=false):(topHeap P).get? a=some o:=by
  rw [Heap.get?_some_iff]
  exact⟨by unfold topHeap;rw [absHeap_at,if_pos h,e];rfl,f⟩
theorem tab_at(P:Params):(topHeap P).get? 1414=some (tabObj #[]):=top_get (by decide) (by kernel_rfl) rfl
theorem sys_at(P:Params): ∃o,(topHeap P).get? sysModules=some o:=⟨_,top_get (o:=((topTree P).get sysModules).getD default) (by decide) (by kernel_rfl) (by kernel_rfl)⟩
end Mine
namespace Mine
theorem well_int{h:Heap}{P:Params}{g:Gh}{v:Value}{i:Int}(w:Well P h v (.int i)):Rep TT P g (.int i) v:=by
  cases w with
  |int i t=>exact .int _ _
theorem well_ints{h:Heap}{P:Params}{g:Gh}: ∀{l:List Int} {vs:List Value},WellAll P h vs (l.map WData.int)→RepL TT P g (l.map V.int) vs
  | [],vs,w=>by
    cases w;exact .nil
  | i::l,vs,w=>by
    obtain⟨v,vs',rfl,w1,w2⟩:=wellAll_cons_inv w
    exact .cons (well_int w1) (well_ints w2)
theorem res_true(l:List Int):(WShape.has [] (.bool true) .bool&&WTm.holds [] (.eq .res (.lit (.bool true))) {args:= [.list (l.map .int)],res:=some (.bool true),after:= [.list (l.map .int)]})=true:=by kernel_rfl
theorem pre_len{xs:List WData}(e:(OpenLaw.pre PySem.Challenge.rw_nn0096_01).holds [] {args:= [.list xs]}=true):xs.length≤63:=by
  refine Nat.le_of_not_lt fun hlt=>?_
  have e2:=w_and (w_not (w_lt (w_lit (d:= .int 63)) (w_len_list (w_arg (R:= []) (e:={args:= [.list xs]}) (i:=0) rfl)))) (w_lit (d:= .bool true))
  rw [decide_eq_true (show(63:Int)< (xs.length:Int) from Int.ofNat_lt.mpr hlt)] at e2
  unfold WTm.holds at e
  rw [show(OpenLaw.pre PySem.Challenge.rw_nn0096_01).value [] {args:= [.list xs]}=some (.bool false) from e2] at e
  cases e
noncomputable abbrev Yp(w:World)(h:Heap):Prop:= ∀b o,(topHeap w.params).get? b=some o→h.get? b=some o
theorem law_walk:WalkO view1 loose1 (fun _ _=>True) Yp row1.toRowW lawD [] (fun f vs=>PySem.call f vs):=by
  intro w s₀ s₁ mg mb GR Y a o pm cd doc dV kV ho hd hrec hdf hmg hgens args vals as hpre hlay hrd hwl hlo
  have X:(KP w.params).In s₁.heap:=(kp_in w.params).keeps Y
  have ha:a=1417:=by
    have:=mg_of X GR.T.g (isRf_eq (law_at _))
    rw [lawD_name,this] at hmg
    injection hmg with q
    injection q with q
    exact q.symm
  subst ha
  have hcd:cd= .ref 1416:=by
    have q:=X _ _ (law_obj w.params)
    rw [ho] at q
    injection q with q
    subst q
    have hd':fdIn (KP w.params) 1417=_:=(by injection hd)
    have:=law_cd w.params
    rw [hd'] at this
    exact this
  subst hcd
  have hdV:dV= .none:=by
    rcases hdf.pos with q |q
    · exact q.2
    · exact absurd (List.isEmpty_iff.mp lawD_dflt) q.1
  have hkV:kV= .none:=by
    rcases hdf.kw with q |q
    · exact q.2
    · exact absurd rfl q.1
  subst hdV
  subst hkV
  obtain⟨oS,hS⟩:=sys_at w.params
  let G:Gx:=⟨w,KP w.params,s₁.heap,s₁.os,1414,mb,X,tab_no _,⟨_,Y _ _ (tab_at _)⟩,GR.T.b,GR.T.nolimit,GR.T.builtins,by decide,by decide,⟨⟨_,Y _ _ hS⟩,by decide⟩⟩
  have ht:s₁.heap.get? 1414=some (tabObj #[]):=Y _ _ (tab_at _)
  have B:Base G 1416 mg:=by
    refine⟨law_code _,GR.T.g,?_,show mainGlobals≠1414 by decide⟩
    obtain⟨bm,ob,b1,b2,b3,b4,b5,b6⟩:=GR.T.bmain
    refine⟨bm,ob,b1,b2,?_,?_,b3,b4,b5,b6⟩
    · rintro rfl
      obtain⟨o',es,ep,e,hd',_⟩:=GR.T.g
      rw [e] at b3;cases b3;rw [hd'] at b6;cases b6
    · intro q
      have q':bm=1414:=q
      rw [q',ht] at b3;cases b3;cases b4
  obtain⟨hp1,hp2⟩:=pre_splitW hpre
  obtain⟨d,r,rfl,hd1,hd2⟩:=hasAllW_cons hp1
  obtain rfl:=hasAllW_nil hd2
  obtain⟨xs,rfl,hxs⟩:=hasW_list hd1
  obtain⟨v,vs',rfl,hv,hvs⟩:=wellAll_cons_inv hwl
  cases hvs
  have hlen:xs.length≤63:=pre_len hp2
  cases hv with
  | @list ba vs _ hb hw=>
  obtain⟨l,rfl⟩:=items_int hxs
  have hr:=well_ints (g:=gh0 G) hw
  have hba:ba≠1414:=fun q=>by rw [q,ht] at hb;cases hb
  have hv:Rep TT G.w.params (gh0 G) (.lst (l.map .int)) (.ref ba):=rep_lst.mpr ⟨ba,vs,_,rfl,by
    show(if ba=1414 then none else s₁.heap.get? ba)=_
    rw [if_neg hba];exact hb,hr⟩
  refine wpAny_call (law_call (G:=G) rfl (fd:={docDef lawD.name lawD.params lawD.body lawD.scope pm (.ref 1416) doc with defaults:= .none,kwdefaults:= .none}) lawD_scope rfl rfl B rfl (l:=l) (by rw [List.length_map] at hlen;omega) rfl hgens rfl ht ho hd (by show FuncBody.stmts lawD.body=_;rw [lawD_body]) hrec rfl (law_binds _ _ _ _) hv fun g' σ' s' ps st tb=>?_)
  refine⟨.inl ⟨.bool true,.bool true,[],rfl,fun _=>rfl,.bool true,?_,fun _=>⟨.nil,fun _ h=>nomatch h⟩⟩,⟨fun b o e=>?_,fun b o e=>?_⟩,st.os,.of_eq st.gens⟩
  · exact res_true l
  · by_cases q:b=1414
    · subst q
      rw [ht] at e;cases e
      obtain⟨oc,vc,_,_,_,_,_,_,_,c1,c2,c3,c4,_⟩:=codeHd_of_K X (law_code w.params)
      exact .inr (.inl ⟨⟨1416,oc,vc,c1,c2,c3,c4⟩,rfl,#[],ps,rfl,by rw [Array.empty_append];exact tb⟩)
    · exact .inl (st.fz _ _ (st.base _ _ e q))
  · by_cases q:b=1414
    · subst q;exact⟨_,tb⟩
    · exact⟨_,st.fz _ _ (st.base _ _ e q)⟩
end Mine
end
section
open PySem PySem.W PyProof.Rows
set_option maxRecDepth 100000
set_option maxHeartbeats 0
namespace Mine
theorem row_ok1:chainsOk view1=true:=by kernel_rfl
theorem row_ok3:(frees PySem.Challenge.rw_nn0096_01.row.toRowW&&PySem.Challenge.rw_nn0096_01.row.within.isEmpty)=true:=by kernel_rfl
theorem row_ok2:opensWell PySem.Challenge.pw_nn0096_01=true:=by kernel_rfl
theorem law_open: ∀w:World,(fencedOpening treeTable PW w 20000).map (fun s=>(s.heap,s.gens,s.drawn,s.toks))=some (boot_heap w.params,Array.mk [],boot_drawn,boot_toks):=fun w=>boot_open (by kernel_rfl) (by kernel_rfl) (fun s=>by kernel_rfl) w
end Mine
namespace Mine
theorem pk{α β:Type}{a a':α}{b b':β}(h:a=a')(k:b=b'):(a,b)=(a',b'):=by cases h;cases k;rfl
theorem law_looks (w:World):(fun os=>((staticsOk (importedModules PW.main.body) (boot_heap w.params) (topHeap w.params)&&namesBound PW (topHeap w.params)&&gensDone ⟨topHeap w.params,⟨[]⟩,{},2149,os⟩&&laidKept (boot_heap w.params) (topHeap w.params)),
        openSeen view1 loose1 (importedModules PW.main.body) (fun _=>true) true ⟨topHeap w.params,⟨[]⟩,{},2149,os⟩,(⟨topHeap w.params,⟨[]⟩,{},2149,os⟩:Shared).heap))=fun _=>(true,openGood view1 loose1,topHeap w.params):=by
  funext os
  have a1:=l1 w
  have a2:=l2 w
  have a3:=l3 w os
  have a4:=l4 w
  have b1:=s1 w os
  have b2:=s2 w
  have b3a:=s3a w
  have b3b:=s3b w
  have b3c:=s3c w
  have b3d:=s3d w
  have b3e:=s3e w
  have b4:=s4 w os
  have b5:=s5 w os
  have b6:=s6 w os
  have b7:=s7 w os
  have b8:=s8 w os
  have b9:=s9 w os
  unfold openSeen openGood
  refine pk ?_ (pk (pk b1 (pk b2 (pk ?_ (pk b4 (pk b5 (pk b6 (pk b7 (pk b8 b9)))))))) rfl)
  · show (_&&_&&_&&_)=true
    rw [a1,a2,a4]
    exact a3
  · show (_&&_&&_&&_&&_&&true&&true)=true
    rw [b3a,b3b,b3c,b3d,b3e];rfl
theorem law_left:LeftO PW view1 loose1 (fun _=>true) Shared.heap (fun w=>topHeap w.params) 20000:=by
  obtain⟨M,le,run⟩:=whole_body
  exact LeftO.of_pieces law_open size_ok run le law_looks
end Mine
namespace Mine
noncomputable abbrev lw0:OpenLaw:=PySem.Challenge.rw_nn0096_01
theorem sd3:namesResolve lw0.row.prog=true:=by kernel_rfl
theorem sd5:noRoadLSs {strict:=!(importedModules lw0.row.prog.main.body).all cThrough.contains,foot:=none,bare:=(["vars","dir","locals"] :List Str).filter (readsOut lw0.row.prog lw0.row.prog.main.body)} lw0.row.prog.main.body=true:=by kernel_rfl
theorem sd6:(namesMeet lw0.row.prog lw0.row.prog.main.body fun _ n=>attrL n)=true:=by kernel_rfl
theorem sd27:noRoadLSs {strict:=true,foot:=some lw0.bound',writes:=lw0.writes,may:=lw0.may} lw0.footing=true:=by kernel_rfl
theorem sd31:lw0.bound'.all (fun n=>!builtinNamed n||lw0.about== [n] || !lw0.reads n)=true:=by kernel_rfl
theorem sd38:(namesMeet lw0.prog lw0.above fun _ n=>!lw0.own.contains n)=true:=by kernel_rfl
theorem looks_ok:looksOpen lw0.row.prog=true:=by
  unfold looksOpen
  rw [sd3,sd5,sd6];kernel_rfl
theorem row_well:lw0.row.wellSaid=true:=by
  unfold OpenRow.wellSaid OpenRow.partSaid
  rw [looks_ok];kernel_rfl
theorem law_well:lw0.wellSaid=true:=by
  unfold OpenLaw.wellSaid
  rw [row_well,sd27,sd31,sd38];kernel_rfl
end Mine
end
section
open PySem PySem.Calls PySem.W PyProof.Rows
set_option maxRecDepth 100000
set_option maxHeartbeats 0
namespace Mine
theorem row_bare:PySem.Challenge.rw_nn0096_01.row.prog.bare:=⟨rfl,rfl,rfl,rfl,rfl,by decide+kernel⟩
theorem row_promised:PySem.Challenge.rw_nn0096_01.row.toRowW.promised:=⟨[.list []],by decide+kernel,by decide+kernel⟩
theorem row_ok:(chainsOk view1&&opensWell row1.prog&&(frees row1.toRowW&&row1.within.isEmpty))=true:=by
  rw [row_ok1,show opensWell row1.prog=true from row_ok2,show(frees row1.toRowW&&row1.within.isEmpty)=true from row_ok3];rfl
theorem law_row(said:row1.wellSaid=true):row1.Holds:=
  holds_open (q:=view1) (loose:=loose1) (Xt:=fun _=>true) (XP:=fun _ _=>True) (Yf:=Shared.heap) (Ya:=fun w=>topHeap w.params) (YP:=Yp) (d:=lawD) (kwd:= []) (N:=20000)
    law_left (fun w s e b o x=>by rw [show s.heap=topHeap w.params from e];exact x) (fun w h h' y k b o x=>k _ _ (y b o x)) (fun _ _=>trivial) (fun _ _ _ _ _=>trivial) law_def law_the law_kw (fun s _=>recFacts_nil rfl) rfl said row_ok row_bare row_promised law_walk
end Mine
end
theorem PySem.Challenge.cw_nn0096_01_holds : PySem.Challenge.rw_nn0096_01.Holds :=
  ⟨Mine.law_well,Mine.law_row Mine.row_well⟩
