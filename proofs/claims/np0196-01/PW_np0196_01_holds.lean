import PyProof.Rows.All
import Wide.All
import OpenK.AllK
import Wide.FinOn
import PySem.Challenge.RW_np0196_01
open PySem PySem.W PyProof.Rows
set_option Elab.async false
set_option maxRecDepth 100000
set_option maxHeartbeats 4000000
set_option linter.unusedVariables false
set_option linter.unusedSimpArgs false
namespace Mine
section
open PySem PySem.Spec PySem.Calls PySem.W PyProof.Rows
section
inductive V where
 | none
 | bool (b:Bool)
 | int (i:Int)
 | str (s:Str)
 | bytes (b:Array UInt8)
 | ref (n:Nat)
 | glob (a:Addr)
 | bi (id:String)
 | ty (n:String)
 deriving DecidableEq,Inhabited
inductive O where
 | list (vs:List V)
 | tup (vs:List V)
 | dict (es:List (V×V)) (n:Nat)
 | inst (C:Addr) (d:Nat)
 | cell (v:Option V)
 | lam (body:Expr) (scope:Scope) (cells:List (Str×Nat))
 | rng (a b c:Int)
 | itL (l i:Nat)
 | itT (l i:Nat)
 | itD (d i len ep:Nat)
 | itR (x left step:Int)
 | itS (s:Str) (i:Nat)
 | itB (b:Array UInt8) (i:Nat)
 | itE (n i:Nat) (own:Option Nat)
 | dead
structure S where
 h:List O
 l:List (Str×V)
inductive Res(α:Type) where
 | ok (a:α)
 | exc (C:Addr)
def M(α:Type):Type:=S->Option (Res α×S)
namespace M
@[inline] def pure {α:Type} (a:α):M α:=fun s=>some (.ok a,s)
@[inline] def bind {α β:Type} (m:M α) (f:α->M β):M β:=fun s=>match m s with
 | Option.none=>Option.none
 | some (.ok a,s')=>f a s'
 | some (.exc C,s')=>some (.exc C,s')
instance:Monad M where
 pure:=M.pure
 bind:=M.bind
end M
def fail{α:Type}:M α:=fun _=>Option.none
def raiseM{α:Type}(C:Addr):M α:=fun s=>some (.exc C,s)
def need(b:Bool):M Unit:=fun s=>match b with
 | true=>some (.ok (),s)
 | false=>Option.none
def opt{α:Type}:Option α->M α
 | some a=>pure a
 | Option.none=>fail
def geto(n:Nat):M O:=fun s=>match s.h[n]? with
 | some o=>some (.ok o,s)
 | Option.none=>Option.none
def alloc(o:O):M Nat:=fun s=>some (.ok s.h.length,{s with h:=s.h++ [o]})
def seto(n:Nat)(o:O):M Unit:=fun s=>if n < s.h.length then some (.ok (),{s with h:=s.h.set n o}) else Option.none
def getL(x:Str):M V:=fun s=>match s.l.lookup x with
 | some v=>some (.ok v,s)
 | Option.none=>Option.none
def putA(x:Str)(v:V):List (Str×V)->List (Str×V)
 | []=> [(x,v)]
 | (y,u)::r=>if y=x then (y,v)::r else (y,u)::putA x v r
def setL(x:Str)(v:V):M Unit:=fun s=>some (.ok (),{s with l:=putA x v s.l})
def within{α:Type}(l:List (Str×V))(m:M α):M α:=fun s=>match m {s with l:=l} with
 | Option.none=>Option.none
 | some (r,s')=>some (r,{s' with l:=s.l})
def attempt{α:Type}(m:M α):M (Res α):=fun s=>match m s with
 | Option.none=>Option.none
 | some (r,s')=>some (.ok r,s')
inductive Flow where
 | next
 | ret (v:V)
structure Ev where
 scope:Scope
 cells:List (Str×Nat)
 d:Nat
 lq:Option (Addr×Addr×Str):=none
 stm:Bool:=false
structure Fns where
 ev:Expr->Ev->M V
 tr:Expr->Ev->M Bool
 exs:List Stmt->Ev->M Flow
 wh:Expr->List Stmt->Ev->M Flow
 fo:Expr->Nat->List Stmt->Ev->M Flow
 co:Expr->Expr->List Expr->Nat->Nat->Ev->M Unit
 call:V->List V->Nat->M V
section
variable (K:Frag) (prims:Addr->List V->Option V) (F:Fns)
def valOf(v:Value):Option V:=match v with
 | .none=>some .none
 | .bool b=>some (.bool b)
 | .int i _=>some (.int i)
 | .str s _=>some (.str s)
 | .bytes b _=>some (.bytes b)
 | .type n=>some (.ty n)
 | .builtin i=>some (.bi i)
 | .ref a=>some (.glob a)
 | _=>Option.none
def cl_:Const->Option V
 | .none=>some .none
 | .bool b=>some (.bool b)
 | .int i=>some (.int i)
 | .str s=>some (.str s)
 | .bytes b=>some (.bytes b.toArray)
 | _=>Option.none
def gd_(x:Str):Option V:=match nsIn K mainGlobals x with
 | some (some v)=>valOf v
 | some Option.none=>if x="__name__" then Option.none else (bootBuiltins x).bind valOf
 | Option.none=>Option.none
def cellM(ρ:Ev)(x:Str):M Nat:=opt (ρ.cells.lookup x)
def loadM(ρ:Ev)(x:Str):M V:=
 if x="__debug__" then fail else match ρ.scope.names.lookup x with
 | some .local=>getL x
 | some .cell | some .free=>if x="__classdict__" then fail else do
  match<-geto (<-cellM ρ x) with
  | .cell (some v)=>pure v
  | _=>fail
 | some .globalImplicit=>opt (gd_ K x)
 | _=>fail
def si_(ρ:Ev)(x:Str)(v:V):M Unit:=match ρ.scope.names.lookup x with
 | some .local=>setL x v
 | some .cell=>do
  let c<-cellM ρ x
  match<-geto c with
  | .cell _=>seto c (.cell (some v))
  | _=>fail
 | _=>fail
def evs:List Expr->Ev->M (List V)
 | [],_=>pure []
 | .Starred .. ::_,_=>fail
 | e::r,ρ=>do
  let v<-F.ev e ρ
  return v::(<-evs r ρ)
def tb_:V->M Bool
 | .none=>pure false
 | .bool b=>pure b
 | _=>fail
def pickI(n:Nat)(i:Int):Option Nat:=if 0<=i then (if i.toNat < n then some i.toNat else Option.none) else (if 0<=i+n then some (i+n).toNat else Option.none)
def binM(op:Operator)(a b:V):M V:=match op,a,b with
 | .Add,.int x,.int y=>pure (.int (x+y))
 | .Sub,.int x,.int y=>pure (.int (x - y))
 | .Mult,.int x,.int y=>if x.natAbs < 2 ^ 64/\y.natAbs < 2 ^ 64 then pure (.int (x*y)) else fail
 | .FloorDiv,.int x,.int y=>if 0 < y/\y < 1000000 then pure (.int (x / y)) else fail
 | .Mod,.int x,.int y=>if 0 < y/\y < 1000000 then pure (.int (x % y)) else fail
 | .Pow,.int x,.int y=>if (0<=x/\x<=256)/\0<=y/\y<=64 then pure (.int (x ^ y.toNat)) else fail
 | .LShift,.int x,.int y=>if x.natAbs < 2 ^ 64/\0<=y/\y<=64 then pure (.int (x*2 ^ y.toNat)) else fail
 | .RShift,.int x,.int y=>if 0<=y/\y<=64 then pure (.int (x.fdiv (2 ^ y.toNat))) else fail
 | .BitAnd,.int x,.int y=>pure (.int (Builtin.bitAnd x y))
 | .Add,.str x,.str y=>if x.length+y.length<=100000 then pure (.str (x++y)) else fail
 | .Add,.ref x,.ref y=>do
  match<-geto x,<-geto y with
  | .list u,.list v=>do
   need (decide (u.length+v.length<=100000))
   return .ref (<-alloc (.list (u++v)))
  | _,_=>fail
 | _,_,_=>fail
def fe_:V->V->Option Bool
 | .int x,.int y=>some (decide (x=y))
 | .str x,.str y=>some (decide (x=y))
 | .none,.none=>some true
 | .none,.int _=>some false
 | .int _,.none=>some false
 | _,_=>Option.none
def fa_:List V->List V->Option Bool
 | [],[]=>some true
 | x::xs,y::ys=>match fe_ x y,fa_ xs ys with
  | some a,some b=>some (a && b)
  | _,_=>Option.none
 | _,_=>some false
def eqM(a b:V):M Bool:=match a,b with
 | .ref x,.ref y=>do
  match<-geto x,<-geto y with
  | .list u,.list v=>if u.length≠v.length then pure false else opt (fa_ u v)
  | .tup u,.tup v=>opt (fa_ u v)
  | _,_=>fail
 | a,b=>opt (fe_ a b)
def inL(a:V):List V->Option Bool
 | []=>some false
 | y::r=>match fe_ y a,inL a r with
  | some k,some j=>some (k || j)
  | _,_=>Option.none
def kd_:V->Bool
 | .int _=>true
 | .str _=>true
 | _=>false
def f_(k:V):List (V×V)->Option V
 | []=>Option.none
 | (y,v)::r=>if y=k then some v else f_ k r
def putK(k v:V):List (V×V)->List (V×V)
 | []=> [(k,v)]
 | (y,u)::r=>if y=k then (y,v)::r else (y,u)::putK k v r
def da_(k:V):List (V×V)->List (V×V)
 | []=> []
 | (y,u)::r=>if y=k then r else (y,u)::da_ k r
def sameKind:V->V->Bool
 | .int _,.int _=>true
 | .str _,.str _=>true
 | _,_=>false
def k_(k:V)(es:List (V×V)):Bool:=es.all fun e=>sameKind k e.1
def inM(a b:V):M Bool:=match b with
 | .str t=>match a with
  | .str x=>pure (Txt.contains t x)
  | _=>fail
 | .ref β=>do
  match<-geto β with
  | .list vs=>opt (inL a vs)
  | .tup vs=>opt (inL a vs)
  | .dict es _=>do
   need (kd_ a && k_ a es)
   return (f_ a es).isSome
  | _=>fail
 | _=>fail
def cmpM(op:CmpOp)(a b:V):M Bool:=match op with
 | .Eq=>eqM a b
 | .NotEq=>do return !(<-eqM a b)
 | .Lt=>match a,b with
  | .int x,.int y=>pure (decide (x < y))
  | _,_=>fail
 | .LtE=>match a,b with
  | .int x,.int y=>pure (decide (x<=y))
  | _,_=>fail
 | .In=>inM a b
 | .NotIn=>do return !(<-inM a b)
 | .Is=>match b with
  | .none=>match a with
   | .none=>pure true
   | .int _=>pure false
   | _=>fail
  | _=>fail
 | .IsNot=>match b with
  | .none=>match a with
   | .none=>pure false
   | .int _=>pure true
   | _=>fail
  | _=>fail
 | _=>fail
end
end
section
def sd_(a b:Str):Bool:=decide (a.cps.toList < b.cps.toList)
def ib_{α:Type}(lt:α->α->Bool)(x:α):List α->List α
 | []=> [x]
 | y::r=>if lt y x then y::ib_ lt x r else x::y::r
def sa_{α:Type}(lt:α->α->Bool):List α->List α
 | []=> []
 | x::r=>ib_ lt x (sa_ lt r)
def ic_:List V->Option (List Int)
 | []=>some []
 | .int i::r=>(ic_ r).map (i:: ·)
 | _=>none
def strsOf:List V->Option (List Str)
 | []=>some []
 | .str s::r=>(strsOf r).map (s:: ·)
 | _=>none
def boolsOf:List V->Option (List Bool)
 | []=>some []
 | .bool b::r=>(boolsOf r).map (b:: ·)
 | _=>none
def bytesOf:List V->Option (List (Array UInt8))
 | []=>some []
 | .bytes b::r=>(bytesOf r).map (b:: ·)
 | _=>none
def sn_(vs:List V):Option (List V):=match ic_ vs with
 | some l=>some ((sa_ (fun a b=>decide (a < b)) l).map V.int)
 | none=>match strsOf vs with
  | some l=>some ((sa_ sd_ l).map V.str)
  | none=>none
def pairAt(h:List O):V->Option (Str×Int)
 | .ref a=>match h[a]? with
  | some (.tup [.str s,.int i])=>some (s,i)
  | _=>none
 | _=>none
def pc_(h:List O):List V->Option (List (V×Str×Int))
 | []=>some []
 | v::r=>match pairAt h v,pc_ h r with
  | some p,some l=>some ((v,p)::l)
  | _,_=>none
def pa_(a b:V×Str×Int):Bool:=sd_ a.2.1 b.2.1 || (decide (a.2.1=b.2.1) && decide (a.2.2 < b.2.2))
def getS:M S:=fun s=>some (.ok s,s)
def d_(l:List (V×Str×Int)):Bool:=decide ((l.map (·.2)).Nodup)
def sortedM(vs:List V):M (List V):=do
 need (decide (vs.length < 64))
 match sn_ vs with
 | some l=>pure l
 | none=>do
  let s<-getS
  let l<-opt (pc_ s.h vs)
  need (d_ l)
  return (sa_ pa_ l).map (·.1)
def lenM:V->M Int
 | .str s=>do
  need (decide (s.length<=100000))
  pure s.length
 | .bytes b=>do
  need (decide (b.size<=100000))
  pure b.size
 | .ref a=>do
  match<-geto a with
  | .list vs=>do
   need (decide (vs.length<=100000))
   pure vs.length
  | _=>fail
 | _=>fail
def listAt(v:V):M (List V):=match v with
 | .ref a=>do
  match<-geto a with
  | .list vs=>pure vs
  | _=>fail
 | _=>fail
def cd_(id:String)(args:List V):M V:=match id,args with
 | "len",[x]=>do return .int (<-lenM x)
 | "sum",[x]=>do return .int (<-opt (ic_ (<-listAt x))).sum
 | "max",[.int x,.int y]=>pure (.int (max x y))
 | "all",[x]=>do return .bool ((<-opt (boolsOf (<-listAt x))).all fun b=>b)
 | "sorted",[.ref a]=>do
  match<-geto a with
  | .list vs=>return .ref (<-alloc (.list (<-sortedM vs)))
  | .dict es _=>do
   need (decide (es.length < 64))
   return .ref (<-alloc (.list (<-opt (sn_ (es.map (·.1))))))
  | _=>fail
 | "dict.get",[.ref a,k]=>do
  match<-geto a with
  | .dict es _=>do
   need (kd_ k && k_ k es)
   return (f_ k es).getD .none
  | _=>fail
 | "dict.pop",[.ref a,k]=>do
  match<-geto a with
  | .dict es n=>do
   need (kd_ k && k_ k es && decide (es.length<=900))
   let v<-opt (f_ k es)
   seto a (.dict (da_ k es) (n+1))
   return v
  | _=>fail
 | "list.append",[.ref a,x]=>do
  match<-geto a with
  | .list vs=>do
   need (decide (vs.length < 100000))
   seto a (.list (vs++ [x]))
   return .none
  | _=>fail
 | "list.insert",[.ref a,.int 0,x]=>do
  match<-geto a with
  | .list vs=>do
   need (decide (vs.length < 100000))
   seto a (.list (x::vs))
   return .none
  | _=>fail
 | "list.pop",[.ref a,.int 0]=>do
  match<-geto a with
  | .list (x::vs)=>do
   need (decide (vs.length<=100000))
   seto a (.list vs)
   pure x
  | _=>fail
 | "str.join",[.str s,x]=>do
  let l<-opt (strsOf (<-listAt x))
  need (decide (s.length<=16/\(l.map (·.length)).sum+l.length<=1048576))
  return .str (Txt.join s l)
 | "str.split",[.str s,.str t]=>do
  need (decide (0 < t.length/\s.length<=100000))
  return .ref (<-alloc (.list ((Txt.split s t).map V.str)))
 | "bytes.join",[.bytes b,x]=>do
  let l<-opt (bytesOf (<-listAt x))
  need (decide (2<=l.length/\b.size=0/\(l.map (·.size)).sum<=100000))
  return .bytes (Builtin.Bytes.joined b l)
 | _,_=>fail
def callTy(n:String)(args:List V):M V:=match n,args with
 | "bytes",[.bytes b]=>pure (.bytes b)
 | "bytes",[.ref a]=>do
  let vs<-listAt (.ref a)
  let ns<-opt (ic_ vs)
  need (decide (vs.length<=1000) && ns.all fun n=>decide (0<=n/\n < 256))
  return .bytes (byteArr ns)
 | "enumerate",[.bytes b]=>do
  let n<-alloc (.itB b 0)
  let e<-alloc (.itE n 0 none)
  return .ref e
 | "list",[x]=>do
  let vs<-listAt x
  need (decide (vs.length<=100000))
  return .ref (<-alloc (.list vs))
 | "range",[.int b]=>return .ref (<-alloc (.rng 0 b 1))
 | "range",[.int a,.int b,.int c]=>do
  need (decide (0<=a/\a<=100000/\0<=b/\b<=100000/\0 < c/\c<=100000))
  return .ref (<-alloc (.rng a b c))
 | _,_=>fail
section
variable (K:Frag) (prims:Addr->List V->Option V) (cs:List (Addr×Addr×Str)) (F:Fns)
def hasOwn(name:Str)(es:List (V×V)):Bool:=(f_ (.str name) es).isSome
def ma_(v:V)(name:Str):M (V×List V):=match v with
 | .str s=>if name="join" then pure (.bi "str.join",[.str s]) else if name="split" then pure (.bi "str.split",[.str s]) else fail
 | .bytes b=>if name="join" then pure (.bi "bytes.join",[.bytes b]) else fail
 | .ref a=>do
  match<-geto a with
  | .list _=>if name="append" then pure (.bi "list.append",[v]) else if name="insert" then pure (.bi "list.insert",[v]) else if name="pop" then pure (.bi "list.pop",[v]) else fail
  | .dict _ _=>if name="get" then pure (.bi "dict.get",[v]) else if name="pop" then pure (.bi "dict.pop",[v]) else fail
  | .inst C d=>do
   match<-geto d with
   | .dict es _=>match findIn K (.ref C) name with
    | some (some (.ref f))=>do
     need (plainGet K C name && isFn K (.ref f) && !hasOwn name es && k_ (.str name) es)
     return (.glob f,[v])
    | _=>fail
   | _=>fail
  | _=>fail
 | _=>fail
def handV:V->Option V
 | .bi _=>none
 | v=>some v
def getAttrM(v:V)(name:Str):M V:=match v with
 | .ref a=>do
  match<-geto a with
  | .inst C d=>do
   match<-geto d with
   | .dict es _=>match findIn K (.ref C) name with
    | some attr=>do
     need (plainGet K C name && hasDictIn K C && noGet K attr && k_ (.str name) es)
     opt ((f_ (.str name) es).bind handV)
    | _=>fail
   | _=>fail
  | _=>fail
 | _=>fail
def putD(k v:V)(es:List (V×V))(n:Nat):O:= .dict (putK k v es) (if (f_ k es).isSome then n else n+1)
def setAttrM(o:V)(name:Str)(v:V):M Unit:=match o with
 | .ref a=>do
  match<-geto a with
  | .inst C d=>do
   match<-geto d with
   | .dict es n=>do
    need (findIn K (.ref C) "__setattr__"==some (some (.builtin "object.__setattr__")) && plainOver K C && takerIn K C name==some none && hasDictIn K C && k_ (.str name) es && decide (es.length<=900))
    seto d (putD (.str name) v es n)
   | _=>fail
  | _=>fail
 | _=>fail
def partOf:V->Option (Option Int)
 | .none=>some none
 | .int i=>some (some i)
 | _=>none
def pickV(vs:List V)(lo hi st:Option Int):List V:=(sliceRange (sliceBounds lo hi st vs.length).1 (sliceBounds lo hi st vs.length).2.1 (sliceBounds lo hi st vs.length).2.2).filterMap (vs[·]?)
def sliceM(o lo hi st:V):M V:=match partOf lo,partOf hi,partOf st with
 | some l,some u,some t=>match o with
  | .bytes b=>do
   need (decide (t=none) && decide (b.size<=100000) && !KBy.whole b l u)
   return .bytes (KBy.picked b l u)
  | .ref a=>do
   match<-geto a with
   | .list vs=>do
    need (decide (t≠some 0/\vs.length<=100000))
    return .ref (<-alloc (.list (pickV vs l u t)))
   | _=>fail
  | _=>fail
 | _,_,_=>fail
def itemM(o i:V):M V:=match o with
 | .ref a=>do
  match<-geto a with
  | .list vs=>match i with
   | .int k=>do
    need (decide (0<=k/\k < 2 ^ 62))
    opt vs[k.toNat]?
   | _=>fail
  | .tup vs=>match i with
   | .int k=>do
    need (decide (0<=k/\k < 2 ^ 62))
    opt vs[k.toNat]?
   | _=>fail
  | .dict es _=>do
   need (kd_ i && k_ i es)
   opt (f_ i es)
  | _=>fail
 | _=>fail
def sk_(o i v:V):M Unit:=match o with
 | .ref a=>do
  match<-geto a with
  | .list vs=>match i with
   | .int k=>do
    need (decide (0<=k/\k < vs.length/\k < 2 ^ 62))
    seto a (.list (vs.set k.toNat v))
   | _=>fail
  | .dict es n=>do
   need (kd_ i && k_ i es && decide (es.length<=900))
   seto a (putD i v es n)
  | _=>fail
 | _=>fail
def putItemM(a:Nat)(i v:V):M Unit:=do
 match<-geto a with
 | .dict es n=>do
  need (kd_ i && k_ i es && decide (es.length<=900))
  seto a (putD i v es n)
 | _=>fail
def setCutM(o lo hi v:V):M Unit:=match o,lo,hi,v with
 | .ref a,.none,.int b,.ref c=>do
  match<-geto a with
  | .list vs=>do
   match<-geto c with
   | .list ws=>do
    need (decide (0<=b/\b<=vs.length/\a≠c/\vs.length<=1000/\ws.length<=1000))
    seto a (.list (ws++vs.drop b.toNat))
   | _=>fail
  | _=>fail
 | _,_,_,_=>fail
def dc_(o i:V):M Unit:=match o with
 | .ref a=>do
  match<-geto a with
  | .dict es n=>do
   need (kd_ i && k_ i es && (f_ i es).isSome && decide (es.length<=900))
   seto a (.dict (da_ i es) (n+1))
  | _=>fail
 | _=>fail
def itemsM(v:V):M (List V):=match v with
 | .ref a=>do
  match<-geto a with
  | .list vs=>pure vs
  | .tup vs=>pure vs
  | _=>fail
 | _=>fail
def na_:Expr->Bool
 | .Starred ..=>false
 | _=>true
def optE(e:Option Expr)(ρ:Ev):M V:=match e with
 | some e=>F.ev e ρ
 | none=>pure .none
def assign1M(t:Expr)(ρ:Ev)(v:V):M Unit:=match t with
 | .Name x _=>si_ ρ x v
 | .Attribute o attr _=>do
  let ov<-F.ev o ρ
  setAttrM K ov attr v
 | .Subscript o i _=>match i with
  | .Slice lo hi none _=>do
   let ov<-F.ev o ρ
   let l<-optE F lo ρ
   let u<-optE F hi ρ
   setCutM ov l u v
  | .Slice _ _ (some _) _=>fail
  | i=>do
   let ov<-F.ev o ρ
   let iv<-F.ev i ρ
   sk_ ov iv v
 | _=>fail
def ab_:List Expr->Ev->List V->M Unit
 | [],_,[]=>pure ()
 | t::ts,ρ,v::vs=>do
  assign1M K F t ρ v
  ab_ ts ρ vs
 | _,_,_=>fail
def aa_(t:Expr)(ρ:Ev)(v:V):M Unit:=match t with
 | .Tuple elts _ _=>do
  let vs<-itemsM v
  need (decide (vs.length=elts.length) && elts.all na_)
  ab_ K F elts ρ vs
 | t=>assign1M K F t ρ v
def sr_(ρ:Ev):List Str->List V->M Unit
 | [],[]=>pure ()
 | x::xs,v::vs=>do
  si_ ρ x v
  sr_ ρ xs vs
 | _,_=>fail
def isIntV:V->Bool
 | .int _=>true
 | _=>false
def i_(es:List (V×V)):Bool:=es.all fun e=>isIntV e.1
def id_(v:V):M Nat:=match v with
 | .ref a=>do
  match<-geto a with
  | .list _=>alloc (.itL a 0)
  | .tup _=>alloc (.itT a 0)
  | .dict es n=>do
   need (i_ es)
   alloc (.itD a 0 es.length n)
  | .rng x b c=>do
   need (Builtin.Range.small x b c)
   alloc (.itR x (Builtin.Range.rangeSize x b c) c)
  | .itE ..=>pure a
  | _=>fail
 | .str s=>alloc (.itS s 0)
 | _=>fail
def stepItM(it:Nat)(o:O)(v:Option V):M (Option V):=match v with
 | some v=>do
  seto it o
  return some v
 | none=>do
  seto it .dead
  return none
def enumM(it n i:Nat)(b:Array UInt8)(c:UInt8):M (Option V):=fun s=>
 some (.ok (some (.ref s.h.length)),{s with h:=(s.h.set n (.itB b (i+1))).set it (.itE n (i+1) (some s.h.length))++ [.tup [.int i,.int (c.toNat:Int)]]})
def nextM(it:Nat):M (Option V):=do
 match<-geto it with
 | .itL l i=>do
  match<-geto l with
  | .list vs=>stepItM it (.itL l (i+1)) vs[i]?
  | _=>fail
 | .itT l i=>do
  match<-geto l with
  | .tup vs=>stepItM it (.itT l (i+1)) vs[i]?
  | _=>fail
 | .itD d i len ep=>do
  match<-geto d with
  | .dict es n=>do
   need (decide (n=ep/\es.length=len) && i_ es)
   stepItM it (.itD d (i+1) len ep) (es[i]?.map (·.1))
  | _=>fail
 | .itR x left step=>stepItM it (.itR (x+step) (left - 1) step) (if 0 < left then some (.int x) else none)
 | .itS s i=>stepItM it (.itS s (i+1)) (s.cps[i]?.map fun c=> .str ⟨#[c]⟩)
 | .itE n i none=>do
  match<-geto n with
  | .itB b j=>do
   need (decide (i=j/\i<=b.size/\n≠it))
   match b[i]? with
   | some c=>enumM it n i b c
   | none=>do
    seto n .dead
    return none
  | _=>fail
 | _=>fail
def chainM(ρ:Ev):V->List CmpOp->List Expr->M Bool
 | l,[op],[e]=>do
  let r<-F.ev e ρ
  cmpM op l r
 | l,op::ops,e::es=>do
  let r<-F.ev e ρ
  if<-cmpM op l r then chainM ρ r ops es else pure false
 | _,_,_=>fail
def nb_:Expr->Bool
 | .Set ..=>false
 | _=>true
def boolM(ρ:Ev)(op:BoolOp):List Expr->M V
 | []=>fail
 | [e]=>F.ev e ρ
 | e::r=>do
  let v<-F.ev e ρ
  let t<-tb_ v
  match op,t with
  | .And,false=>pure v
  | .Or,true=>pure v
  | _,_=>boolM ρ op r
def allTrM(ρ:Ev)(op:BoolOp):List Expr->M Bool
 | []=>pure (op== .And)
 | e::r=>do
  match op,<-F.tr e ρ with
  | .And,false=>pure false
  | .Or,true=>pure true
  | _,_=>allTrM ρ op r
def cf_(ρ:Ev):List (Str×NameKind)->List (Str×Nat)->M (List (Str×Nat))
 | [],acc=>pure acc
 | (x,k)::r,acc=>if k= .free then do
   let c<-cellM ρ x
   cf_ ρ r ((x,c)::acc)
  else cf_ ρ r acc
def cb_(ρ:Ev)(scope:Scope):Scope:={scope with names:=scope.names.map fun (n,k)=>if k== .free && ρ.scope.names.lookup n==some .cell then (n,.cell) else (n,k)}
def compOk(scope:Scope):Bool:=scope.kind== .function && scope.names.all fun p=>p.2 != .cell && (p.2 != .local || scope.names.lookup p.1==some .local)
def calm{α:Type}(m:M α):M α:=fun s=>match m s with
 | some (.ok a,s')=>some (.ok a,s')
 | _=>none
def ownM(t:Expr)(it:Nat)(v:V):M Unit:=match t with
 | .Tuple ..=>do
  match<-geto it with
  | .itL ..=>pure ()
  | .itE n i (some k)=>do
   need (decide (v= .ref k))
   seto it (.itE n i none)
  | _=>fail
 | .List ..=>fail
 | _=>pure ()
def pf_:Expr->Bool
 | .Call (.Name ..) [] [] _=>false
 | _=>true
def unM(op:UnaryOp)(x:Expr)(ρ:Ev):M V:=match op with
 | .Not=>do
  let v<-F.ev x ρ
  return .bool (!(<-tb_ v))
 | .USub=>do
  let v<-F.ev x ρ
  match v with
  | .int i=>pure (.int (-i))
  | _=>fail
 | _=>fail
def dictE(ks:List (Option Expr))(vs:List Expr)(ρ:Ev):M V:=match ks,vs with
 | [],[]=>do return .ref (<-alloc (.dict [] 0))
 | [some k],[v]=>do
  let d<-alloc (.dict [] 0)
  let a<-F.ev k ρ
  let b<-F.ev v ρ
  putItemM d a b
  return .ref d
 | _,_=>fail
def cj_(f:V):M Unit:=match f with
 | .bi _=>pure ()
 | .ty _=>pure ()
 | .glob a=>need (keepIn K (.ref a))
 | .ref n=>do
  match<-geto n with
  | .lam ..=>pure ()
  | _=>fail
 | _=>fail
def callE(f:Expr)(args:List Expr)(kws:List Keyword)(pos:Pos)(ρ:Ev):M V:=do
 need (kws.isEmpty && decide (args.length < 20) && args.all na_)
 match f with
 | .Attribute o name apos=>do
  need (pf_ o && apos.endLine==pos.line)
  let ov<-F.ev o ρ
  let fv<-ma_ K ov name
  let vs<-evs F args ρ
  cj_ K fv.1
  F.call fv.1 (fv.2++vs) ρ.d
 | f=>do
  let fv<-F.ev f ρ
  let vs<-evs F args ρ
  cj_ K fv
  F.call fv vs ρ.d
def subE(o i:Expr)(ρ:Ev):M V:=match i with
 | .Slice lo hi st _=>do
  let ov<-F.ev o ρ
  let l<-optE F lo ρ
  let u<-optE F hi ρ
  let t<-optE F st ρ
  sliceM ov l u t
 | i=>do
  let ov<-F.ev o ρ
  let iv<-F.ev i ρ
  itemM ov iv
def compE(elt:Expr)(gens:List Comprehension)(scope:Scope)(ρ:Ev):M V:=match gens with
 | [⟨target,iter,ifs,0⟩]=>do
  need (compOk scope && nb_ iter)
  let cells<-cf_ ρ scope.names []
  let x<-F.ev iter ρ
  let it<-id_ x
  let acc<-alloc (.list [])
  calm (within [] (F.co target elt ifs it acc {scope:=cb_ ρ scope,cells,d:=ρ.d}))
  return .ref acc
 | _=>fail
def lamE(args:Arguments)(body:Expr)(scope:Scope)(ρ:Ev):M V:=match args with
 | ⟨[],[],none,[],[],none,[]⟩=>do
  need ρ.lq.isSome
  let cells<-cf_ ρ scope.names []
  return .ref (<-alloc (.lam body scope cells))
 | _=>fail
def evM:Expr->Ev->M V
 | .Constant c _ _,_=>opt (cl_ c)
 | .Name x _,ρ=>loadM K ρ x
 | .BoolOp op vs _,ρ=>boolM F ρ op vs
 | .BinOp l op r _,ρ=>do
  let a<-F.ev l ρ
  let b<-F.ev r ρ
  binM op a b
 | .UnaryOp op x _,ρ=>unM F op x ρ
 | .IfExp t b o _,ρ=>do
  if<-F.tr t ρ then F.ev b ρ else F.ev o ρ
 | .Dict ks vs _,ρ=>dictE F ks vs ρ
 | .List es _,ρ=>do
  need (decide (es.length<=1000))
  return .ref (<-alloc (.list (<-evs F es ρ)))
 | .Tuple es _ _,ρ=>do
  need (decide (es.length<=1000))
  return .ref (<-alloc (.tup (<-evs F es ρ)))
 | .Compare l ops rs _,ρ=>do
  need (rs.all nb_)
  let a<-F.ev l ρ
  return .bool (<-chainM F ρ a ops rs)
 | .Call f args kws pos,ρ=>callE K F f args kws pos ρ
 | .Attribute o name _,ρ=>do
  need (pf_ o)
  let ov<-F.ev o ρ
  getAttrM K ov name
 | .Subscript o i _,ρ=>subE F o i ρ
 | .ListComp elt gens scope _,ρ=>compE F elt gens scope ρ
 | .Lambda args body scope _,ρ=>lamE args body scope ρ
 | _,_=>fail
def trM:Expr->Ev->M Bool
 | .UnaryOp .Not x _,ρ=>do return !(<-F.tr x ρ)
 | .BoolOp op vs _,ρ=>allTrM F ρ op vs
 | .IfExp t b o _,ρ=>do
  if<-F.tr t ρ then F.tr b ρ else F.tr o ρ
 | .Compare l ops rs _,ρ=>do
  need (rs.all nb_)
  let a<-F.ev l ρ
  chainM F ρ a ops rs
 | e,ρ=>do
  let v<-F.ev e ρ
  tb_ v
def stubEnv(ρ:Ev):Env:={scope:=ρ.scope,locals:=0,globals:=0,cells:= []}
def swapOf(targets:List Expr)(value:Expr)(ρ:Ev):Option (Option (List Str)):=match swappedStores targets value (stubEnv ρ) with
 | .pure r=>some r
 | _=>none
def noComp:Expr->Bool
 | .ListComp .. | .SetComp .. | .DictComp ..=>false
 | _=>true
def rc_:List Stmt->Option (V×V)
 | [.Return (some (.Tuple [.Constant a _ _,.Constant b _ _] _ _)) _]=>match cl_ a,cl_ b with
  | some u,some v=>some (u,v)
  | _,_=>none
 | _=>none
def valsOf:List Value->Option (List V)
 | []=>some []
 | v::r=>match valOf v,valsOf r with
  | some u,some us=>some (u::us)
  | _,_=>none
def dfltsOf(fd:FuncData):Option (List V):=match fd.defaults with
 | .none=>some []
 | .ref t=>(match K.lookup t with
  | some ⟨.type "tuple",_,.seq vs _,_⟩=>valsOf vs.toList
  | _=>none)
 | _=>none
def pg_(p:Arguments):Bool:=p.posonlyargs.isEmpty && p.vararg.isNone && p.kwonlyargs.isEmpty && p.kwarg.isNone
def ff_(fd:FuncData)(args:List V):Option (List V):=match dfltsOf K fd with
 | some ds=>if args.length=fd.params.args.length/\ds.length<=args.length then some args
  else if args.length+ds.length=fd.params.args.length then some (args++ds) else none
 | none=>none
def fdOk(fd:FuncData):Bool:=pg_ fd.params && decide ((fd.params.args.map (·.arg)).Nodup) && fd.closure.isEmpty && !fd.scope.isCoroutine && !fd.scope.isGenerator && fd.scope.kind== .function && fd.globals==mainGlobals && fd.builtins==builtinsNs && codeIn K fd.code fd.qualname
def ea_:List Value->Bool
 | [.type a,.type b,.type c]=>a=="Exception" && b=="BaseException" && c=="object"
 | .ref _::r=>ea_ r
 | _=>false
def excCls(C:Addr)(fi:Addr):Bool:=match K.lookup C with
 | some ⟨.type "type",_,.cls cd,sl⟩=>!cd.hasDel && ea_ cd.mro && (match sl.toList,cd.mro with
   | [_,_,_,_,some (.builtin n),_],.ref c::bm=>n=="Exception.__new__" && c==C && ea_ bm
   | _,_=>false) && hasDictIn K C && findIn K (.ref C) "__init__"==some (some (.ref fi)) && typeIn K (.ref fi)==some (.type "function")
 | _=>false
def initNames(fd:FuncData):Option (Str×Str×Str×Str):=match fd.params,fd.body with
 | ⟨[],[x1,x2],none,[],[],none,[]⟩,.stmts [.Expr (.Call (.Attribute (.Name xn _) m apos) [.Name a _,.Name b _] [] cpos) _,.Assign [.Attribute (.Name a' _) attr _] (.Name b' _) _]=>
  if m="__init__"/\x1.arg=a/\x2.arg=b/\a'=a/\b'=b/\a≠b/\apos.endLine=cpos.line then some (xn,a,b,attr) else none
 | _,_=>none
def initOk(C:Addr)(fd:FuncData):Bool:=match initNames fd with
 | some (xn,a,b,attr)=>fdOk K fd && (match fd.defaults with | .none=>true | _=>false) && gd_ K xn==some (.ty "Exception") && xn !="__debug__" && a !="__debug__" && b !="__debug__" &&
   fd.scope.names.lookup xn==some .globalImplicit && fd.scope.names.lookup a==some .local && fd.scope.names.lookup b==some .local && fd.scope.names.all (fun p=>p.2 != .cell) &&
   takerIn K C attr==some none && findIn K (.ref C) "__setattr__"==some (some (.builtin "object.__setattr__")) &&
   (match findCls K (.type "Exception") (.type "type") "__init__" with | some (.val v)=>v== .builtin "Exception.__init__" | _=>false)
 | none=>false
def excOk(C:Addr):Bool:=keepIn K (.ref C) && (match findIn K (.ref C) "__init__" with
 | some (some (.ref fi))=>excCls K C fi && (match K.lookup fi with
  | some ⟨_,_,.func fd,_⟩=>initOk K C fd
  | _=>false)
 | _=>false)
def h_(ρ:Ev)(C:Addr):List ExceptHandler->Option (List Stmt)
 | .ExceptHandler (some (.Name x _)) none body _::r=>match gd_ K x,ρ.scope.names.lookup x with
  | some (.glob D),some .globalImplicit=>if x="__debug__"\/subIn K (.ref D) (.type "BaseException")≠some true\/typeIn K (.ref D)≠some (.type "type")\/(clsIn K D).isSome=false then none else match subIn K (.ref C) (.ref D) with
   | some true=>some body
   | some false=>h_ ρ C r
   | none=>none
  | _,_=>none
 | _=>none
def raiseE(x:Str)(a:Expr)(ρ:Ev):M Flow:=match gd_ K x,ρ.scope.names.lookup x with
 | some (.glob C),some .globalImplicit=>do
  need (excOk K C && na_ a && x !="__debug__")
  let _<-F.ev a ρ
  raiseM C
 | _,_=>fail
def tryE(body:List Stmt)(handlers:List ExceptHandler)(ρ:Ev):M Flow:=do
 need ρ.stm
 match<-attempt (F.exs body ρ) with
 | .ok f=>pure f
 | .exc C=>match (h_ K ρ C handlers).bind rc_ with
  | some (u,v)=>return .ret (.ref (<-alloc (.tup [u,v])))
  | none=>fail
def eb_:Stmt->Ev->M Flow
 | .Expr e _,ρ=>do
  need (noComp e)
  let _<-F.ev e ρ
  return .next
 | .Pass _,_=>pure .next
 | .Return (some e) _,ρ=>do return .ret (<-F.ev e ρ)
 | .Assign [t] e _,ρ=>do
  need (noComp e)
  let v<-F.ev e ρ
  match swapOf [t] e ρ with
  | some (some names)=>do
   let vs<-itemsM v
   need (decide (vs.length=names.length))
   sr_ ρ names.reverse vs.reverse
   return .next
  | some none=>do
   aa_ K F t ρ v
   return .next
  | none=>fail
 | .If t b o _,ρ=>do
  if<-F.tr t ρ then F.exs b ρ else F.exs o ρ
 | .While t b [] _,ρ=>F.wh t b ρ
 | .For t i b [] _,ρ=>do
  need (nb_ i)
  let x<-F.ev i ρ
  let it<-id_ x
  F.fo t it b ρ
 | .Raise (some (.Call (.Name x _) [a] [] _)) none _,ρ=>raiseE K F x a ρ
 | .Try body (h::handlers) [] [] _,ρ=>tryE K F body (h::handlers) ρ
 | .Delete [.Subscript o i _] _,ρ=>do
  let ov<-F.ev o ρ
  let iv<-F.ev i ρ
  dc_ ov iv
  return .next
 | _,_=>fail
def e_:List Stmt->Ev->M Flow
 | [],_=>pure .next
 | s::r,ρ=>do
  match<-eb_ K F s ρ with
  | .next=>e_ r ρ
  | f=>pure f
def whM(t:Expr)(b:List Stmt)(ρ:Ev):M Flow:=do
 if<-F.tr t ρ then
  match<-F.exs b ρ with
  | .next=>F.wh t b ρ
  | f=>pure f
 else pure .next
def foM(t:Expr)(it:Nat)(b:List Stmt)(ρ:Ev):M Flow:=do
 match<-nextM it with
 | none=>pure .next
 | some v=>do
  ownM t it v
  aa_ K F t ρ v
  match<-F.exs b ρ with
  | .next=>F.fo t it b ρ
  | f=>pure f
def tc_(ρ:Ev):List Expr->M Bool
 | []=>pure true
 | [c]=>F.tr c ρ
 | _=>fail
def coM(t e:Expr)(ifs:List Expr)(it acc:Nat)(ρ:Ev):M Unit:=do
 match<-nextM it with
 | none=>pure ()
 | some v=>do
  ownM t it v
  aa_ K F t ρ v
  let ok<-tc_ F ρ ifs
  if ok then do
   let x<-F.ev e ρ
   let _<-cd_ "list.append" [.ref acc,x]
   F.co t e ifs it acc ρ
  else F.co t e ifs it acc ρ
def ch_:List (Str×NameKind)->List (Str×Nat)->M (List (Str×Nat))
 | [],acc=>pure acc
 | (x,k)::r,acc=>if k== .cell then do
   let c<-alloc (.cell none)
   ch_ r ((x,c)::acc)
  else ch_ r acc
def bc_(ρ:Ev):List (Str×V)->M Unit
 | []=>pure ()
 | (x,v)::r=>do
  si_ ρ x v
  bc_ ρ r
def lqOf(fd:FuncData):Option (Addr×Addr×Str):=match fd.code with
 | .ref c=>cs.find? fun p=>decide (p.1=c/\p.2.2=fd.qualname++".<locals>."++"<lambda>")
 | _=>none
def ck_(fd:FuncData)(args:List V)(d:Nat):M V:=match fd.body,ff_ K fd args with
 | .stmts body,some vs=>do
  need (fdOk K fd)
  within [] (do
   let cells<-ch_ fd.scope.names []
   bc_ {scope:=fd.scope,cells,d,lq:=lqOf cs fd,stm:=true} ((fd.params.args.map (·.arg)).zip vs)
   match<-F.exs body {scope:=fd.scope,cells,d,lq:=lqOf cs fd,stm:=true} with
   | .next=>pure .none
   | .ret v=>pure v)
 | _,_=>fail
def makeM(a:Addr)(args:List V)(d:Nat):M V:=match findIn K (.ref a) "__init__" with
 | some (some (.ref fi))=>match K.lookup fi with
  | some ⟨_,_,.func fd,_⟩=>do
   need (makesIn K a && isFn K (.ref fi))
   let dx<-alloc (.dict [] 0)
   let x<-alloc (.inst a dx)
   match<-ck_ K cs F fd (.ref x::args) d with
   | .none=>pure (.ref x)
   | _=>fail
  | _=>fail
 | _=>fail
def callLam(a d:Nat):M V:=do
 match<-geto a with
 | .lam body scope cells=>do
  need (scope.kind== .function && !scope.isCoroutine && !scope.isGenerator && scope.names.all (fun p=>p.2 != .cell))
  within [] (F.ev body {scope,cells,d})
 | _=>fail
def callM(f:V)(args:List V)(d:Nat):M V:=match f with
 | .bi id=>cd_ id args
 | .ty n=>callTy n args
 | .glob a=>match prims a args with
  | some r=>pure r
  | none=>match K.lookup a with
   | some ⟨_,_,.func fd,_⟩=>match d with
    | d+1=>ck_ K cs F fd args d
    | 0=>fail
   | some ⟨_,_,.cls _,_⟩=>match d with
    | d+2=>makeM K cs F a args d
    | _=>fail
   | _=>fail
 | .ref a=>match args,d with
  | [],d+1=>callLam F a d
  | _,_=>fail
 | _=>fail
def stepF:Fns where
 ev:=evM K F
 tr:=trM F
 exs:=e_ K F
 wh:=whM F
 fo:=foM K F
 co:=coM K F
 call:=callM K prims cs F
end
def noF:Fns:=⟨fun _ _=>fail,fun _ _=>fail,fun _ _=>fail,fun _ _ _=>fail,fun _ _ _ _=>fail,fun _ _ _ _ _ _=>fail,fun _ _ _=>fail⟩
def fns(K:Frag)(prims:Addr->List V->Option V)(cs:List (Addr×Addr×Str)):Nat->Fns
 | 0=>noF
 | n+1=>stepF K prims cs (fns K prims cs n)
end
section
def VR(φ:List Addr):V->Value->Prop
 | .none,x=>x= .none
 | .bool b,x=>x= .bool b
 | .int i,x=>∃ t,x= .int i t
 | .str s,x=>∃ t,x= .str s t
 | .bytes b,x=>∃ t,x= .bytes b t
 | .ref n,x=>∃ a,φ[n]? =some a/\x= .ref a
 | .glob a,x=>x= .ref a
 | .bi i,x=>x= .builtin i
 | .ty n,x=>x= .type n
def VsR(φ:List Addr):List V->List Value->Prop
 | [],[]=>True
 | v::vs,x::xs=>VR φ v x/\VsR φ vs xs
 | _,_=>False
def OptR(φ:List Addr):Option V->Option Value->Prop
 | none,none=>True
 | some v,some x=>VR φ v x
 | _,_=>False
def KeyR(w:World):V->Value->Int->Prop
 | .int i,x,h=>(∃ t,x= .int i t)/\h=hashInt i
 | .str s,x,h=>(∃ t,x= .str s t)/\h=hashStr w s
 | _,_,_=>False
def EsR(w:World)(φ:List Addr):List (V×V)->List DictEntry->Prop
 | [],[]=>True
 | (k,v)::es,e::xs=>KeyR w k e.key e.hash/\VR φ v e.val/\EsR w φ es xs
 | _,_=>False
def Ext(φ φ':List Addr):Prop:=∃ t,φ'=φ++t
theorem Ext.refl(φ:List Addr):Ext φ φ:=⟨[],(List.append_nil φ).symm⟩
theorem Ext.trans{a b c:List Addr}(x:Ext a b)(y:Ext b c):Ext a c:=by
 obtain ⟨t,rfl⟩:=x;obtain ⟨u,rfl⟩:=y;exact ⟨t++u,by rw [List.append_assoc]⟩
theorem Ext.one(φ:List Addr)(a:Addr):Ext φ (φ++ [a]):=⟨[a],rfl⟩
theorem Ext.get{φ φ':List Addr}(x:Ext φ φ'){n:Nat}{a:Addr}(e:φ[n]? =some a):φ'[n]? =some a:=by
 obtain ⟨t,rfl⟩:=x;rw [List.getElem?_append_left (List.getElem?_eq_some_iff.mp e).1];exact e
theorem VR.mono{φ φ':List Addr}(x:Ext φ φ'){v:V}{y:Value}(h:VR φ v y):VR φ' v y:=by
 cases v <;> try exact h
 obtain ⟨a,e,r⟩:=h;exact ⟨a,x.get e,r⟩
theorem VsR.mono{φ φ':List Addr}(x:Ext φ φ'):∀ {vs:List V} {ys:List Value},VsR φ vs ys->VsR φ' vs ys
 | [],[],_=>trivial
 | _::_,_::_,⟨a,b⟩=>⟨a.mono x,VsR.mono x b⟩
 | [],_::_,h=>h.elim
 | _::_,[],h=>h.elim
theorem OptR.mono{φ φ':List Addr}(x:Ext φ φ'):∀ {v:Option V} {y:Option Value},OptR φ v y->OptR φ' v y
 | none,none,_=>trivial
 | some _,some _,h=>VR.mono x h
 | none,some _,h=>h.elim
 | some _,none,h=>h.elim
theorem EsR.mono{w:World}{φ φ':List Addr}(x:Ext φ φ'):∀ {es:List (V×V)} {ys:List DictEntry},EsR w φ es ys->EsR w φ' es ys
 | [],[],_=>trivial
 | (_,_)::_,_::_,⟨a,b,c⟩=>⟨a,b.mono x,EsR.mono x c⟩
 | [],_::_,h=>h.elim
 | (_,_)::_,[],h=>h.elim
theorem VsR.length{φ:List Addr}:∀ {vs:List V} {ys:List Value},VsR φ vs ys->vs.length=ys.length
 | [],[],_=>rfl
 | _::_,_::_,⟨_,b⟩=>congrArg (· +1) b.length
 | [],_::_,h=>h.elim
 | _::_,[],h=>h.elim
theorem EsR.length{w:World}{φ:List Addr}:∀ {vs:List (V×V)} {ys:List DictEntry},EsR w φ vs ys->vs.length=ys.length
 | [],[],_=>rfl
 | (_,_)::_,_::_,⟨_,_,b⟩=>congrArg (· +1) b.length
 | [],_::_,h=>h.elim
 | (_,_)::_,[],h=>h.elim
theorem VsR.get{φ:List Addr}:∀ {vs:List V} {ys:List Value},VsR φ vs ys->∀ {i:Nat} {v:V},vs[i]? =some v->∃ y,ys[i]? =some y/\VR φ v y
 | [],[],_,_,_,e=>by simp at e
 | _::_,y::_,⟨a,_⟩,0,_,e=>⟨y,rfl,by simpa using (Option.some.inj e)▸a⟩
 | _::_,_::_,⟨_,b⟩,i+1,_,e=>by
  obtain ⟨y,h1,h2⟩:=VsR.get b (i:=i) (by simpa using e);exact ⟨y,by simpa using h1,h2⟩
 | [],_::_,h,_,_,_=>h.elim
 | _::_,[],h,_,_,_=>h.elim
theorem VsR.append{φ:List Addr}:∀ {vs:List V} {ys:List Value} {us:List V} {zs:List Value},VsR φ vs ys->VsR φ us zs->VsR φ (vs++us) (ys++zs)
 | [],[],_,_,_,h=>h
 | _::_,_::_,_,_,⟨a,b⟩,h=>⟨a,VsR.append b h⟩
 | [],_::_,_,_,h,_=>h.elim
 | _::_,[],_,_,h,_=>h.elim
abbrev lamObj(qual:Str)(body:Expr)(scope:Scope)(clos:List (Str×Addr))(pm:Value)(c:Addr)(ct:Value):Obj:=
 kla_obj "<lambda>" qual ⟨[],[],none,[],[],none,[]⟩ body scope clos pm c ct
def CellsR(φ:List Addr):List (Str×Nat)->List (Str×Addr)->Prop
 | [],[]=>True
 | (x,n)::r,(y,a)::q=>x=y/\φ[n]? =some a/\CellsR φ r q
 | _,_=>False
theorem CellsR.mono{φ φ':List Addr}(x:Ext φ φ'):∀ {c:List (Str×Nat)} {r:List (Str×Addr)},CellsR φ c r->CellsR φ' c r
 | [],[],_=>trivial
 | (_,_)::_,(_,_)::_,⟨a,b,c⟩=>⟨a,x.get b,CellsR.mono x c⟩
 | [],(_,_)::_,h=>h.elim
 | (_,_)::_,[],h=>h.elim
theorem CellsR.look{φ:List Addr}:∀ {c:List (Str×Nat)} {r:List (Str×Addr)},CellsR φ c r->∀ {x:Str} {n:Nat},c.lookup x=some n->∃ a,r.lookup x=some a/\φ[n]? =some a
 | [],[],_,_,_,e=>by cases e
 | (y,k)::_,(_,a)::_,⟨e1,b,c⟩,x,n,e=>by
  subst e1;simp only [List.lookup_cons] at e ⊢;split at e
  ·cases e;exact ⟨a,rfl,b⟩
  ·exact CellsR.look c e
 | [],(_,_)::_,h,_,_,_=>h.elim
 | (_,_)::_,[],h,_,_,_=>h.elim
def OwnR(φ:List Addr):Option Nat->Value->Prop
 | none,v=>v= .none
 | some k,v=>∃ b,φ[k]? =some b/\v=rawInt (b:Nat)
theorem OwnR.mono{φ φ':List Addr}(x:Ext φ φ'){o:Option Nat}{v:Value}(h:OwnR φ o v):OwnR φ' o v:=by
 cases o with
 | none=>exact h
 | some k=>obtain ⟨b,e,z⟩:=h;exact ⟨b,x.get e,z⟩
def OR(w:World)(φ:List Addr):O->Obj->Prop
 | .list vs,ob=>(ob.cls= .type "list"/\ob.dict=none/\ob.slots= #[])/\∃ xs n,ob.data= .seq (List.toArray xs) n/\VsR φ vs xs
 | .tup vs,ob=>ob.cls= .type "tuple"/\∃ xs n,ob.data= .seq (List.toArray xs) n/\VsR φ vs xs
 | .dict es n,ob=>ob.ExactDict/\(∃ xs,ob.data= .dict (List.toArray xs) n/\EsR w φ es xs)/\(es.map (·.1)).Nodup
 | .inst C d,ob=>∃ dx,φ[d]? =some dx/\ob=instObj C dx
 | .cell v,ob=>∃ x,ob.data= .cell x/\OptR φ v x
 | .lam body scope cells,ob=>∃ qual clos pm c ct,ob=lamObj qual body scope clos pm c ct/\CellsR φ cells clos
 | .rng a b c,ob=>∃ t u v,ob={cls:= .type "range",dict:=none,data:= .fields #[.int a t,.int b u,.int c v],slots:=#[]}
 | .itL l i,ob=>ob.cls= .type "list_iterator"/\∃ la,φ[l]? =some la/\ob.data= .fields #[.ref la,.int i 0]
 | .itT l i,ob=>ob.cls= .type "tuple_iterator"/\∃ la,φ[l]? =some la/\ob.data= .fields #[.ref la,.int i 0]
 | .itD d i n ep,ob=>ob.cls= .type "dict_keyiterator"/\∃ da,φ[d]? =some da/\ob.data= .fields #[.ref da,.int i 0,.int n 0,.int ep 0]
 | .itR x l st,ob=>ob={cls:= .type "range_iterator",dict:=none,data:= .fields #[rawInt x,rawInt l,rawInt st],slots:=#[]}
 | .itS s i,ob=>∃ t,ob.cls= .type (strIterType s)/\ob.data= .fields #[.str s t,.int i 0]
 | .itB b i,ob=>ob.cls= .type "bytes_iterator"/\∃ t,ob.data= .fields #[.bytes b t,.int i 0]
 | .itE n i o,ob=>∃ a x own,φ[n]? =some a/\OwnR φ o own/\ob={cls:= .type "enumerate",dict:=none,data:= .fields #[own,.bool false,.ref a,rawInt i,.none,x],slots:=#[]}
 | .dead,_=>True
theorem OR.mono{w:World}{φ φ':List Addr}(x:Ext φ φ'){o:O}{ob:Obj}(h:OR w φ o ob):OR w φ' o ob:=by
 cases o with
 | list vs=>obtain ⟨a,xs,n,b,c⟩:=h;exact ⟨a,xs,n,b,c.mono x⟩
 | tup vs=>obtain ⟨a,xs,n,b,c⟩:=h;exact ⟨a,xs,n,b,c.mono x⟩
 | dict es n=>obtain ⟨a,⟨xs,b,c⟩,d⟩:=h;exact ⟨a,⟨xs,b,c.mono x⟩,d⟩
 | inst C d=>obtain ⟨dx,a,b⟩:=h;exact ⟨dx,x.get a,b⟩
 | cell v=>obtain ⟨y,a,b⟩:=h;exact ⟨y,a,b.mono x⟩
 | lam body scope cells=>obtain ⟨q,cl,pm,c,ct,a,b⟩:=h;exact ⟨q,cl,pm,c,ct,a,b.mono x⟩
 | rng=>exact h
 | itL=>obtain ⟨a,la,b,c⟩:=h;exact ⟨a,la,x.get b,c⟩
 | itT=>obtain ⟨a,la,b,c⟩:=h;exact ⟨a,la,x.get b,c⟩
 | itD=>obtain ⟨a,la,b,c⟩:=h;exact ⟨a,la,x.get b,c⟩
 | itR=>exact h
 | itS=>exact h
 | itB=>exact h
 | itE=>obtain ⟨a,y,own,e,o,z⟩:=h;exact ⟨a,y,own,x.get e,o.mono x,z⟩
 | dead=>trivial
def Live(s:S)(n:Nat):Prop:=∃ o,s.h[n]? =some o/\o≠ .dead
def LocR(φ:List Addr)(l:List (Str×V))(m:Str->Option Value):Prop:=∀ x v,l.lookup x=some v->∃ y,m x=some y/\VR φ v y
theorem LocR.mono{φ φ':List Addr}(x:Ext φ φ'){l:List (Str×V)}{m:Str->Option Value}(h:LocR φ l m):LocR φ' l m:=fun y v e=>
 let ⟨z,a,b⟩:=h y v e;⟨z,a,b.mono x⟩
abbrev Kept:=List (Addr×(Str->Option Value))
structure Ground where
 w:World
 base:Heap
 cs:List (Addr×Addr×Str)
 os:OsState
def CodeE(xs:List (Addr×Obj))(c:Addr)(q:Str):Prop:=∃ oc vs t,(c,oc)∈xs/\oc.data= .fields vs/\vs[1]? =some (.str q t)
def TabsR(cs:List (Addr×Addr×Str))(xs:List (Addr×Obj)):Prop:=
 ∀ q∈cs,∃ ps,(q.2.1,tabObj ps)∈xs/\TriplesOk ps.toList/\∀ pos cv,codeAmong pos ps.toList=some cv->∃ c',cv= .ref c'/\CodeE xs c' q.2.2
abbrev Ground.tabs(G:Ground):List (Addr×Obj)->Prop:=TabsR G.cs
def LamIn(xs:List (Addr×Obj))(ob:Obj):Prop:=∀ qual body scope clos pm c ct,ob=lamObj qual body scope clos pm c ct->CodeE xs c qual
def LamsIn(φ:List Addr)(h:List O)(H:Heap)(xs:List (Addr×Obj)):Prop:=
 ∀ (n:Nat) (body:Expr) (scope:Scope) (cells:List (Str×Nat)) (a:Addr) (ob:Obj),h[n]? =some (O.lam body scope cells)->φ[n]? =some a->H.get? a=some ob->LamIn xs ob
structure St(G:Ground)(C:Addr)(kp:Kept)(φ:List Addr)(s:S)(r:Shared):Prop where
 base:∀ b o,G.base.get? b=some o->r.heap.get? b=some o
 ns:∃ m,r.heap.Ns C m/\LocR φ s.l m
 kept:∀ q∈kp,r.heap.Ns q.1 q.2/\q.1≠C/\sysModules < q.1
 low:sysModules < C/\∀ (n:Nat) (a:Addr),φ[n]? =some a->a≠sysModules
 len:φ.length=s.h.length
 objs:∀ (n:Nat) (o:O) (a:Addr),s.h[n]? =some o->o≠ .dead->φ[n]? =some a->(∃ ob,r.heap.get? a=some ob/\OR G.w φ o ob)/\a≠C/\(∀ q∈kp,q.1≠a)/\G.base.get? a=none
 inj:∀ (n k:Nat) (a:Addr),Live s n->Live s k->φ[n]? =some a->φ[k]? =some a->n=k
 fresh:G.base.get? C=none/\∀ q∈kp,G.base.get? q.1=none
 more:∃ xs,G.tabs xs/\(∀ q∈xs,r.heap.get? q.1=some q.2/\q.1≠C/\(∀ p∈kp,p.1≠q.1)/\G.base.get? q.1=none/\∀ n,Live s n->φ[n]? ≠some q.1)/\LamsIn φ s.h r.heap xs
 gens:r.gens= #[]
 os:r.os=G.os
theorem Heap.fresh_none{h:Heap}:h.get? h.objs.size=none:=by
 cases e:h.get? h.objs.size with
 | none=>rfl
 | some o=>exact absurd (Heap.lt_size e) (Nat.lt_irrefl _)
section
variable {G:Ground} {C:Addr} {kp:Kept} {φ:List Addr} {s:S} {r:Shared}
theorem St.addr(x:St G C kp φ s r){n:Nat}{o:O}(e:s.h[n]? =some o):∃ a,φ[n]? =some a:=by
 have:=(List.getElem?_eq_some_iff.mp e).1;rw [<-x.len] at this;exact ⟨φ[n],List.getElem?_eq_getElem this⟩
theorem St.at(x:St G C kp φ s r){n:Nat}{o:O}{a:Addr}(e:s.h[n]? =some o)(hd:o≠ .dead)(ea:φ[n]? =some a):∃ ob,r.heap.get? a=some ob/\OR G.w φ o ob:=(x.objs n o a e hd ea).1
theorem St.lams(x:St G C kp φ s r){xs:List (Addr×Obj)}{h':Heap}(c:LamsIn φ s.h r.heap xs)(k:∀ a ob,a≠C->r.heap.get? a=some ob->h'.get? a=some ob):LamsIn φ s.h h' xs:=fun n body scope cells a ob e ea g=>by
 obtain ⟨⟨ob0,p,_⟩,aC,_⟩:=x.objs n (O.lam body scope cells) a e (by simp) ea;rw [k a ob0 aC p] at g;cases g;exact c n body scope cells a _ e ea p
theorem St.keeps(x:St G C kp φ s r){h':Heap}{tk:Tok}{d:Drawn}(k:∀ b o,r.heap.get? b=some o->h'.get? b=some o):St G C kp φ s {r with heap:=h',toks:=tk,drawn:=d} where
 base:=fun b o e=>k b o (x.base b o e)
 ns:=let ⟨m,a,b⟩:=x.ns;⟨m,a.keeps k,b⟩
 kept:=fun q hq=>⟨(x.kept q hq).1.keeps k,(x.kept q hq).2⟩
 low:=x.low
 len:=x.len
 objs:=fun n o a e hd ea=>let ⟨⟨ob,p,q⟩,t⟩:=x.objs n o a e hd ea;⟨⟨ob,k _ _ p,q⟩,t⟩
 inj:=x.inj
 fresh:=x.fresh
 more:=let ⟨xs,a,b,c⟩:=x.more;⟨xs,a,fun q hq=>⟨k _ _ (b q hq).1,(b q hq).2⟩,x.lams c fun a ob _=>k a ob⟩
 gens:=x.gens
 os:=x.os
theorem St.toks(x:St G C kp φ s r){tk:Tok}:St G C kp φ s {r with toks:=tk}:=x.keeps (h':=r.heap) (d:=r.drawn) fun _ _ e=>e
theorem St.ns_some(x:St G C kp φ s r):∃ o,r.heap.get? C=some o:=let ⟨_,⟨o,_,_,e,_⟩,_⟩:=x.ns;⟨o,e⟩
theorem St.big(x:St G C kp φ s r):sysModules < r.heap.objs.size:=by
 obtain ⟨o,e⟩:=x.ns_some;exact Nat.lt_trans x.low.1 (Heap.lt_size e)
theorem St.ne_mods(x:St G C kp φ s r){n:Nat}{a:Addr}(e:φ[n]? =some a):(a==sysModules)=false:=by simpa using x.low.2 n a e
theorem St.kept_some(x:St G C kp φ s r){q:Addr×(Str->Option Value)}(hq:q∈kp):∃ o,r.heap.get? q.1=some o:=let ⟨⟨o,_,_,e,_⟩,_⟩:=x.kept q hq;⟨o,e⟩
theorem St.allocCore(x:St G C kp φ s r){h':Heap}{tk:Tok}{a:Addr}{ob:Obj}{o:O}(y:St G C kp φ s {r with heap:=h',toks:=tk})(hn:r.heap.get? a=none)(ha:h'.get? a=some ob)
  (hr:OR G.w (φ++ [a]) o ob) (h0:a≠sysModules)
  (hm:∃ xs,G.tabs xs/\(∀ q∈xs,r.heap.get? q.1=some q.2/\h'.get? q.1=some q.2/\q.1≠C/\(∀ p∈kp,p.1≠q.1)/\G.base.get? q.1=none/\∀ n,Live s n->φ[n]? ≠some q.1)/\LamsIn φ s.h h' xs/\((∃ b sc ce,o=O.lam b sc ce)->LamIn xs ob)):St G C kp (φ++ [a]) {s with h:=s.h++ [o]} {r with heap:=h',toks:=tk}:=by
 have E:=Ext.one φ a;have aC:a≠C:=fun e=>by obtain ⟨o,q⟩:=x.ns_some;rw [<-e,hn] at q;cases q
 have aK:∀ q∈kp,q.1≠a:=fun q hq e=>by obtain ⟨o,z⟩:=x.kept_some hq;rw [e,hn] at z;cases z
 have aB:G.base.get? a=none:=by
  cases e:G.base.get? a with
  | none=>rfl
  | some o=>have:=x.base a o e;rw [hn] at this;cases this
 have old:∀ {n:Nat} {o':O},(s.h++ [o])[n]? =some o'->(n < s.h.length/\s.h[n]? =some o')\/(n=s.h.length/\o'=o):=by
  intro n o' e;rcases Nat.lt_trichotomy n s.h.length with h | h | h
  ·exact .inl ⟨h,by rw [List.getElem?_append_left h] at e;exact e⟩
  ·subst h;rw [List.getElem?_append_right (Nat.le_refl _)] at e;simp at e;exact .inr ⟨rfl,e.symm⟩
  ·rw [List.getElem?_append_right (Nat.le_of_lt h)] at e;have:n - s.h.length≠0:=by omega
   cases z:n - s.h.length with
   | zero=>exact absurd z this
   | succ k=>rw [z] at e;simp at e
 have phi:∀ {n:Nat} {b:Addr},n < s.h.length->(φ++ [a])[n]? =some b->φ[n]? =some b:=fun hl e=>by
  rw [List.getElem?_append_left (by rw [x.len];exact hl)] at e;exact e
 have phiN:∀ {b:Addr},(φ++ [a])[s.h.length]? =some b->b=a:=fun e=>by
  rw [List.getElem?_append_right (by rw [x.len];exact Nat.le_refl _),x.len] at e;simpa using e.symm
 have live:∀ {n:Nat},Live {s with h:=s.h++ [o]} n->(n < s.h.length/\Live s n)\/n=s.h.length:=fun ⟨o',e,hd⟩=>by
  rcases old e with ⟨h,e⟩ | ⟨h,_⟩
  ·exact .inl ⟨h,o',e,hd⟩
  ·exact .inr h
 have liveA:∀ {n:Nat} {b:Addr},Live s n->φ[n]? =some b->b≠a:=fun ⟨o',e,hd⟩ eb z=>by
  obtain ⟨ob',q,_⟩:=x.at e hd eb;rw [z,hn] at q;cases q
 refine {base:=y.base,ns:=let ⟨m,a,b⟩:=y.ns;⟨m,a,b.mono E⟩,kept:=y.kept,low:=⟨x.low.1,fun n b e=>?_⟩,len:=by simp [x.len],objs:=?_,inj:=?_,fresh:=x.fresh,more:=?_,gens:=x.gens,os:=x.os}
 ·rcases Nat.lt_trichotomy n s.h.length with h | h | h
  ·exact x.low.2 n b (phi h e)
  ·subst h;rw [phiN e];exact h0
  ·rw [List.getElem?_append_right (by rw [x.len];exact Nat.le_of_lt h),x.len] at e;cases z:n - s.h.length with
   | zero=>exact absurd z (by omega)
   | succ k=>rw [z] at e;simp at e
 ·intro n o' b e hd eb;rcases old e with ⟨hl,e⟩ | ⟨rfl,rfl⟩
  ·obtain ⟨⟨ob',p,q⟩,t⟩:=y.objs n o' b e hd (phi hl eb);exact ⟨⟨ob',p,q.mono E⟩,t⟩
  ·rw [phiN eb];exact ⟨⟨ob,ha,hr⟩,aC,aK,aB⟩
 ·intro n k' b ln lk en ek;rcases live ln with ⟨hn',ln⟩ | rfl <;> rcases live lk with ⟨hk',lk⟩ | rfl
  ·exact x.inj n k' b ln lk (phi hn' en) (phi hk' ek)
  ·exact absurd (phiN ek) (liveA ln (phi hn' en))
  ·exact absurd (phiN en) (liveA lk (phi hk' ek))
  ·rfl
 ·obtain ⟨xs,t,q,lm,nl⟩:=hm;refine ⟨xs,t,fun p hp=>?_,fun n body scope cells b ob' e eb g=>?_⟩
  ·obtain ⟨q1,q1',q2,q3,q4,q5⟩:=q p hp;refine ⟨q1',q2,q3,q4,fun n ln e=>?_⟩;rcases live ln with ⟨hl,ln⟩ | rfl
   ·exact q5 n ln (phi hl e)
   ·have:=phiN e;rw [this,hn] at q1;cases q1
  ·rcases old e with ⟨hlt,e'⟩ | ⟨rfl,e'⟩
   ·exact lm n body scope cells b ob' e' (phi hlt eb) g
   ·rw [phiN eb] at g;have:ob'=ob:=Option.some.inj (g.symm.trans ha);subst this;exact nl ⟨_,_,_,e'.symm⟩
theorem St.allocOf(x:St G C kp φ s r){h':Heap}{tk:Tok}{a:Addr}{ob:Obj}{o:O}(y:St G C kp φ s {r with heap:=h',toks:=tk})(k:∀ b o,b≠C->r.heap.get? b=some o->h'.get? b=some o)(hn:r.heap.get? a=none)(ha:h'.get? a=some ob)
  (hr:OR G.w (φ++ [a]) o ob) (h0:a≠sysModules) (hl:∀ b sc ce,o≠O.lam b sc ce:=by intro _ _ _ h;first | cases h | (unfold putD at h;cases h)):St G C kp (φ++ [a]) {s with h:=s.h++ [o]} {r with heap:=h',toks:=tk}:=
 x.allocCore y hn ha hr h0 (let ⟨xs,t,q,lm⟩:=x.more;⟨xs,t,fun p hp=>let ⟨q1,q2⟩:=q p hp;⟨q1,k _ _ q2.1 q1,q2⟩,x.lams lm k,fun ⟨_,_,_,z⟩=>absurd z (hl _ _ _)⟩)
theorem St.alloc(x:St G C kp φ s r){h':Heap}{tk:Tok}{a:Addr}{ob:Obj}{o:O}(k:∀ b o,r.heap.get? b=some o->h'.get? b=some o)(hn:r.heap.get? a=none)(ha:h'.get? a=some ob)
  (hr:OR G.w (φ++ [a]) o ob) (h0:a≠sysModules) (hl:∀ b sc ce,o≠O.lam b sc ce:=by intro _ _ _ h;first | cases h | (unfold putD at h;cases h)):St G C kp (φ++ [a]) {s with h:=s.h++ [o]} {r with heap:=h',toks:=tk}:=
 x.allocOf (x.keeps (tk:=tk) (d:=r.drawn) k) (fun b o _=>k b o) hn ha hr h0 hl
end
end
section
theorem la_(x:Str)(v:V):∀ (l:List (Str×V)) (y:Str),(putA x v l).lookup y=if y=x then some v else l.lookup y
 | [],y=>by
  simp only [putA,List.lookup_cons,List.lookup_nil];by_cases h:y=x
  ·simp [h]
  ·have:(y==x)=false:=by simpa using h
   rw [this,if_neg h]
 | (z,u)::r,y=>by
  unfold putA;by_cases h:z=x
  ·subst h;rw [if_pos rfl];simp only [List.lookup_cons];by_cases q:y=z
   ·simp [q]
   ·have:(y==z)=false:=by simpa using q
    rw [this,if_neg q]
  ·rw [if_neg h];simp only [List.lookup_cons];by_cases q:y=z
   ·subst q;simp [h]
   ·have:(y==z)=false:=by simpa using q
    rw [this];exact la_ x v r y
section
variable {G:Ground} {C:Addr} {kp:Kept} {φ:List Addr} {s:S} {r:Shared}
theorem St.upd(x:St G C kp φ s r){n:Nat}{o o':O}{a:Addr}{h':Heap}{tk:Tok}(e:s.h[n]? =some o)(hd:o≠ .dead)(ea:φ[n]? =some a)
  (k:∀ b ob,b≠a->r.heap.get? b=some ob->h'.get? b=some ob) (ha:o'= .dead\/∃ ob,h'.get? a=some ob/\OR G.w φ o' ob) (hl:∀ b sc ce,o'≠ .lam b sc ce:=by intro _ _ _ h;first | cases h | (unfold putD at h;cases h)):
  St G C kp φ {s with h:=s.h.set n o'} {r with heap:=h',toks:=tk}:=by
 obtain ⟨_,aC,aK,aB⟩:=x.objs n o a e hd ea;have hl':=(List.getElem?_eq_some_iff.mp e).1;have live:∀ {j:Nat},Live {s with h:=s.h.set n o'} j->Live s j:=fun {j} ⟨oj,ej,dj⟩=>by
  by_cases hj:n=j
  ·subst hj;exact ⟨o,e,hd⟩
  ·have ej':(s.h.set n o')[j]? =some oj:=ej;rw [List.getElem?_set_ne hj] at ej';exact ⟨oj,ej',dj⟩
 refine {base:=fun b ob eb=>k b ob (fun z=>by rw [z,aB] at eb;cases eb) (x.base b ob eb),ns:=?_,kept:=?_,low:=x.low,len:=by simpa using x.len,objs:=?_,inj:=fun i j b li lj=>x.inj i j b (live li) (live lj),fresh:=x.fresh,more:=?_,gens:=x.gens,os:=x.os}
 ·obtain ⟨m,hm,hlo⟩:=x.ns;exact ⟨m,hm.extBut (b:=a) (fun b ob hb eb=>k b ob hb eb) (Ne.symm aC),hlo⟩
 ·intro q hq;exact ⟨(x.kept q hq).1.extBut (b:=a) (fun b ob hb eb=>k b ob hb eb) (aK q hq),(x.kept q hq).2⟩
 ·intro j oj b ej dj eb;have ej':(s.h.set n o')[j]? =some oj:=ej;by_cases hj:n=j
  ·subst hj;rw [List.getElem?_set_self hl'] at ej';cases ej';rw [ea] at eb;cases eb;rcases ha with ha | ha
   ·exact absurd ha dj
   ·exact ⟨ha,aC,aK,aB⟩
  ·rw [List.getElem?_set_ne hj] at ej';obtain ⟨⟨ob,p,q⟩,t⟩:=x.objs j oj b ej' dj eb;exact ⟨⟨ob,k b ob (fun z=>hj (x.inj n j a ⟨o,e,hd⟩ ⟨oj,ej',dj⟩ ea (z▸eb))) p,q⟩,t⟩
 ·obtain ⟨xs,t,q,lm⟩:=x.more;refine ⟨xs,t,fun p hp=>?_,fun j body scope cells b ob ej eb g=>?_⟩
  ·obtain ⟨q1,q2,q3,q4,q5⟩:=q p hp;exact ⟨k _ _ (fun z=>q5 n ⟨o,e,hd⟩ (z▸ea)) q1,q2,q3,q4,fun j lj=>q5 j (live lj)⟩
  ·have ej':(s.h.set n o')[j]? =some (.lam body scope cells):=ej;by_cases hj:n=j
   ·subst hj;rw [List.getElem?_set_self hl'] at ej';cases ej';exact absurd rfl (hl _ _ _)
   ·rw [List.getElem?_set_ne hj] at ej';obtain ⟨⟨ob0,p0,_⟩,_⟩:=x.objs j _ b ej' (by simp) eb;rw [k b ob0 (fun z=>hj (x.inj n j a ⟨o,e,hd⟩ ⟨_,ej',by simp⟩ ea (z▸eb))) p0] at g;cases g;exact lm j body scope cells b _ ej' eb p0
theorem St.upd2(x:St G C kp φ s r){n1 n2:Nat}{o1 o1' o2 o2' o:O}{a1 a2 a:Addr}{ob:Obj}{h':Heap}{tk:Tok}(e1:s.h[n1]? =some o1)(d1:o1≠ .dead)(f1:φ[n1]? =some a1)(e2:s.h[n2]? =some o2)(d2:o2≠ .dead)(f2:φ[n2]? =some a2)(hne:n1≠n2)
  (k:∀ b ob,b≠a1->b≠a2->r.heap.get? b=some ob->h'.get? b=some ob) (g1:∃ ob,h'.get? a1=some ob/\OR G.w (φ++ [a]) o1' ob) (g2:∃ ob,h'.get? a2=some ob/\OR G.w (φ++ [a]) o2' ob) (hn:r.heap.get? a=none) (ha:h'.get? a=some ob) (hr:OR G.w (φ++ [a]) o ob) (h0:a≠sysModules)
  (l1:∀ b sc ce,o1'≠ .lam b sc ce) (l2:∀ b sc ce,o2'≠ .lam b sc ce) (l3:∀ b sc ce,o≠ .lam b sc ce):
  St G C kp (φ++ [a]) {s with h:=(s.h.set n1 o1').set n2 o2'++ [o]} {r with heap:=h',toks:=tk}:=by
 have E:=Ext.one φ a;obtain ⟨_,aC1,aK1,aB1⟩:=x.objs n1 o1 a1 e1 d1 f1;obtain ⟨_,aC2,aK2,aB2⟩:=x.objs n2 o2 a2 e2 d2 f2;have aC:a≠C:=fun e=>by obtain ⟨o,q⟩:=x.ns_some;rw [<-e,hn] at q;cases q
 have aK:∀ q∈kp,q.1≠a:=fun q hq e=>by obtain ⟨o,z⟩:=x.kept_some hq;rw [e,hn] at z;cases z
 have aB:G.base.get? a=none:=by
  cases e:G.base.get? a with
  | none=>rfl
  | some o=>have:=x.base a o e;rw [hn] at this;cases this
 have hl1:=(List.getElem?_eq_some_iff.mp e1).1;have hl2:=(List.getElem?_eq_some_iff.mp e2).1;have hlen:((s.h.set n1 o1').set n2 o2').length=s.h.length:=by simp
 have kk:∀ b ob,b≠a1->b≠a2->r.heap.get? b=some ob->h'.get? b=some ob:=k;have old:∀ {n:Nat} {o':O},((s.h.set n1 o1').set n2 o2'++ [o])[n]? =some o'->(n=n1/\o'=o1')\/(n=n2/\o'=o2')\/(n < s.h.length/\n≠n1/\n≠n2/\s.h[n]? =some o')\/(n=s.h.length/\o'=o):=by
  intro n o' e;rcases Nat.lt_trichotomy n s.h.length with h | h | h
  ·rw [List.getElem?_append_left (by rw [hlen];exact h)] at e;by_cases h2:n2=n
   ·subst h2;rw [List.getElem?_set_self (by simpa using h)] at e;exact .inr (.inl ⟨rfl,(Option.some.inj e).symm⟩)
   ·rw [List.getElem?_set_ne h2] at e;by_cases h1:n1=n
    ·subst h1;rw [List.getElem?_set_self h] at e;exact .inl ⟨rfl,(Option.some.inj e).symm⟩
    ·rw [List.getElem?_set_ne h1] at e;exact .inr (.inr (.inl ⟨h,Ne.symm h1,Ne.symm h2,e⟩))
  ·subst h;rw [List.getElem?_append_right (by rw [hlen];exact Nat.le_refl _)] at e;simp at e;exact .inr (.inr (.inr ⟨rfl,e.symm⟩))
  ·rw [List.getElem?_append_right (by rw [hlen];exact Nat.le_of_lt h),hlen] at e;cases z:n - s.h.length with
   | zero=>exact absurd z (by omega)
   | succ k=>rw [z] at e;simp at e
 have phi:∀ {n:Nat} {b:Addr},n < s.h.length->(φ++ [a])[n]? =some b->φ[n]? =some b:=fun hl e=>by
  rw [List.getElem?_append_left (by rw [x.len];exact hl)] at e;exact e
 have phiN:∀ {b:Addr},(φ++ [a])[s.h.length]? =some b->b=a:=fun e=>by
  rw [List.getElem?_append_right (by rw [x.len];exact Nat.le_refl _),x.len] at e;simpa using e.symm
 have L1:Live s n1:=⟨o1,e1,d1⟩;have L2:Live s n2:=⟨o2,e2,d2⟩;have live:∀ {n:Nat},Live {s with h:=(s.h.set n1 o1').set n2 o2'++ [o]} n->(n < s.h.length/\Live s n)\/n=s.h.length:=fun ⟨o',e,hd⟩=>by
  rcases old e with ⟨rfl,_⟩ | ⟨rfl,_⟩ | ⟨h,_,_,e⟩ | ⟨h,_⟩
  ·exact .inl ⟨hl1,L1⟩
  ·exact .inl ⟨hl2,L2⟩
  ·exact .inl ⟨h,o',e,hd⟩
  ·exact .inr h
 have liveA:∀ {n:Nat} {b:Addr},Live s n->φ[n]? =some b->b≠a:=fun ⟨o',e,hd⟩ eb z=>by
  obtain ⟨ob',q,_⟩:=x.at e hd eb;rw [z,hn] at q;cases q
 refine {base:=fun b ob' eb=>k b ob' (fun z=>by rw [z,aB1] at eb;cases eb) (fun z=>by rw [z,aB2] at eb;cases eb) (x.base b ob' eb),ns:=?_,kept:=?_,low:=⟨x.low.1,fun n b e=>?_⟩,len:=by simp [x.len],objs:=?_,inj:=?_,fresh:=x.fresh,more:=?_,gens:=x.gens,os:=x.os}
 ·obtain ⟨m,⟨oC,es,ep,c3,c4⟩,hlo⟩:=x.ns;exact ⟨m,⟨oC,es,ep,k _ _ (Ne.symm aC1) (Ne.symm aC2) c3,c4⟩,hlo.mono E⟩
 ·intro q hq;obtain ⟨⟨oC,es,ep,c3,c4⟩,c5⟩:=x.kept q hq;exact ⟨⟨oC,es,ep,k _ _ (aK1 q hq) (aK2 q hq) c3,c4⟩,c5⟩
 ·rcases Nat.lt_trichotomy n s.h.length with h | h | h
  ·exact x.low.2 n b (phi h e)
  ·subst h;rw [phiN e];exact h0
  ·rw [List.getElem?_append_right (by rw [x.len];exact Nat.le_of_lt h),x.len] at e;cases z:n - s.h.length with
   | zero=>exact absurd z (by omega)
   | succ k=>rw [z] at e;simp at e
 ·intro n o' b e hd eb;rcases old e with ⟨rfl,rfl⟩ | ⟨rfl,rfl⟩ | ⟨hl,z1,z2,e⟩ | ⟨rfl,rfl⟩
  ·have:=phi hl1 eb;rw [f1] at this;cases this;exact ⟨g1,aC1,aK1,aB1⟩
  ·have:=phi hl2 eb;rw [f2] at this;cases this;exact ⟨g2,aC2,aK2,aB2⟩
  ·have eb:=phi hl eb;obtain ⟨⟨ob',p,q⟩,t⟩:=x.objs n o' b e hd eb;exact ⟨⟨ob',k b ob' (fun z=>z1 (x.inj n n1 a1 ⟨o',e,hd⟩ L1 (z▸eb) f1)) (fun z=>z2 (x.inj n n2 a2 ⟨o',e,hd⟩ L2 (z▸eb) f2)) p,q.mono E⟩,t⟩
  ·rw [phiN eb];exact ⟨⟨ob,ha,hr⟩,aC,aK,aB⟩
 ·intro n k' b ln lk en ek;rcases live ln with ⟨hn',ln⟩ | rfl <;> rcases live lk with ⟨hk',lk⟩ | rfl
  ·exact x.inj n k' b ln lk (phi hn' en) (phi hk' ek)
  ·exact absurd (phiN ek) (liveA ln (phi hn' en))
  ·exact absurd (phiN en) (liveA lk (phi hk' ek))
  ·rfl
 ·obtain ⟨xs,t,q,lm⟩:=x.more;refine ⟨xs,t,fun p hp=>?_,fun n body scope cells b ob' e eb g=>?_⟩
  ·obtain ⟨q1,q2,q3,q4,q5⟩:=q p hp;refine ⟨k _ _ (fun z=>q5 n1 L1 (z▸f1)) (fun z=>q5 n2 L2 (z▸f2)) q1,q2,q3,q4,fun n ln e=>?_⟩;rcases live ln with ⟨hl,ln⟩ | rfl
   ·exact q5 n ln (phi hl e)
   ·have:=phiN e;rw [this,hn] at q1;cases q1
  ·rcases old e with ⟨rfl,z⟩ | ⟨rfl,z⟩ | ⟨hlt,z1,z2,e'⟩ | ⟨rfl,z⟩
   ·exact absurd z.symm (l1 _ _ _)
   ·exact absurd z.symm (l2 _ _ _)
   ·have eb:=phi hlt eb;obtain ⟨⟨ob0,p0,_⟩,_⟩:=x.objs n _ b e' (by simp) eb;rw [k b ob0 (fun z=>z1 (x.inj n n1 a1 ⟨_,e',by simp⟩ L1 (z▸eb) f1)) (fun z=>z2 (x.inj n n2 a2 ⟨_,e',by simp⟩ L2 (z▸eb) f2)) p0] at g;cases g;exact lm n body scope cells b _ e' eb p0
   ·exact absurd z.symm (l3 _ _ _)
theorem St.loc(x:St G C kp φ s r){h':Heap}{tk:Tok}{y:Str}{v:V}{u:Value}(hv:VR φ v u)(hs:Heap.ExtBut C r.heap h'){m:Str->Option Value}(hm:r.heap.Ns C m)
  (hn:h'.Ns C (fun z=>if z=y then some u else m z)):St G C kp φ {s with l:=putA y v s.l} {r with heap:=h',toks:=tk}:=by
 obtain ⟨m₀,hm₀,hl⟩:=x.ns;have agree:=hm.agree hm₀;refine {base:=fun b ob eb=>hs b ob (fun z=>by rw [z,x.fresh.1] at eb;cases eb) (x.base b ob eb),ns:=⟨_,hn,fun z w e=>?_⟩,kept:=fun q hq=>⟨(x.kept q hq).1.extBut hs (x.kept q hq).2.1,(x.kept q hq).2⟩,low:=x.low,len:=x.len,objs:=?_,inj:=x.inj,fresh:=x.fresh,more:=?_,gens:=x.gens,os:=x.os}
 ·rw [la_] at e;by_cases hz:z=y
  ·rw [if_pos hz] at e ⊢;cases e;exact ⟨u,rfl,hv⟩
  ·rw [if_neg hz] at e ⊢;obtain ⟨t,ht,hr⟩:=hl z w e;exact ⟨t,(agree z).trans ht,hr⟩
 ·intro n o a e hd ea;obtain ⟨⟨ob,p,q⟩,t⟩:=x.objs n o a e hd ea;exact ⟨⟨ob,hs a ob t.1 p,q⟩,t⟩
 ·obtain ⟨xs,t,q,lm⟩:=x.more;exact ⟨xs,t,fun p hp=>⟨hs _ _ (q p hp).2.1 (q p hp).1,(q p hp).2⟩,x.lams lm fun a ob h=>hs a ob h⟩
theorem St.enter(x:St G C kp φ s r){h':Heap}{tk:Tok}{L:Addr}{m m₁:Str->Option Value}(hm:r.heap.Ns C m)(k:∀ b o,r.heap.get? b=some o->h'.get? b=some o)(hL:r.heap.get? L=none)(hn:h'.Ns L m₁)(hlow:sysModules < L)(l:List (Str×V))(hl:LocR φ l m₁):
  St G L ((C,m)::kp) φ {s with l:=l} {r with heap:=h',toks:=tk}:=by
 have y:=x.keeps (tk:=tk) (d:=r.drawn) k;have ne:∀ {b:Addr} {o:Obj},r.heap.get? b=some o->b≠L:=fun e z=>by rw [z,hL] at e;cases e
 obtain ⟨oC,eC⟩:=x.ns_some;have bL:G.base.get? L=none:=by
  cases e:G.base.get? L with
  | none=>rfl
  | some o=>exact absurd rfl (ne (x.base _ _ e))
 refine {base:=y.base,ns:=⟨m₁,hn,hl⟩,kept:=?_,low:=⟨hlow,x.low.2⟩,len:=x.len,objs:=?_,inj:=x.inj,fresh:=⟨bL,?_⟩,more:=?_,gens:=x.gens,os:=x.os}
 ·intro q hq;rcases List.mem_cons.mp hq with rfl | hq
  ·exact ⟨hm.keeps k,ne eC,x.low.1⟩
  ·obtain ⟨o,e⟩:=x.kept_some hq;exact ⟨(y.kept q hq).1,ne e,(x.kept q hq).2.2⟩
 ·intro n o a e hd ea;obtain ⟨⟨ob,p,q⟩,aC,aK,aB⟩:=x.objs n o a e hd ea;refine ⟨⟨ob,k _ _ p,q⟩,ne p,fun q hq=>?_,aB⟩;rcases List.mem_cons.mp hq with rfl | hq
  ·exact Ne.symm aC
  ·exact aK q hq
 ·intro q hq;rcases List.mem_cons.mp hq with rfl | hq
  ·exact x.fresh.1
  ·exact x.fresh.2 q hq
 ·obtain ⟨xs,t,q,lm⟩:=x.more;refine ⟨xs,t,fun p hp=>?_,x.lams lm fun a ob _=>k a ob⟩;obtain ⟨q1,q2,q3,q4,q5⟩:=q p hp;refine ⟨k _ _ q1,ne q1,fun z hz=>?_,q4,q5⟩;rcases List.mem_cons.mp hz with rfl | hz
  ·exact Ne.symm q2
  ·exact q3 z hz
theorem St.leave{L:Addr}{m:Str->Option Value}{φ':List Addr}{s':S}{r':Shared}{l:List (Str×V)}(x:St G L ((C,m)::kp) φ' s' r')(hl:LocR φ' l m)(hk:∀ q∈kp,q.1≠C):St G C kp φ' {s' with l:=l} r' where
 base:=x.base
 ns:=⟨m,(x.kept (C,m) (.head _)).1,hl⟩
 kept:=fun q hq=>⟨(x.kept q (.tail _ hq)).1,hk q hq,(x.kept q (.tail _ hq)).2.2⟩
 low:=⟨(x.kept (C,m) (.head _)).2.2,x.low.2⟩
 len:=x.len
 objs:=fun n o a e hd ea=>let ⟨p,_,aK,aB⟩:=x.objs n o a e hd ea;⟨p,Ne.symm (aK (C,m) (.head _)),fun q hq=>aK q (.tail _ hq),aB⟩
 inj:=x.inj
 fresh:=⟨x.fresh.2 (C,m) (.head _),fun q hq=>x.fresh.2 q (.tail _ hq)⟩
 more:=let ⟨xs,t,q,lm⟩:=x.more;⟨xs,t,fun p hp=>let ⟨q1,q2,q3,q4,q5⟩:=q p hp;⟨q1,Ne.symm (q3 (C,m) (.head _)),fun z hz=>q3 z (.tail _ hz),q4,q5⟩,lm⟩
 gens:=x.gens
 os:=x.os
end
section
variable {α β:Type}
theorem run_pure(a:α)(s:S):(pure a:M α) s=some (.ok a,s):=rfl
theorem bd_{m:M α}{f:α->M β}{s s':S}{b:β}(h:(m >>=f) s=some (.ok b,s')):∃ a s₁,m s=some (.ok a,s₁)/\f a s₁=some (.ok b,s'):=by
 change M.bind m f s=_ at h;unfold M.bind at h;split at h
 ·cases h
 ·rename_i a s₁ e;exact ⟨a,s₁,e,h⟩
 ·cases h
theorem bf_{m:M α}{f:α->M β}{s s':S}{c:Addr}(h:(m >>=f) s=some (.exc c,s')):m s=some (.exc c,s')\/∃ a s₁,m s=some (.ok a,s₁)/\f a s₁=some (.exc c,s'):=by
 change M.bind m f s=_ at h;unfold M.bind at h;split at h
 ·cases h
 ·rename_i a s₁ e;exact .inr ⟨a,s₁,e,h⟩
 ·rename_i C s₁ e;cases h;exact .inl e
theorem bo_{m:M α}{f:α->M β}{s s₁:S}{a:α}(h:m s=some (.ok a,s₁)):(m >>=f) s=f a s₁:=by
 show M.bind m f s=_;unfold M.bind;rw [h]
theorem ba_{m:M α}{f:α->M β}{s s₁:S}{c:Addr}(h:m s=some (.exc c,s₁)):(m >>=f) s=some (.exc c,s₁):=by
 show M.bind m f s=_;unfold M.bind;rw [h]
theorem bb_{m:M α}{f:α->M β}{s:S}(h:m s=none):(m >>=f) s=none:=by
 show M.bind m f s=_;unfold M.bind;rw [h]
theorem bind_some{m:M α}{f:α->M β}{s:S}(h:(m >>=f) s≠none):m s≠none:=fun e=>h (bb_ e)
end
theorem geto_ok{n:Nat}{o:O}{s s':S}(h:geto n s=some (.ok o,s')):s.h[n]? =some o/\s'=s:=by
 unfold geto at h;split at h
 ·rename_i e;cases h;exact ⟨e,rfl⟩
 ·cases h
theorem seto_ok{n:Nat}{o:O}{u:Unit}{s s':S}(h:seto n o s=some (.ok u,s')):n < s.h.length/\s'={s with h:=s.h.set n o}:=by
 unfold seto at h;split at h
 ·rename_i e;cases h;exact ⟨e,rfl⟩
 ·cases h
theorem need_ok{b:Bool}{u:Unit}{s s':S}(h:need b s=some (.ok u,s')):b=true/\s'=s:=by
 unfold need at h;split at h <;> cases h;exact ⟨rfl,rfl⟩
theorem opt_ok{α:Type}{o:Option α}{a:α}{s s':S}(h:opt o s=some (.ok a,s')):o=some a/\s'=s:=by
 unfold opt at h;cases o <;> cases h;exact ⟨rfl,rfl⟩
structure Lev where
 G:Ground
 prog:Program
 A:Around
 env:Env
 kp:Kept
 envs:List Env
structure Flies(Λ:Lev)(φ:List Addr)(s:S)(c:Addr)(e:Addr)(r:Shared):Prop where
 st:St Λ.G Λ.env.locals Λ.kp φ s r
 fly:∃ B a0,Heap.StaysIn B r.heap/\B.get? e=none/\r.heap.FunFrames B Λ.envs/\Λ.G.base.StaysIn B/\
  (∀ (n:Nat) (o:O) (a:Addr),s.h[n]? =some o->o≠ .dead->φ[n]? =some a->B.get? a=r.heap.get? a)/\
  (∃ xs,Λ.G.tabs xs/\(∀ q∈xs,B.get? q.1=some q.2/\r.heap.get? q.1=some q.2/\q.1≠Λ.env.locals/\(∀ p∈Λ.kp,p.1≠q.1)/\Λ.G.base.get? q.1=none/\∀ n,Live s n->φ[n]? ≠some q.1)/\LamsIn φ s.h B xs)/\
  ((∃ ob vs,r.heap.get? e=some ob/\ob.cls= .ref c/\ob.data= .fields vs/\vs[0]? =some a0/\vs[1]? =some .none)\/r.heap.TracedW B e (.ref c) a0)
structure Sim{α β:Type}(Λ:Lev)(φ₀:List Addr)(R:List Addr->α->β->Prop)(m:M α)(t:Sem β):Prop where
 run:∀ (φ:List Addr) (s:S) (r:Shared) (Q:β->Shared->Prop) (E:Value->Shared->Prop),Ext φ₀ φ->St Λ.G Λ.env.locals Λ.kp φ s r->PassesOwn (model Λ.prog Λ.G.w) Λ.A Λ.env E->m s≠none->
  (∀ a s',m s=some (.ok a,s')->∀ φ' b r',Ext φ φ'->St Λ.G Λ.env.locals Λ.kp φ' s' r'->R φ' a b->Q b r')->
  (∀ c s',m s=some (.exc c,s')->∀ φ' e r',Ext φ φ'->Flies Λ φ' s' c e r'->E (.ref e) r')->
  wpAny (model Λ.prog Λ.G.w) Λ.A t Q E r
section
variable {α β γ δ:Type} {Λ:Lev} {φ₀:List Addr}
theorem Sim.pure{R:List Addr->α->β->Prop}{a:α}{b:β}(h:∀ φ,Ext φ₀ φ->R φ a b):Sim Λ φ₀ R (Pure.pure a) (Pure.pure b):=
 ⟨fun φ s r Q E x st _ _ ok _=>wpAny_pure (ok a s rfl φ b r (Ext.refl φ) st (h φ x))⟩
theorem Sim.bind{R:List Addr->α->β->Prop}{R':List Addr->γ->δ->Prop}{m:M α}{f:α->M γ}{t:Sem β}{g:β->Sem δ}(h:Sim Λ φ₀ R m t)(k:∀ φ a b,Ext φ₀ φ->R φ a b->Sim Λ φ R' (f a) (g b)):
  Sim Λ φ₀ R' (m >>=f) (t >>=g):=by
 refine ⟨fun φ s r Q E x st pe nn ok ex=>?_⟩;refine wpAny_bind (h.run φ s r _ E x st pe (bind_some nn) (fun a s' e φ' b r' x' st' rr=>?_) fun c s' e φ' v r' x' fl=>ex c s' (ba_ e) φ' v r' x' fl);have q:=bo_ (f:=f) e;exact (k φ' a b (x.trans x') rr).run φ' s' r' Q E (Ext.refl _) st' pe (by rw [<-q];exact nn) (fun c s'' e' φ'' d r'' x''=>ok c s'' (q.trans e') φ'' d r'' (x'.trans x'')) fun c s'' e' φ'' v r'' x''=>ex c s'' (q.trans e') φ'' v r'' (x'.trans x'')
theorem Sim.mono{R:List Addr->α->β->Prop}{m:M α}{t:Sem β}{φ₁:List Addr}(h:Sim Λ φ₀ R m t)(x:Ext φ₀ φ₁):Sim Λ φ₁ R m t:=⟨fun φ s r Q E y=>h.run φ s r Q E (x.trans y)⟩
theorem Sim.rel{R R':List Addr->α->β->Prop}{m:M α}{t:Sem β}(h:Sim Λ φ₀ R m t)(k:∀ φ a b,Ext φ₀ φ->R φ a b->R' φ a b):Sim Λ φ₀ R' m t:=
 ⟨fun φ s r Q E x st pe nn ok ex=>h.run φ s r Q E x st pe nn (fun a s' e φ' b r' x' st' rr=>ok a s' e φ' b r' x' st' (k φ' a b (x.trans x') rr)) ex⟩
theorem Sim.skip{R:List Addr->α->β->Prop}{m:M α}{u:Sem γ}{f:γ->Sem β}(hu:∀ {A:Around} {E:Value->Shared->Prop} {s:Shared} {Q:γ->Shared->Prop},(∀ c,Q c s)->wpAny (model Λ.prog Λ.G.w) A u Q E s)(h:∀ c,Sim Λ φ₀ R m (f c)):
  Sim Λ φ₀ R m (u >>=f):=⟨fun φ s r Q E x st pe nn ok ex=>wpAny_bind (hu fun c=>(h c).run φ s r Q E x st pe nn ok ex)⟩
theorem Sim.at{R:List Addr->α->β->Prop}{m:M α}{pos:Pos}{f:Unit->Sem β}(h:Sim Λ φ₀ R m (f ())):Sim Λ φ₀ R m (standAt pos >>=f):=
 Sim.skip (fun q=>wpAny_standAt (q ())) fun _=>h
theorem Sim.holding{R:List Addr->α->β->Prop}{m:M α}{vs:List Value}{t:Sem β}(h:Sim Λ φ₀ R m t):Sim Λ φ₀ R m (holding vs t):=
 ⟨fun φ s r Q E x st pe nn ok ex=>wpAny_holding (h.run φ s r Q E x st pe nn ok ex)⟩
theorem Sim.operate{R:List Addr->α->Value->Prop}{m:M α}{vs:List Value}{t:Sem Value}(h:Sim Λ φ₀ R m t):Sim Λ φ₀ R m (operate vs t):=
 ⟨fun φ s r Q E x st pe nn ok ex=>wpAny_operating (h.run φ s r Q E x st pe nn ok ex)⟩
theorem Sim.bindPure{R:List Addr->α->β->Prop}{m:M α}{t:Sem β}(h:Sim Λ φ₀ R m t):Sim Λ φ₀ R m (t >>=fun v=>Pure.pure v):=
 ⟨fun φ s r Q E x st pe nn ok ex=>wpAny_bind (wpAny_mono (h.run φ s r Q E x st pe nn ok ex) (fun _ _ q=>wpAny_pure q) fun _ _ e=>e)⟩
theorem Sim.of_eq{R:List Addr->α->β->Prop}{m m':M α}{t t':Sem β}(h:Sim Λ φ₀ R m t)(e:m'=m)(e':t'=t):Sim Λ φ₀ R m' t':=by rw [e,e'];exact h
end
end
section
structure At{α β:Type}(Λ:Lev)(φ:List Addr)(s:S)(r:Shared)(R:List Addr->α->β->Prop)(m:M α)(t:Sem β):Prop where
 go:∀ (Q:β->Shared->Prop) (E:Value->Shared->Prop),PassesOwn (model Λ.prog Λ.G.w) Λ.A Λ.env E->m s≠none->
  (∀ a s',m s=some (.ok a,s')->∀ φ' b r',Ext φ φ'->St Λ.G Λ.env.locals Λ.kp φ' s' r'->R φ' a b->Q b r')->
  (∀ c s',m s=some (.exc c,s')->∀ φ' e r',Ext φ φ'->Flies Λ φ' s' c e r'->E (.ref e) r')->
  wpAny (model Λ.prog Λ.G.w) Λ.A t Q E r
abbrev StL(Λ:Lev):=St Λ.G Λ.env.locals Λ.kp
section
variable {α β γ δ:Type} {Λ:Lev} {φ₀ φ:List Addr} {s:S} {r:Shared} {R:List Addr->α->β->Prop} {t:Sem β}
theorem Sim.of_at{m:M α}(h:∀ φ s r,Ext φ₀ φ->StL Λ φ s r->At Λ φ s r R m t):Sim Λ φ₀ R m t:=⟨fun φ s r Q E x st pe nn ok ex=>(h φ s r x st).go Q E pe nn ok ex⟩
theorem At.of{m:M α}(h:Sim Λ φ₀ R m t)(x:Ext φ₀ φ)(st:StL Λ φ s r):At Λ φ s r R m t:=⟨fun Q E=>h.run φ s r Q E x st⟩
theorem At.fail:At Λ φ s r R (fail:M α) t:=⟨fun _ _ _ nn _ _=>absurd rfl nn⟩
theorem Sim.fail:Sim Λ φ₀ R (Mine.fail:M α) t:=⟨fun _ _ _ _ _ _ _ _ nn _ _=>absurd rfl nn⟩
theorem At.need{b:Bool}{f:Unit->M α}(h:b=true->At Λ φ s r R (f ()) t):At Λ φ s r R (Mine.need b >>=f) t:=by
 cases b with
 | true=>exact ⟨(h rfl).go⟩
 | false=>exact ⟨fun _ _ _ nn _ _=>absurd rfl nn⟩
theorem Sim.need{b:Bool}{f:Unit->M α}(h:b=true->Sim Λ φ₀ R (f ()) t):Sim Λ φ₀ R (Mine.need b >>=f) t:=by
 cases b with
 | true=>exact ⟨(h rfl).run⟩
 | false=>exact ⟨fun _ _ _ _ _ _ _ _ nn _ _=>absurd rfl nn⟩
theorem Sim.need'{b:Bool}{m:M α}(h:b=true->Sim Λ φ₀ R m t):Sim Λ φ₀ R (Mine.need b >>=fun _=>m) t:=Sim.need h
theorem At.opt{o:Option γ}{f:γ->M α}(h:∀ a,o=some a->At Λ φ s r R (f a) t):At Λ φ s r R (Mine.opt o >>=f) t:=by
 cases o with
 | some a=>exact ⟨(h a rfl).go⟩
 | none=>exact ⟨fun _ _ _ nn _ _=>absurd rfl nn⟩
theorem Sim.opt{o:Option γ}{f:γ->M α}(h:∀ a,o=some a->Sim Λ φ₀ R (f a) t):Sim Λ φ₀ R (Mine.opt o >>=f) t:=by
 cases o with
 | some a=>exact ⟨(h a rfl).run⟩
 | none=>exact ⟨fun _ _ _ _ _ _ _ _ nn _ _=>absurd rfl nn⟩
theorem At.opt'{o:Option α}(h:∀ a,o=some a->At Λ φ s r R (Pure.pure a) t):At Λ φ s r R (Mine.opt o) t:=by
 cases o with
 | some a=>exact h a rfl
 | none=>exact ⟨fun _ _ _ nn _ _=>absurd rfl nn⟩
theorem Sim.opt'{o:Option α}(h:∀ a,o=some a->Sim Λ φ₀ R (Pure.pure a) t):Sim Λ φ₀ R (Mine.opt o) t:=by
 cases o with
 | some a=>exact h a rfl
 | none=>exact ⟨fun _ _ _ _ _ _ _ _ nn _ _=>absurd rfl nn⟩
theorem At.geto{n:Nat}{f:O->M α}(h:∀ o,s.h[n]? =some o->At Λ φ s r R (f o) t):At Λ φ s r R (Mine.geto n >>=f) t:=by
 cases e:s.h[n]? with
 | none=>exact ⟨fun _ _ _ nn _ _=>absurd (bb_ (by unfold Mine.geto;rw [e])) nn⟩
 | some o=>
  have q:(Mine.geto n >>=f) s=f o s:=bo_ (by unfold Mine.geto;rw [e]);refine ⟨fun Q E pe nn ok ex=>?_⟩;exact (h o e).go Q E pe (by rwa [q] at nn) (fun a s' e=>ok a s' (by rw [q];exact e)) (fun c s' e=>ex c s' (by rw [q];exact e))
theorem At.ite{c:Prop} [Decidable c]{m₁ m₂:M α}(h₁:c->At Λ φ s r R m₁ t)(h₂:¬ c->At Λ φ s r R m₂ t):At Λ φ s r R (if c then m₁ else m₂) t:=by
 split
 ·rename_i h;exact h₁ h
 ·rename_i h;exact h₂ h
theorem Sim.ite{c:Prop} [Decidable c]{m₁ m₂:M α}(h₁:c->Sim Λ φ₀ R m₁ t)(h₂:¬ c->Sim Λ φ₀ R m₂ t):Sim Λ φ₀ R (if c then m₁ else m₂) t:=by
 split
 ·rename_i h;exact h₁ h
 ·rename_i h;exact h₂ h
theorem At.done{m:M α}{a:α}{s':S}(hm:m s=some (.ok a,s'))(h:∀ (Q:β->Shared->Prop) (E:Value->Shared->Prop),(∀ φ' b r',Ext φ φ'->StL Λ φ' s' r'->R φ' a b->Q b r')->wpAny (model Λ.prog Λ.G.w) Λ.A t Q E r):At Λ φ s r R m t:=
 ⟨fun Q E _ _ ok _=>h Q E (ok a s' hm)⟩
theorem At.pure{a:α}(st:StL Λ φ s r)(h:∀ (Q:β->Shared->Prop) (E:Value->Shared->Prop),(∀ b tk,R φ a b->Q b {r with toks:=tk})->wpAny (model Λ.prog Λ.G.w) Λ.A t Q E r):At Λ φ s r R (Pure.pure a) t:=
 At.done rfl fun Q E k=>h Q E fun b tk rr=>k φ b _ (Ext.refl φ) st.toks rr
theorem Sim.pureT{a:α}(h:∀ (r:Shared) (Q:β->Shared->Prop) (E:Value->Shared->Prop),(∀ b tk,(∀ φ,Ext φ₀ φ->R φ a b)->Q b {r with toks:=tk})->wpAny (model Λ.prog Λ.G.w) Λ.A t Q E r):Sim Λ φ₀ R (Pure.pure a) t:=
 Sim.of_at fun φ s r x st=>At.pure st fun Q E k=>h r Q E fun b tk rr=>k b tk (rr φ x)
end
structure OkA(Λ:Lev)(d:Nat):Prop where
 frames:Λ.A.frames=some Λ.envs
 handled:Λ.A.handled=none
 depth:Λ.A.depth+3*d+20 < recursionLimit
 units:Λ.A.units+40*d+100 < cLine
 cover:∀ env∈Λ.envs,env.scope.kind≠ .module/\∃ L,env.frame=some L/\(L=Λ.env.locals\/∃ q∈Λ.kp,q.1=L)
structure EvR(Λ:Lev)(φ:List Addr)(ρ:Ev):Prop where
 a:OkA Λ ρ.d
 scope:Λ.env.scope=ρ.scope
 kind:ρ.scope.kind= .function
 cells:CellsR φ ρ.cells Λ.env.cells
 glob:Λ.env.globals=mainGlobals
 blt:Λ.env.builtins=builtinsNs
 head:ρ.stm=true->∃ outer L,Λ.envs=Λ.env::outer/\Λ.env.frame=some L
 lq:∀ q,ρ.lq=some q->Λ.env.code= .ref q.1/\Λ.env.qual++"<lambda>"=q.2.2/\q∈Λ.G.cs
theorem EvR.mono{Λ:Lev}{φ φ':List Addr}{ρ:Ev}(h:EvR Λ φ ρ)(x:Ext φ φ'):EvR Λ φ' ρ:={h with cells:=h.cells.mono x}
structure Wd(G:Ground)(K:Frag):Prop where
 X:K.In G.base
 T:∃ p loose mean mg mb,Top p loose mean mg mb G.base
 codes:∀ q∈G.cs,CodeHd G.base q.1 q.2.1
 one:∀ p∈G.cs,∀ q∈G.cs,p.2.1=q.2.1->p=q
inductive FlowR(φ:List Addr):Flow->PySem.Flow->Prop
 | next:FlowR φ .next .next
 | ret {v:V} {x:Value}:VR φ v x->FlowR φ (.ret v) (.ret x)
def SimC(Λ:Lev)(φ₀:List Addr){α:Type}(R:List Addr->α->PySem.Flow->Prop)(m:M α)(c:Code):Prop:=
 ∀ (φ:List Addr) (s:S) (r:Shared) (Q:PySem.Flow->Shared->Prop) (E:Value->Shared->Prop),Ext φ₀ φ->StL Λ φ s r->PassesOwn (model Λ.prog Λ.G.w) Λ.A Λ.env E->m s≠none->
  (∀ a s',m s=some (.ok a,s')->∀ φ' b r',Ext φ φ'->StL Λ φ' s' r'->R φ' a b->Q b r')->
  (∀ c s',m s=some (.exc c,s')->∀ φ' e r',Ext φ φ'->Flies Λ φ' s' c e r'->E (.ref e) r')->
  codeAny (model Λ.prog Λ.G.w) Λ.A c (fun res s'=>match res with | .ok f=>Q f s' | .error e=>cameBackBy (model Λ.prog Λ.G.w) Λ.A Λ.env E e s') r
def SimK(Λ:Lev)(φ₀:List Addr)(m:M Unit)(c:Code):Prop:=
 ∀ (φ:List Addr) (s s':S) (r:Shared) (R:Result->Shared->Prop),Ext φ₀ φ->StL Λ φ s r->m s=some (.ok (),s')->
  (∀ φ' r',Ext φ φ'->StL Λ φ' s' r'->R (.ok .next) r')->codeAny (model Λ.prog Λ.G.w) Λ.A c R r
structure Sound(prog:Program)(G:Ground)(F:Fns):Prop where
 ev:∀ (Λ:Lev) ρ φ e,Λ.G=G->Λ.prog=prog->EvR Λ φ ρ->Sim Λ φ VR (F.ev e ρ) (eval e Λ.env)
 tr:∀ (Λ:Lev) ρ φ e,Λ.G=G->Λ.prog=prog->EvR Λ φ ρ->Sim Λ φ (fun _ a b=>a=b) (F.tr e ρ) (isTrue e Λ.env (eval e Λ.env))
 exs:∀ (Λ:Lev) ρ φ b,Λ.G=G->Λ.prog=prog->EvR Λ φ ρ->Sim Λ φ FlowR (F.exs b ρ) (execs b Λ.env)
 wh:∀ (Λ:Lev) ρ φ t b,Λ.G=G->Λ.prog=prog->EvR Λ φ ρ->SimC Λ φ FlowR (F.wh t b ρ) (.whileLoop t b [] Λ.env)
 fo:∀ (Λ:Lev) ρ φ t b it a,Λ.G=G->Λ.prog=prog->EvR Λ φ ρ->φ[it]? =some a->SimC Λ φ FlowR (F.fo t it b ρ) (.forLoop t (.ref a) b [] Λ.env)
 co:∀ (Λ:Lev) ρ φ t i e ifs sc pos it acc ai aa,Λ.G=G->Λ.prog=prog->EvR Λ φ ρ->φ[it]? =some ai->φ[acc]? =some aa->
  SimK Λ φ (F.co t e ifs it acc ρ) (.compLoop (.ListComp e [⟨t,i,ifs,0⟩] sc pos) 0 (.ref ai) (.ref aa) Λ.env)
 call:∀ (Λ:Lev) φ f x args xs d,Λ.G=G->Λ.prog=prog->OkA Λ d->VR φ f x->VsR φ args xs->Sim Λ φ VR (F.call f args d) (call x xs)
theorem sound_noF(prog:Program)(G:Ground):Sound prog G noF where
 ev:=fun _ _ _ _ _ _ _=>Sim.fail
 tr:=fun _ _ _ _ _ _ _=>Sim.fail
 exs:=fun _ _ _ _ _ _ _=>Sim.fail
 wh:=fun _ _ _ _ _ _ _ _=>fun _ _ _ _ _ _ _ _ nn _ _=>absurd rfl nn
 fo:=fun _ _ _ _ _ _ _ _ _ _ _=>fun _ _ _ _ _ _ _ _ nn _ _=>absurd rfl nn
 co:=fun _ _ _ _ _ _ _ _ _ _ _ _ _ _ _ _ _ _=>fun _ _ _ _ _ _ _ h _=>by cases h
 call:=fun _ _ _ _ _ _ _ _ _ _ _ _=>Sim.fail
end
section
theorem valOf_R{v:Value}{u:V}(h:valOf v=some u)(φ:List Addr):VR φ u v:=by
 cases v <;> simp [valOf] at h <;> subst h <;> simp [VR]
section
variable {Λ:Lev} {φ φ₀:List Addr} {s:S} {r:Shared} {K:Frag} {ρ:Ev}
theorem const_S{c:Const}{u:V}(h:cl_ c=some u):Sim Λ φ₀ VR (Pure.pure u) (constValue Λ.env c):=by
 cases c <;> simp [cl_] at h <;> subst h
 ·exact Sim.pure fun _ _=>rfl
 ·exact Sim.pure fun _ _=>rfl
 ·exact Sim.pureT fun r Q E k=>(wpAny_mkInt (k _ _ fun _ _=>⟨_,rfl⟩))
 ·exact Sim.pureT fun r Q E k=>(wpAny_mkText (k _ _ fun _ _=>⟨_,rfl⟩))
 ·exact Sim.pureT fun r Q E k=>(wpAny_mkTextBytes (k _ _ fun _ _=>⟨_,rfl⟩))
theorem cellM_At{β:Type}{R:List Addr->V->β->Prop}{x:Str}{f:Nat->M V}{t:Sem β}(h:∀ n,ρ.cells.lookup x=some n->At Λ φ s r R (f n) t):At Λ φ s r R (cellM ρ x >>=f) t:=by
 unfold cellM;exact At.opt h
theorem load_S(W:Wd Λ.G K)(e:EvR Λ φ₀ ρ)(x:Str)(pos:Pos):Sim Λ φ₀ VR (loadM K ρ x) (eval (.Name x pos) Λ.env):=by
 refine Sim.of_at fun φ s r ex st=>?_;unfold loadM;refine At.ite (fun _=>At.fail) fun hd=>?_;have hd':(x==("__debug__" :Str))=false:=by simpa using hd
 have hk:Λ.env.scope.kind= .function:=by rw [e.scope];exact e.kind
 have fin:∀ {n:Nat} {k:NameKind},Λ.env.kindOf x=some k->(k= .cell\/k= .free)->ρ.cells.lookup x=some n->¬ x="__classdict__"->
   At Λ φ s r VR (geto n >>=fun o=>match o with | .cell (some v)=>Pure.pure v | _=>Mine.fail) (eval (.Name x pos) Λ.env):=by
  intro n k hx hc hn hcd;refine At.geto fun o ho=>?_;split
  ·rename_i v;refine At.pure st fun Q E k'=>?_;obtain ⟨c,hcl,hφ⟩:=(e.cells.mono ex).look hn;obtain ⟨ob,hob,y,hy,hr⟩:=st.at ho (by simp) hφ;cases y with
   | none=>exact hr.elim
   | some y=>
    rcases hc with rfl | rfl
    ·exact wpAny_Name (wpAny_loadName_cell hk hx hcl ⟨ob,hob,hy⟩ (k' y _ hr)) hd'
    ·exact wpAny_Name (wpAny_loadName_free hk hx hcl ⟨ob,hob,hy⟩ (k' y _ hr) (by simpa using hcd)) hd'
  ·exact At.fail
 split
 ·rename_i hx;have hx':Λ.env.kindOf x=some .local:=by unfold Env.kindOf;rw [e.scope];exact hx
  refine ⟨fun Q E pe nn ok _=>?_⟩;cases hl:s.l.lookup x with
  | none=>exact absurd (by unfold getL;rw [hl]) nn
  | some v=>
   obtain ⟨m,hm,hr⟩:=st.ns;obtain ⟨y,hy,hv⟩:=hr x v hl;exact wpAny_Name (wpAny_loadName_local hk hx' hm hy (ok v s (by unfold getL;rw [hl]) φ y r (Ext.refl φ) st hv)) hd'
 ·rename_i hx;refine At.ite (fun _=>At.fail) fun hcd=>?_;exact cellM_At fun n hn=>fin (by unfold Env.kindOf;rw [e.scope];exact hx) (.inl rfl) hn hcd
 ·rename_i hx;refine At.ite (fun _=>At.fail) fun hcd=>?_;exact cellM_At fun n hn=>fin (by unfold Env.kindOf;rw [e.scope];exact hx) (.inr rfl) hn hcd
 ·rename_i hx;have hx':Λ.env.kindOf x=some .globalImplicit:=by unfold Env.kindOf;rw [e.scope];exact hx
  refine At.opt' fun u hu=>At.pure st fun Q E k=>?_;obtain ⟨p,loose,mean,mg,mb,T⟩:=W.T;unfold gd_ at hu;split at hu
  ·rename_i v hv;exact Name_function_global hk hx' (loadGlobal_global (by rw [e.glob];exact T.g.keeps st.base) (mg_of W.X T.g hv) (k v _ (valOf_R hu φ))) hd'
  ·rename_i hv;split at hu
   ·cases hu
   ·rename_i hn;obtain ⟨v,hb,hv'⟩:=Option.bind_eq_some_iff.mp hu;exact Name_function_global hk hx' (loadGlobal_builtin (by rw [e.glob];exact T.g.keeps st.base) (mg_none_of W.X T.g hv) (by rw [e.blt];exact T.b.keeps st.base) ((T.builtins x hn).trans hb) (k v _ (valOf_R hv' φ))) hd'
  ·cases hu
 ·exact At.fail
end
end
section
open PySem.SeqAt
theorem sb_:(100000:Nat)<=sizeLine:=by decide+kernel
section
variable {φ:List Addr} {A:Around} {s:Shared}
theorem flat_eqAt{a b:V}{x y:Value}{k:Bool}(h:fe_ a b=some k)(ha:VR φ a x)(hb:VR φ b y):EqAt A s x y k:=by
 unfold fe_ at h;split at h <;> cases h
 ·obtain ⟨t,rfl⟩:=ha;obtain ⟨u,rfl⟩:=hb;exact EqAt.int_int _ t _ u
 ·obtain ⟨t,rfl⟩:=ha;obtain ⟨u,rfl⟩:=hb;exact EqAt.str_str _ t _ u
 ·cases ha;cases hb;exact EqAt.same _
 ·cases ha;obtain ⟨u,rfl⟩:=hb;exact EqAt.none_int _ u
 ·cases hb;obtain ⟨u,rfl⟩:=ha;exact EqAt.int_none _ u
theorem flat_rcAt{a b:V}{x y:Value}{k:Bool}(h:fe_ a b=some k)(ha:VR φ a x)(hb:VR φ b y):RcAt A s x y k:=by
 unfold fe_ at h;split at h <;> cases h
 ·obtain ⟨t,rfl⟩:=ha;obtain ⟨u,rfl⟩:=hb;exact RcAt.int_int _ t _ u
 ·obtain ⟨t,rfl⟩:=ha;obtain ⟨u,rfl⟩:=hb;exact RcAt.str_str _ t _ u
 ·cases ha;cases hb;exact RcAt.none_none
 ·cases ha;obtain ⟨u,rfl⟩:=hb;exact RcAt.none_int _ u
 ·cases hb;obtain ⟨u,rfl⟩:=ha;exact RcAt.int_none _ u
theorem flat_rcneAt{a b:V}{x y:Value}{k:Bool}(h:fe_ a b=some k)(ha:VR φ a x)(hb:VR φ b y):RcNeAt A s x y (!k):=by
 unfold fe_ at h;split at h <;> cases h
 ·obtain ⟨t,rfl⟩:=ha;obtain ⟨u,rfl⟩:=hb;exact RcNeAt.int_int _ t _ u
 ·obtain ⟨t,rfl⟩:=ha;obtain ⟨u,rfl⟩:=hb;exact RcNeAt.str_str _ t _ u
 ·cases ha;cases hb;exact RcNeAt.none_none
 ·cases ha;obtain ⟨u,rfl⟩:=hb;exact RcNeAt.none_int _ u
 ·cases hb;obtain ⟨u,rfl⟩:=ha;exact RcNeAt.int_none _ u
theorem flats_at(A:Around)(s:Shared):∀ {us vs:List V} {xs ys:List Value} {k:Bool},fa_ us vs=some k->VsR φ us xs->VsR φ vs ys->
  ∃ e:Nat->Bool,(∀ j (h1:j < xs.length) (h2:j < ys.length),EqAt A s xs[j] ys[j] (e j))/\k=((List.range (min xs.length ys.length)).all e && decide (xs.length=ys.length))
 | [],[],[],[],k,h,_,_=>⟨fun _=>true,fun _ h1=>absurd h1 (Nat.not_lt_zero _),by cases h;rfl⟩
 | [],_::_,[],_::_,k,h,_,_=>⟨fun _=>true,fun _ h1=>absurd h1 (Nat.not_lt_zero _),by cases h;simp⟩
 | _::_,[],_::_,[],k,h,_,_=>⟨fun _=>true,fun _ _ h2=>absurd h2 (Nat.not_lt_zero _),by cases h;simp⟩
 | u::us,v::vs,x::xs,y::ys,k,h,⟨hu,hus⟩,⟨hv,hvs⟩=>by
  unfold fa_ at h;split at h
  ·rename_i a b ha hb;cases h;obtain ⟨e,he,hk⟩:=flats_at A s hb hus hvs;refine ⟨fun j=>match j with | 0=>a | j+1=>e j,fun j h1 h2=>?_,?_⟩
   ·cases j with
    | zero=>exact flat_eqAt ha hu hv
    | succ j=>exact he j (by simpa using h1) (by simpa using h2)
   ·have:min (x::xs).length (y::ys).length=min xs.length ys.length+1:=by simp [Nat.succ_min_succ]
    rw [this,List.range_succ_eq_map,List.all_cons,List.all_map,hk];simp [Function.comp_def,Bool.and_assoc]
  ·cases h
 | [],[],_::_,_,_,_,h,_=>h.elim
 | [],[],[],_::_,_,_,_,h=>h.elim
 | [],_::_,_::_,_,_,_,h,_=>h.elim
 | [],_::_,[],[],_,_,_,h=>h.elim
 | _::_,[],[],_,_,_,h,_=>h.elim
 | _::_,[],_::_,_::_,_,_,_,h=>h.elim
 | _::_,_::_,[],_,_,_,h,_=>h.elim
 | _::_,_::_,_::_,[],_,_,_,h=>h.elim
end
section
variable {Λ:Lev} {φ φ₀:List Addr}
theorem bin_S(op:Operator){a b:V}{x y:Value}(ha:VR φ₀ a x)(hb:VR φ₀ b y):Sim Λ φ₀ VR (binM op a b) (binaryOp op x y):=by
 unfold binM;split
 ·obtain ⟨t,rfl⟩:=ha;obtain ⟨u,rfl⟩:=hb;exact Sim.pureT fun r Q E k=>wpAny_add_int (k _ _ fun _ _=>⟨_,rfl⟩)
 ·obtain ⟨t,rfl⟩:=ha;obtain ⟨u,rfl⟩:=hb;exact Sim.pureT fun r Q E k=>PyProof.Rows.sub_int (k _ _ fun _ _=>⟨_,rfl⟩)
 ·obtain ⟨t,rfl⟩:=ha;obtain ⟨u,rfl⟩:=hb;refine Sim.ite (fun h=>?_) fun _=>Sim.fail;exact Sim.pureT fun r Q E k=>PyProof.Rows.mul_int (k _ _ fun _ _=>⟨_,rfl⟩) (.of_left (intBits_le_64 (by omega) (by omega)))
 ·obtain ⟨t,rfl⟩:=ha;obtain ⟨u,rfl⟩:=hb;refine Sim.ite (fun h=>?_) fun _=>Sim.fail;refine Sim.pureT fun r Q E k=>PyProof.Rows.floordiv_int (by omega) ?_ (Or.inl (PyProof.noPylong_small (by omega)));rw [Int.fdiv_eq_ediv_of_nonneg _ (by omega)];exact k _ _ fun _ _=>⟨_,rfl⟩
 ·obtain ⟨t,rfl⟩:=ha;obtain ⟨u,rfl⟩:=hb;refine Sim.ite (fun h=>?_) fun _=>Sim.fail;refine Sim.pureT fun r Q E k=>PyProof.Rows.mod_int' (by omega) ?_;rw [Int.fmod_eq_emod_of_nonneg _ (by omega)];exact k _ _ fun _ _=>⟨_,rfl⟩
 ·obtain ⟨t,rfl⟩:=ha;obtain ⟨u,rfl⟩:=hb;refine Sim.ite (fun h=>?_) fun _=>Sim.fail;obtain ⟨h0,h1,h2⟩:=h;exact Sim.pureT fun r Q E k=>PyProof.Rows.pow_int_small h1 (by omega) (by omega) (k _ _ fun _ _=>⟨_,rfl⟩)
 ·obtain ⟨t,rfl⟩:=ha;obtain ⟨u,rfl⟩:=hb;refine Sim.ite (fun h=>?_) fun _=>Sim.fail;exact Sim.pureT fun r Q E k=>PyProof.Rows.lshift_int_small h.2.1 (by omega) h.1 (k _ _ fun _ _=>⟨_,rfl⟩)
 ·obtain ⟨t,rfl⟩:=ha;obtain ⟨u,rfl⟩:=hb;refine Sim.ite (fun h=>?_) fun _=>Sim.fail;exact Sim.pureT fun r Q E k=>PyProof.Rows.rshift_int h.1 (k _ _ fun _ _=>⟨_,rfl⟩)
 ·obtain ⟨t,rfl⟩:=ha;obtain ⟨u,rfl⟩:=hb;exact Sim.pureT fun r Q E k=>PyProof.Rows.and_int (k _ _ fun _ _=>⟨_,rfl⟩)
 ·obtain ⟨t,rfl⟩:=ha;obtain ⟨u,rfl⟩:=hb;refine Sim.ite (fun h=>?_) fun _=>Sim.fail;exact Sim.pureT fun r Q E k=>PyProof.Rows.add_str (fun t' tk=>k _ _ fun _ _=>⟨_,rfl⟩) (Nat.le_trans h sb_)
 ·refine Sim.of_at fun φ s r ex st=>?_;obtain ⟨ax,eax,rfl⟩:=ha.mono ex;obtain ⟨ay,eay,rfl⟩:=hb.mono ex;refine At.geto fun o1 h1=>At.geto fun o2 h2=>?_;split
  ·rename_i u v;refine At.need fun hn=>?_;obtain ⟨ob1,g1,⟨c1,z1⟩,xs,n1,d1,r1⟩:=st.at h1 (by simp) eax;obtain ⟨ob2,g2,⟨c2,z2⟩,ys,n2,d2,r2⟩:=st.at h2 (by simp) eay;obtain ⟨cls1,dd1,dt1,sl1⟩:=ob1;obtain ⟨cls2,dd2,dt2,sl2⟩:=ob2;simp only at c1 d1 c2 d2;subst c1 d1 c2 d2;have hsz:xs.toArray.size+ys.toArray.size<=sizeLine:=by
    have:=of_decide_eq_true hn;rw [List.size_toArray,List.size_toArray,<-r1.length,<-r2.length];exact Nat.le_trans this sb_
   refine At.done (a:= .ref s.h.length) (s':={s with h:=s.h++ [.list (u++v)]}) rfl fun Q E k=>?_;refine concat_meets ⟨_,g1,rfl⟩ ⟨_,g2,rfl⟩ noFill_list_add seq_list_add PySem.F.slot_list_add PySem.F.entry_list_add (PySem.F.args_list_add_2 _ _) (list_addW ax ay xs.toArray ys.toArray n1 n2 dd1 dd2 sl1 sl2 hsz) ⟨g1,g2,?_⟩;refine k (φ++ [r.heap.objs.size]) _ _ (Ext.one _ _) (st.alloc (fun b o e=>Heap.get?_push_of_some _ e) Heap.fresh_none (Heap.get?_push_size _ rfl) ⟨⟨rfl,rfl,rfl⟩,xs++ys,0,by simp,(r1.mono (Ext.one _ _)).append (r2.mono (Ext.one _ _))⟩ (Nat.ne_of_gt st.big)) ⟨_,by rw [<-st.len];simp,rfl⟩
  ·exact At.fail
 ·exact Sim.fail
end
end
section
structure Enc(prog:Program)(w:World)(T:Type) [DecidableEq T] where
 knd:KeyKind prog w T
 enc:T->V
 inj:∀ a b,enc a=enc b->a=b
 to:∀ k x h,KeyR w (enc k) x h->knd.is k x=true/\h=knd.hash k
 ok:∀ k,kd_ (enc k)=true
 like:∀ k v,sameKind (enc k) v=true->∃ j,v=enc j
 of:∀ k x,knd.is k x=true->KeyR w (enc k) x (knd.hash k)
 val:∀ φ k x,VR φ (enc k) x->knd.is k x=true
 back:∀ φ k x,knd.is k x=true->VR φ (enc k) x
 dec:V->Option T
 dec_enc:∀ k,dec (enc k)=some k
def encI(prog:Program)(w:World):Enc prog w Int where
 knd:=intKind prog w
 enc:=V.int
 inj:=fun _ _ h=>by cases h;rfl
 to:=fun k x h ⟨⟨t,e⟩,e'⟩=>⟨by rw [e];exact intKind_is prog w k t,e'⟩
 ok:=fun _=>rfl
 like:=fun k v h=>by cases v <;> first | exact ⟨_,rfl⟩ | cases h
 of:=fun k x h=>⟨Value.isInt_shape h,rfl⟩
 val:=fun φ k x ⟨t,e⟩=>by rw [e];exact intKind_is prog w k t
 back:=fun φ k x h=>Value.isInt_shape h
 dec:=fun v=>match v with | .int i=>some i | _=>none
 dec_enc:=fun _=>rfl
def encS(prog:Program)(w:World):Enc prog w Str where
 knd:=strKind prog w
 enc:=V.str
 inj:=fun _ _ h=>by cases h;rfl
 to:=fun k x h ⟨⟨t,e⟩,e'⟩=>⟨by rw [e];exact strKind_is prog w k t,e'⟩
 ok:=fun _=>rfl
 like:=fun k v h=>by cases v <;> first | exact ⟨_,rfl⟩ | cases h
 of:=fun k x h=>⟨Value.isStrOf_shape h,rfl⟩
 val:=fun φ k x ⟨t,e⟩=>by rw [e];exact strKind_is prog w k t
 back:=fun φ k x h=>Value.isStrOf_shape h
 dec:=fun v=>match v with | .str i=>some i | _=>none
 dec_enc:=fun _=>rfl
section
variable {prog:Program} {w:World} {T:Type} [DecidableEq T] (c:Enc prog w T) {φ:List Addr}
theorem kc_{k:V}{e:V×V}{es:List (V×V)}:k_ k (e::es)=(sameKind k e.1 && k_ k es):=rfl
theorem es_keys{j:T}:∀ {es:List (V×V)} {xs:List DictEntry},k_ (c.enc j) es=true->EsR w φ es xs->∀ e∈xs,∃ k,c.knd.is k e.key=true/\e.hash=c.knd.hash k
 | [],[],_,_=>fun _ h=>nomatch h
 | (k,v)::es,x::xs,hl,⟨hk,_,hr⟩=>by
  rw [kc_,Bool.and_eq_true] at hl;obtain ⟨i,hi⟩:=c.like j k hl.1;subst hi;intro e he;rcases List.mem_cons.mp he with rfl | he
  ·exact ⟨i,c.to i _ _ hk⟩
  ·exact es_keys hl.2 hr e he
 | [],_::_,_,h=>h.elim
 | (_,_)::_,[],_,h=>h.elim
theorem ek_{j:T}{es:List (V×V)}{xs:List DictEntry}(hl:k_ (c.enc j) es=true)(h:EsR w φ es xs):KeysOf c.knd xs.toArray:=fun e he=>es_keys c hl h e (by simpa using he)
theorem is_iff{a b:T}{x:Value}{h:Int}(hk:KeyR w (c.enc a) x h):c.knd.is b x=decide (c.enc a=c.enc b):=by
 have h1:=(c.to a x h hk).1;by_cases e:a=b
 ·subst e;rw [h1];simp
 ·have:c.knd.is b x=false:=by
   cases q:c.knd.is b x with
   | false=>rfl
   | true=>exact absurd (c.knd.inj x a b h1 q) e
  rw [this];exact (decide_eq_false fun z=>e (c.inj a b z)).symm
theorem es_find{j:T}:∀ {es:List (V×V)} {xs:List DictEntry},k_ (c.enc j) es=true->EsR w φ es xs->∀ i:T,OptR φ (f_ (c.enc i) es) ((xs.find? fun e=>c.knd.is i e.key).map (·.val))
 | [],[],_,_,_=>trivial
 | (k,v)::es,x::xs,hl,⟨hk,hv,hr⟩,i=>by
  rw [kc_,Bool.and_eq_true] at hl;obtain ⟨a,ha⟩:=c.like j k hl.1;subst ha;unfold f_;rw [List.find?_cons,is_iff c hk];by_cases e:c.enc a=c.enc i
  ·rw [if_pos e,decide_eq_true e];exact hv
  ·rw [if_neg e,decide_eq_false e];exact es_find hl.2 hr i
 | [],_::_,_,h,_=>h.elim
 | (_,_)::_,[],_,h,_=>h.elim
theorem es_findBy{j:T}{es:List (V×V)}{xs:List DictEntry}(hl:k_ (c.enc j) es=true)(h:EsR w φ es xs)(i:T):OptR φ (f_ (c.enc i) es) (findBy c.knd.is xs.toArray i):=by
 have:=es_find c hl h i;unfold findBy;simpa using this
def putX(p:DictEntry->Bool)(v:Value)(e₀:DictEntry):List DictEntry->List DictEntry
 | []=> [e₀]
 | e::r=>if p e then {e with val:=v}::r else e::putX p v e₀ r
theorem putX_some{p:DictEntry->Bool}{v:Value}{e₀:DictEntry}:∀ {xs:List DictEntry} {i:Nat},xs.findIdx? p=some i->xs.modify i (fun e=>{e with val:=v})=putX p v e₀ xs
 | [],_,h=>by simp at h
 | e::r,i,h=>by
  rw [List.findIdx?_cons] at h;unfold putX;split at h
  ·rename_i q;cases h;rw [if_pos q];rfl
  ·rename_i q;rw [if_neg q];cases hr:r.findIdx? p with
   | none=>rw [hr] at h;cases h
   | some k=>rw [hr] at h;cases h;rw [List.modify_succ_cons,putX_some hr]
theorem putX_none{p:DictEntry->Bool}{v:Value}{e₀:DictEntry}:∀ {xs:List DictEntry},xs.findIdx? p=none->xs++ [e₀]=putX p v e₀ xs
 | [],_=>rfl
 | e::r,h=>by
  rw [List.findIdx?_cons] at h;unfold putX;split at h
  ·cases h
  ·rename_i q;rw [if_neg q];cases hr:r.findIdx? p with
   | none=>rw [List.cons_append,putX_none hr]
   | some k=>rw [hr] at h;cases h
def dropX(p:DictEntry->Bool):List DictEntry->List DictEntry
 | []=> []
 | e::r=>if p e then r else e::dropX p r
theorem dropX_some{p:DictEntry->Bool}:∀ {xs:List DictEntry} {i:Nat},xs.findIdx? p=some i->xs.eraseIdx i=dropX p xs
 | [],_,h=>by simp at h
 | e::r,i,h=>by
  rw [List.findIdx?_cons] at h;unfold dropX;split at h
  ·rename_i q;cases h;rw [if_pos q];rfl
  ·rename_i q;rw [if_neg q];cases hr:r.findIdx? p with
   | none=>rw [hr] at h;cases h
   | some k=>rw [hr] at h;cases h;rw [List.eraseIdx_cons_succ,dropX_some hr]
theorem es_put{j k:T}{key u:Value}{v:V}(hkey:KeyR w (c.enc k) key (c.knd.hash k))(hv:VR φ v u):∀ {es:List (V×V)} {xs:List DictEntry},k_ (c.enc j) es=true->EsR w φ es xs->EsR w φ (putK (c.enc k) v es) (putX (fun e=>c.knd.is k e.key) u ⟨c.knd.hash k,key,u⟩ xs)
 | [],[],_,_=>⟨hkey,hv,trivial⟩
 | (a,b)::es,x::xs,hl,⟨hk,hb,hr⟩=>by
  rw [kc_,Bool.and_eq_true] at hl;obtain ⟨i,hi⟩:=c.like j a hl.1;subst hi;unfold putK putX;rw [is_iff c hk];by_cases e:c.enc i=c.enc k
  ·rw [if_pos e,if_pos (by simpa using e)];exact ⟨hk,hv,hr⟩
  ·rw [if_neg e,if_neg (by simpa using e)];exact ⟨hk,hb,es_put hkey hv hl.2 hr⟩
 | [],_::_,_,h=>h.elim
 | (_,_)::_,[],_,h=>h.elim
theorem es_drop{j k:T}:∀ {es:List (V×V)} {xs:List DictEntry},k_ (c.enc j) es=true->EsR w φ es xs->EsR w φ (da_ (c.enc k) es) (dropX (fun e=>c.knd.is k e.key) xs)
 | [],[],_,_=>trivial
 | (a,b)::es,x::xs,hl,⟨hk,hb,hr⟩=>by
  rw [kc_,Bool.and_eq_true] at hl;obtain ⟨i,hi⟩:=c.like j a hl.1;subst hi;unfold da_ dropX;rw [is_iff c hk];by_cases e:c.enc i=c.enc k
  ·rw [if_pos e,if_pos (by simpa using e)];exact hr
  ·rw [if_neg e,if_neg (by simpa using e)];exact ⟨hk,hb,es_drop hl.2 hr⟩
 | [],_::_,_,h=>h.elim
 | (_,_)::_,[],_,h=>h.elim
theorem putK_keys(k v:V):∀ es:List (V×V),(putK k v es).map (·.1)=if k∈es.map (·.1) then es.map (·.1) else es.map (·.1)++ [k]
 | []=>rfl
 | (a,b)::es=>by
  unfold putK;by_cases e:a=k
  ·subst e;simp
  ·rw [if_neg e];have ih:=putK_keys k v es;simp only [List.map_cons,ih,List.mem_cons,Ne.symm e,false_or];split <;> simp
theorem putK_nodup{k v:V}{es:List (V×V)}(h:(es.map (·.1)).Nodup):((putK k v es).map (·.1)).Nodup:=by
 rw [putK_keys];split
 ·exact h
 ·rename_i q;rw [List.nodup_append];refine ⟨h,by simp,fun a ha b hb e=>?_⟩;have:b=k:=by simpa using hb
  subst this e;exact q ha
theorem dropK_sub(k:V):∀ es:List (V×V),(da_ k es).Sublist es
 | []=> .slnil
 | (a,b)::es=>by
  unfold da_;split
  ·exact List.sublist_cons_self _ _
  ·exact (dropK_sub k es).cons_cons _
theorem dropK_nodup{k:V}{es:List (V×V)}(h:(es.map (·.1)).Nodup):((da_ k es).map (·.1)).Nodup:=((dropK_sub k es).map _).nodup h
theorem kind_of{k:V}(h:kd_ k=true):(∃ i,k= .int i)\/∃ s,k= .str s:=by
 cases k <;> first | exact .inl ⟨_,rfl⟩ | exact .inr ⟨_,rfl⟩ | cases h
end
section
variable {prog:Program} {w:World} {A:Around} {E:Value->Shared->Prop} {s:Shared} {T:Type} [DecidableEq T] {knd:KeyKind prog w T}
theorem dictSetHashed_exact{d:Addr}{o:Obj}{xs:List DictEntry}{ep:Nat}{k:T}{key v:Value}{Q:Unit->Shared->Prop}(hkey:knd.is k key=true)(ho:s.heap.get? d=some o)(hc:o.ExactDict)(hd:o.data= .dict xs.toArray ep)
  (hk:KeysOf knd xs.toArray) (hQ:∀ h' o',h'.get? d=some o'->o'.ExactDict->o'.data= .dict (putX (fun e=>knd.is k e.key) v ⟨knd.hash k,key,v⟩ xs).toArray (if (xs.find? fun e=>knd.is k e.key).isSome then ep else ep+1)->Heap.SameBut d s.heap h'->Q () {s with heap:=h'})
  (hz:xs.toArray.size<=sizeLine):wpAny (model prog w) A (dictSetHashed d key (knd.hash k) v) Q E s:=by
 unfold dictSetHashed;try with_reducible refine wpAny_holding ?_
 refine wpAny_bind (wpAny_dictFind_of hkey ho hd hk ?_);have hfi:(xs.toArray.findIdx? fun e=>knd.is k e.key)=xs.findIdx? fun e=>knd.is k e.key:=by simp
 rw [hfi];cases hi:xs.findIdx? fun e=>knd.is k e.key with
 | some i=>
  have hs:(xs.find? fun e=>knd.is k e.key).isSome=true:=by
   rw [List.find?_isSome];obtain ⟨hl,hp,_⟩:=List.findIdx?_eq_some_iff_getElem.mp hi;exact ⟨xs[i],List.getElem_mem hl,hp⟩
  refine wpAny_bind (wpAny_rule (wpAny_bind (wpAny_updateDict ho hd (wpAny_point (hQ _ _ (Heap.get?_update_self _ ho (Obj.isFreed_of_dict (Obj.data_mapDict hd _))) (hc.mapDict _) ?_ (Heap.SameBut.update ..))))));rw [Obj.data_mapDict hd _,if_pos hs,<-putX_some hi];simp
 | none=>
  have hs:(xs.find? fun e=>knd.is k e.key).isSome=false:=by
   rw [Bool.eq_false_iff];intro z;rw [List.find?_isSome] at z;obtain ⟨e,he,hp⟩:=z;have:=List.findIdx?_eq_none_iff.mp hi e he;rw [this] at hp;cases hp
  refine wpAny_bind (wpAny_rule (wpAny_updateDictKeys (hz:=hz) ho hd (hQ _ _ (Heap.get?_update_self _ ho (Obj.isFreed_of_dict (Obj.data_mapDictKeys hd _))) (hc.mapDictKeys _) ?_ (Heap.SameBut.update ..))));rw [Obj.data_mapDictKeys hd _,hs,<-putX_none (v:=v) hi];simp
theorem dictSet_exact{d:Addr}{o:Obj}{xs:List DictEntry}{ep:Nat}{k:T}{key v:Value}{Q:Unit->Shared->Prop}(hkey:knd.is k key=true)(ho:s.heap.get? d=some o)(hc:o.ExactDict)(hd:o.data= .dict xs.toArray ep)
  (hk:KeysOf knd xs.toArray) (hQ:∀ h' o' tk,h'.get? d=some o'->o'.ExactDict->o'.data= .dict (putX (fun e=>knd.is k e.key) v ⟨knd.hash k,key,v⟩ xs).toArray (if (xs.find? fun e=>knd.is k e.key).isSome then ep else ep+1)->Heap.SameBut d s.heap h'->Q () {s with heap:=h',toks:=tk})
  (hz:xs.toArray.size<=sizeLine):wpAny (model prog w) A (dictSet d key v) Q E s:=by
 unfold dictSet;try with_reducible refine wpAny_holding ?_
 refine wpAny_bind (knd.pyHash hkey ?_);exact dictSetHashed_exact (s:={s with toks:=s.toks+1}) hkey ho hc hd hk (fun h' o'=>hQ h' o' _) hz
theorem setItem_exact{d:Addr}{o:Obj}{xs:List DictEntry}{ep:Nat}{k:T}{key v:Value}{Q:Unit->Shared->Prop}(hkey:knd.is k key=true)(ho:s.heap.get? d=some o)(hc:o.ExactDict)(hd:o.data= .dict xs.toArray ep)
  (hk:KeysOf knd xs.toArray) (hQ:∀ h' o' tk,h'.get? d=some o'->o'.ExactDict->o'.data= .dict (putX (fun e=>knd.is k e.key) v ⟨knd.hash k,key,v⟩ xs).toArray (if (xs.find? fun e=>knd.is k e.key).isSome then ep else ep+1)->Heap.SameBut d s.heap h'->Q () {s with heap:=h',toks:=tk})
  (hz:xs.toArray.size<=sizeLine):wpAny (model prog w) A (setItem (.ref d) key v) Q E s:=by
 have ht:s.TypeIs (.ref d) "dict":=⟨o,ho,hc.1⟩;unfold setItem;try with_reducible refine wpAny_holding ?_
 refine wpAny_bind (wpAny_sequenceKey ht (by decide) ?_);refine wpAny_bind (wpAny_callSpecial?_slot (name:=Str.ofString "__setitem__") ht slot_dict_setitem
  (wpAny_call_entry slot_dict_setitem ht entry_dict_setitem ?_ (args_dict_setitem _ _ _)))
 show wpAny _ _ (Builtin.Dict.notOrdered "__setitem__" ⟨[.ref d,key,v],[]⟩ >>=_) _ _ s;refine wpAny_bind (wpAny_notOrdered_dict ht ?_);show wpAny _ _ (dictSet d key v >>=_) _ _ s;exact wpAny_bind (dictSet_exact hkey ho hc hd hk (fun h' o' tk h1 h2 h3 hs'=>wpAny_pure ⟨.none,rfl,wpAny_pure (hQ h' o' tk h1 h2 h3 hs')⟩) hz)
end
end
section
section
variable {prog:Program} {w:World} {A:Around} {E:Value->Shared->Prop} {s:Shared} {T:Type} [DecidableEq T] {knd:KeyKind prog w T}
theorem takeOut_exact{d:Addr}{o:Obj}{xs:List DictEntry}{ep:Nat}{k:T}{key v:Value}{Q:Option DictEntry->Shared->Prop}(hkey:knd.is k key=true)(ho:s.heap.get? d=some o)(hc:o.ExactDict)(hd:o.data= .dict xs.toArray ep)
  (hk:KeysOf knd xs.toArray) (hf:findBy knd.is xs.toArray k=some v) (hQ:∀ e h' o',e.val=v->h'.get? d=some o'->o'.ExactDict->o'.data= .dict (dropX (fun e=>knd.is k e.key) xs).toArray (ep+1)->Heap.SameBut d s.heap h'->Q (some e) {s with heap:=h',toks:=s.toks+1})
  (hz:xs.toArray.size<=sizeLine):wpAny (model prog w) A (Builtin.Dict.takeOut d key) Q E s:=by
 unfold Builtin.Dict.takeOut;try with_reducible refine wpAny_holding ?_
 refine wpAny_bind (knd.pyHash hkey ?_);refine wpAny_bind (wpAny_dictFind_of (s:={s with toks:=s.toks+1}) hkey ho hd hk ?_);have hfi:(xs.toArray.findIdx? fun e=>knd.is k e.key)=xs.findIdx? fun e=>knd.is k e.key:=by simp
 rw [hfi];unfold findBy at hf;have hf':(xs.find? fun e=>knd.is k e.key).map (·.val)=some v:=by simpa using hf
 cases hi:xs.findIdx? fun e=>knd.is k e.key with
 | none=>
  have:(xs.find? fun e=>knd.is k e.key)=none:=by
   rw [List.find?_eq_none];intro e he;have:=List.findIdx?_eq_none_iff.mp hi e he;simpa using this
  rw [this] at hf';cases hf'
 | some i=>
  obtain ⟨hl,hp,hlt⟩:=List.findIdx?_eq_some_iff_getElem.mp hi;have hfe:xs.find? (fun e=>knd.is k e.key)=some xs[i]:=by
   rw [List.find?_eq_some_iff_getElem];exact ⟨hp,i,hl,rfl,fun j hj=>by simpa using hlt j hj⟩
  rw [hfe] at hf';have hv:xs[i].val=v:=by simpa using hf'
  refine wpAny_bind (wpAny_dictEntries (s:={s with toks:=s.toks+1}) ho hd ?_);have he':xs.toArray[i]? =some xs[i]:=by simp [hl]
  rw [he'];refine wpAny_bind (wpAny_updateDictKeys (hz:=hz) (s:={s with toks:=s.toks+1}) ho hd (wpAny_pure (hQ xs[i] _ _ hv (Heap.get?_update_self _ ho (Obj.isFreed_of_dict (Obj.data_mapDictKeys hd _)))
   (hc.mapDictKeys _) ?_ (Heap.SameBut.update ..))))
  rw [Obj.data_mapDictKeys hd _,<-dropX_some hi];simp
theorem meets_pop_exact{d:Addr}{k:T}{key:Value}(hkey:knd.is k key=true)(hpart:(keyPart key).isSome=true):
  MeetsIn prog w (Builtin.«dict.pop» ⟨[.ref d,key],[]⟩) (fun _ R s=>∃ o xs ep v,s.heap.get? d=some o/\o.ExactDict/\o.data= .dict (List.toArray xs) ep/\KeysOf knd xs.toArray/\findBy knd.is xs.toArray k=some v/\xs.toArray.size<=sizeLine/\
   ∀ h' o' tk,h'.get? d=some o'->o'.ExactDict->o'.data= .dict (dropX (fun e=>knd.is k e.key) xs).toArray (ep+1)->Heap.SameBut d s.heap h'->R (.ok (.ret v)) {s with heap:=h',toks:=tk}):=
 .of_wp fun A R s ⟨o,xs,ep,v,ho,hc,hd,hk,hf,hz,h⟩=>by
  unfold Builtin.«dict.pop»;refine wpAny_bind ?_;unfold Builtin.Dict.keyAndDefault;refine wpAny_bind (wpAny_notOrdered_dict ⟨o,ho,hc.1⟩ ?_);show wpAny _ _ (pure (d,key,none)) _ _ s;refine wpAny_pure ?_;simp only [hpart,if_true];refine wpAny_bind (wpAny_pure ?_);simp only [Bool.false_eq_true,if_false];refine wpAny_bind (takeOut_exact hkey ho hc hd hk hf (fun e h' o' he h1 h2 h3 h4=>?_) hz);simp only [Option.isNone_some,Bool.false_eq_true,if_false];exact wpAny_bind (wpAny_letGo (wpAny_pure ⟨e.val,rfl,by rw [he];exact h h' o' _ h1 h2 h3 h4⟩))
theorem meets_del_exact{d:Addr}{k:T}{key:Value}(hkey:knd.is k key=true):
  MeetsIn prog w (Builtin.«dict.__delitem__» ⟨[.ref d,key],[]⟩) (fun _ R s=>∃ o xs ep v,s.heap.get? d=some o/\o.ExactDict/\o.data= .dict (List.toArray xs) ep/\KeysOf knd xs.toArray/\findBy knd.is xs.toArray k=some v/\xs.toArray.size<=sizeLine/\
   ∀ h' o' tk,h'.get? d=some o'->o'.ExactDict->o'.data= .dict (dropX (fun e=>knd.is k e.key) xs).toArray (ep+1)->Heap.SameBut d s.heap h'->R (.ok (.ret .none)) {s with heap:=h',toks:=tk}):=
 .of_wp fun A R s ⟨o,xs,ep,v,ho,hc,hd,hk,hf,hz,h⟩=>by
  unfold Builtin.«dict.__delitem__»;refine wpAny_bind ?_;unfold Builtin.Dict.dictSlotArgs;refine wpAny_bind (wpAny_notOrdered_dict ⟨o,ho,hc.1⟩ ?_);show wpAny _ _ (pure (Value.ref d,key)) _ _ s;refine wpAny_pure ?_;show wpAny _ _ (Builtin.Dict.takeOut d key >>=_) _ _ s;refine wpAny_bind (takeOut_exact hkey ho hc hd hk hf (fun e h' o' he h1 h2 h3 h4=>?_) hz);exact wpAny_bind (wpAny_letGo (wpAny_pure ⟨.none,rfl,h h' o' _ h1 h2 h3 h4⟩))
end
end
section
open PySem.SeqAt
section
variable {Λ:Lev} {φ φ₀:List Addr} {s:S} {r:Shared}
theorem opt_res{α:Type}{o:Option α}{s s':S}{res:Res α}(h:opt o s=some (res,s')):∃ k,o=some k/\res= .ok k/\s'=s:=by
 cases o with
 | none=>cases h
 | some a=>cases h;exact ⟨a,rfl,rfl,rfl⟩
def BoolR(_:List Addr)(k:Bool)(v:Value):Prop:=v= .bool k
theorem eqM_at(hu:Λ.A.units < cLine)(st:StL Λ φ s r){a b:V}{x y:Value}(ha:VR φ a x)(hb:VR φ b y){res:Res Bool}{s':S}(h:eqM a b s=some (res,s')):
  s'=s/\∃ k,res= .ok k/\RcAt Λ.A r x y k/\RcNeAt Λ.A r x y (!k):=by
 have flat:∀ {o:Option Bool},opt o s=some (res,s')->(∀ k,o=some k->RcAt Λ.A r x y k/\RcNeAt Λ.A r x y (!k))->s'=s/\∃ k,res= .ok k/\RcAt Λ.A r x y k/\RcNeAt Λ.A r x y (!k):=by
  intro o h hk;unfold opt at h;cases o with
  | none=>cases h
  | some k=>cases h;exact ⟨rfl,k,rfl,hk k rfl⟩
 unfold eqM at h;split at h
 ·rename_i m n;obtain ⟨ax,eax,rfl⟩:=ha;obtain ⟨ay,eay,rfl⟩:=hb;cases e1:s.h[m]? with
  | none=>rw [bb_ (by unfold geto;rw [e1])] at h;cases h
  | some o1=>
   rw [bo_ (s₁:=s) (a:=o1) (by unfold geto;rw [e1])] at h;cases e2:s.h[n]? with
   | none=>rw [bb_ (by unfold geto;rw [e2])] at h;cases h
   | some o2=>
    rw [bo_ (s₁:=s) (a:=o2) (by unfold geto;rw [e2])] at h;split at h
    ·rename_i u v;obtain ⟨ob1,g1,⟨c1,z1⟩,xs,n1,d1,r1⟩:=st.at e1 (by simp) eax;obtain ⟨ob2,g2,⟨c2,z2⟩,ys,n2,d2,r2⟩:=st.at e2 (by simp) eay;have L1:r.heap.IsList ax xs.toArray:=⟨ob1,g1,c1,n1,d1⟩;have L2:r.heap.IsList ay ys.toArray:=⟨ob2,g2,c2,n2,d2⟩;split at h
     ·rename_i hne;cases h;have hs:(xs.toArray.size !=ys.toArray.size)=true:=by simpa [r1.length,r2.length] using hne
      exact ⟨rfl,_,rfl,RcAt.lists_lengths L1 L2 hs hu,RcNeAt.lists_lengths L1 L2 hs hu⟩
     ·rename_i he;have hsz:xs.toArray.size=ys.toArray.size:=by
       have:=Decidable.not_not.mp he;simpa [r1.length,r2.length] using this
      refine flat h fun k hk=>?_;obtain ⟨e,he,hk⟩:=flats_at Λ.A.in1 r hk r1 r2;have hk':k=(List.range xs.toArray.size).all e:=by
       rw [hk];have:xs.length=ys.length:=by simpa using hsz
       simp [this]
      subst hk';exact ⟨RcAt.lists L1 L2 hsz hu fun j h1 h2=>by simpa using he j (by simpa using h1) (by simpa using h2),RcNeAt.lists L1 L2 hsz hu fun j h1 h2=>by simpa using he j (by simpa using h1) (by simpa using h2)⟩
    ·rename_i u v;obtain ⟨ob1,g1,c1,xs,n1,d1,r1⟩:=st.at e1 (by simp) eax;obtain ⟨ob2,g2,c2,ys,n2,d2,r2⟩:=st.at e2 (by simp) eay;have L1:r.heap.IsTuple ax xs.toArray:=⟨ob1,g1,c1,n1,d1⟩;have L2:r.heap.IsTuple ay ys.toArray:=⟨ob2,g2,c2,n2,d2⟩;refine flat h fun k hk=>?_;obtain ⟨e,he,hk⟩:=flats_at Λ.A.in1 r hk r1 r2;have hk':k=((List.range (min xs.toArray.size ys.toArray.size)).all e && xs.toArray.size==ys.toArray.size):=by
      rw [hk];simp only [List.size_toArray];congr 1
     subst hk';exact ⟨RcAt.tuples L1 L2 hu fun j h1 h2=>by simpa using he j (by simpa using h1) (by simpa using h2),RcNeAt.tuples L1 L2 hu fun j h1 h2=>by simpa using he j (by simpa using h1) (by simpa using h2)⟩
    ·cases h
 ·exact flat h fun k hk=>⟨flat_rcAt hk ha hb,flat_rcneAt hk ha hb⟩
def InAt(Λ:Lev)(r:Shared)(x y:Value)(k:Bool):Prop:=
 ∀ (Q:Value->Shared->Prop) (E:Value->Shared->Prop),((∀ tk,Q (.bool k) {r with toks:=tk})->wpAny (model Λ.prog Λ.G.w) Λ.A (compareOp .In x y) Q E r)/\
  ((∀ tk,Q (.bool (!k)) {r with toks:=tk})->wpAny (model Λ.prog Λ.G.w) Λ.A (compareOp .NotIn x y) Q E r)
def eqv(a:V)(y:Value):Bool:=match a,y with
 | .int i,.int j _=>decide (j=i)
 | .str i,.str j _=>decide (j=i)
 | .none,.none=>true
 | _,_=>false
theorem eqv_flat{v a:V}{y:Value}{k:Bool}(h:fe_ v a=some k)(hv:VR φ v y):eqv a y=k:=by
 unfold fe_ at h;split at h <;> cases h
 ·obtain ⟨t,rfl⟩:=hv;rfl
 ·obtain ⟨t,rfl⟩:=hv;rfl
 ·cases hv;rfl
 ·cases hv;rfl
 ·obtain ⟨t,rfl⟩:=hv;rfl
theorem inL_at(A:Around)(r:Shared){a:V}{x:Value}(ha:VR φ a x):∀ {us:List V} {xs:List Value} {k:Bool},inL a us=some k->VsR φ us xs->(∀ y∈xs,EqAt A r y x (eqv a y))/\xs.any (eqv a)=k
 | [],[],k,h,_=>by cases h;exact ⟨(fun _ h=>nomatch h),rfl⟩
 | u::us,y::ys,k,h,⟨hu,hus⟩=>by
  unfold inL at h;split at h
  ·rename_i a' b' h1 h2;cases h;obtain ⟨p,q⟩:=inL_at A r ha h2 hus;refine ⟨fun z hz=>?_,?_⟩
   ·rcases List.mem_cons.mp hz with rfl | hz
    ·rw [eqv_flat h1 hu];exact flat_eqAt h1 hu ha
    ·exact p z hz
   ·rw [List.any_cons,q,eqv_flat h1 hu]
  ·cases h
 | [],_::_,_,_,h=>h.elim
 | _::_,[],_,_,h=>h.elim
theorem inM_at(st:StL Λ φ s r){a b:V}{x y:Value}(ha:VR φ a x)(hb:VR φ b y){res:Res Bool}{s':S}(h:inM a b s=some (res,s')):s'=s/\∃ k,res= .ok k/\InAt Λ r x y k:=by
 unfold inM at h;split at h
 ·split at h
  ·cases h;obtain ⟨t,rfl⟩:=ha;obtain ⟨u,rfl⟩:=hb;exact ⟨rfl,_,rfl,fun Q E=>⟨fun k=>PyProof.Rows.in_str (k r.toks),fun k=>PyProof.Rows.notIn_str (k r.toks)⟩⟩
  ·cases h
 ·rename_i β;obtain ⟨ay,eay,rfl⟩:=hb;cases e1:s.h[β]? with
  | none=>rw [bb_ (by unfold geto;rw [e1])] at h;cases h
  | some o1=>
   rw [bo_ (s₁:=s) (a:=o1) (by unfold geto;rw [e1])] at h;split at h
   ·rename_i u;obtain ⟨ob1,g1,⟨c1,z1⟩,xs,n1,d1,r1⟩:=st.at e1 (by simp) eay;have L1:r.heap.IsList ay xs.toArray:=⟨ob1,g1,c1,n1,d1⟩
    ·obtain ⟨k,hk,rfl,rfl⟩:=opt_res h;obtain ⟨p,q⟩:=inL_at Λ.A.in1 r ha hk r1;have q':xs.toArray.any (eqv a)=k:=by simpa using q
     exact ⟨rfl,_,rfl,fun Q E=>⟨fun z=>in_listAt (eqv a) L1 (fun y hy=>p y (by simpa using hy)) (by rw [q'];exact z r.toks),fun z=>notIn_listAt (eqv a) L1 (fun y hy=>p y (by simpa using hy)) (by rw [q'];exact z r.toks)⟩⟩
   ·rename_i u;obtain ⟨ob1,g1,c1,xs,n1,d1,r1⟩:=st.at e1 (by simp) eay;have L1:r.heap.IsTuple ay xs.toArray:=⟨ob1,g1,c1,n1,d1⟩
    ·obtain ⟨k,hk,rfl,rfl⟩:=opt_res h;obtain ⟨p,q⟩:=inL_at Λ.A.in1 r ha hk r1;have q':xs.toArray.any (eqv a)=k:=by simpa using q
     exact ⟨rfl,_,rfl,fun Q E=>⟨fun z=>in_tupleAt (eqv a) L1 (fun y hy=>p y (by simpa using hy)) (by rw [q'];exact z r.toks),fun z=>notIn_tupleAt (eqv a) L1 (fun y hy=>p y (by simpa using hy)) (by rw [q'];exact z r.toks)⟩⟩
   ·rename_i es ep;obtain ⟨ob1,g1,x1,⟨xs,d1,r1⟩,nd⟩:=st.at e1 (by simp) eay;cases hn:(kd_ a && k_ a es) with
    | false=>rw [bb_ (by unfold need;rw [hn])] at h;cases h
    | true=>
     rw [bo_ (s₁:=s) (a:=()) (by unfold need;rw [hn])] at h;rw [Bool.and_eq_true] at hn;cases h;have fin:∀ {T:Type} [DecidableEq T] (c:Enc Λ.prog Λ.G.w T) (k:T),a=c.enc k->InAt Λ r x (.ref ay) (f_ a es).isSome:=by
      intro T _ c k hk;subst hk;have hs:(f_ (c.enc k) es).isSome=(findBy c.knd.is xs.toArray k).isSome:=by
       have:=es_findBy c hn.2 r1 k;cases h1:f_ (c.enc k) es <;> cases h2:findBy c.knd.is xs.toArray k <;> rw [h1,h2] at this <;> first | rfl | exact this.elim
      have hm:r.heap.MapOf c.knd ay (fun k=>findBy c.knd.is xs.toArray k):=⟨ob1,xs.toArray,ep,g1,x1,d1,ek_ c hn.2 r1,fun _=>rfl⟩;rw [hs];exact fun Q E=>⟨fun z=>wpAny_in_of (c.val φ k x ha) (st.ne_mods eay) hm (z _),fun z=>wpAny_notIn_of (c.val φ k x ha) (st.ne_mods eay) hm (z _)⟩
     refine ⟨rfl,_,rfl,?_⟩;rcases kind_of hn.1 with ⟨i,rfl⟩ | ⟨t,rfl⟩
     ·exact fin (encI _ _) i rfl
     ·exact fin (encS _ _) t rfl
   ·cases h
 ·cases h
theorem At.still{β:Type}{R:List Addr->Bool->β->Prop}{m:M Bool}{t:Sem β}(st:StL Λ φ s r)(h:∀ res s',m s=some (res,s')->s'=s/\∃ k,res= .ok k/\∀ (Q:β->Shared->Prop) (E:Value->Shared->Prop),(∀ b tk,R φ k b->Q b {r with toks:=tk})->wpAny (model Λ.prog Λ.G.w) Λ.A t Q E r):At Λ φ s r R m t:=by
 refine ⟨fun Q E pe nn ok ex=>?_⟩;cases e:m s with
 | none=>exact absurd e nn
 | some p=>
  obtain ⟨res,s'⟩:=p;obtain ⟨rfl,k,rfl,hk⟩:=h res s' e;exact hk Q E fun b tk rr=>ok k _ e φ b _ (Ext.refl φ) st.toks rr
theorem bind_pure_some{α β:Type}{m:M α}{f:α->β}{s s':S}{res:Res β}(h:(m >>=fun a=>Pure.pure (f a)) s=some (res,s')):∃ r0,m s=some (r0,s')/\res=(match r0 with | .ok a=> .ok (f a) | .exc c=> .exc c):=by
 change M.bind m _ s=_ at h;unfold M.bind at h;split at h
 ·cases h
 ·rename_i a s₁ e;cases h;exact ⟨_,e,rfl⟩
 ·rename_i c s₁ e;cases h;exact ⟨_,e,rfl⟩
theorem cmp_S(op:CmpOp)(hu:Λ.A.units < cLine){a b:V}{x y:Value}(ha:VR φ₀ a x)(hb:VR φ₀ b y):Sim Λ φ₀ BoolR (cmpM op a b) (compareOp op x y):=by
 refine Sim.of_at fun φ s r ex st=>?_;have ha:=ha.mono ex;have hb:=hb.mono ex;unfold cmpM;split
 ·refine At.still st fun res s' h=>?_;obtain ⟨rfl,k,rfl,h1,_⟩:=eqM_at hu st ha hb h;exact ⟨rfl,k,rfl,fun Q E z=>h1 _ _ E Q (z _ r.toks rfl)⟩
 ·refine At.still st fun res s' h=>?_;obtain ⟨r0,h0,rfl⟩:=bind_pure_some h;obtain ⟨rfl,k,rfl,_,h1⟩:=eqM_at hu st ha hb h0;exact ⟨rfl,!k,rfl,fun Q E z=>h1 _ _ E Q (z _ r.toks rfl)⟩
 ·split
  ·obtain ⟨t,rfl⟩:=ha;obtain ⟨u,rfl⟩:=hb;exact At.pure st fun Q E k=>PyProof.Rows.lt_int (k _ r.toks rfl)
  ·exact At.fail
 ·split
  ·obtain ⟨t,rfl⟩:=ha;obtain ⟨u,rfl⟩:=hb;exact At.pure st fun Q E k=>PyProof.Rows.le_int (k _ r.toks rfl)
  ·exact At.fail
 ·refine At.still st fun res s' h=>?_;obtain ⟨rfl,k,rfl,h1⟩:=inM_at st ha hb h;exact ⟨rfl,k,rfl,fun Q E z=>(h1 Q E).1 fun tk=>z _ tk rfl⟩
 ·refine At.still st fun res s' h=>?_;obtain ⟨r0,h0,rfl⟩:=bind_pure_some h;obtain ⟨rfl,k,rfl,h1⟩:=inM_at st ha hb h0;exact ⟨rfl,!k,rfl,fun Q E z=>(h1 Q E).2 fun tk=>z _ tk rfl⟩
 ·split
  ·split
   ·cases ha;cases hb;exact At.pure st fun Q E k=>wpAny_is_plain rfl (k _ r.toks rfl)
   ·cases hb;obtain ⟨t,rfl⟩:=ha;exact At.pure st fun Q E k=>wpAny_is_plain rfl (k _ r.toks rfl)
   ·exact At.fail
  ·exact At.fail
 ·split
  ·split
   ·cases ha;cases hb;exact At.pure st fun Q E k=>wpAny_isNot_plain rfl (k _ r.toks rfl)
   ·cases hb;obtain ⟨t,rfl⟩:=ha;exact At.pure st fun Q E k=>wpAny_isNot_plain rfl (k _ r.toks rfl)
   ·exact At.fail
  ·exact At.fail
 ·exact At.fail
end
end
section
theorem tail_any{prog:Program}{w:World}{A:Around}{E:Value->Shared->Prop}{s:Shared}{value slice:Expr}{o i:Value}{Q:Value->Shared->Prop}{T id:String}(hT:s.TypeIs o T)(hl:typeLookup (.type T) "__getitem__"=pure (some (.builtin id)))
  (hg:wpAny (model prog w) A (getItem o i) Q E s):wpAny (model prog w) A (subscriptTail value slice o i) Q E s:=by
 unfold subscriptTail;have fin:wpAny (model prog w) A (subscripted slice false o i) (fun r s₃=>wpAny (model prog w) A (letTemporaryGo value o r >>=fun _=>pure r) Q E s₃) E s:=by
  have go:∀ ops,wpAny (model prog w) A (operate ops (getItem o i)) (fun r s₃=>wpAny (model prog w) A (letTemporaryGo value o r >>=fun _=>pure r) Q E s₃) E s:=fun ops=>
   wpAny_operating (wpAny_mono hg (fun r s₃ h₃=>wpAny_bind (wpAny_letTemporaryGo (wpAny_pure h₃))) fun _ _ x=>x)
  unfold subscripted;split
  ·exact go _
  ·rename_i h;cases h
  ·exact go _
 refine wpAny_bind ?_;rw [getitemInPython_of_ne hT.not_modules];refine wpAny_bind (wpAny_specialOf hT hl ?_);exact wpAny_pure (wpAny_bind fin)
theorem VsR.set{φ:List Addr}:∀ {vs:List V} {xs:List Value},VsR φ vs xs->∀ {v:V} {x:Value},VR φ v x->∀ i:Nat,VsR φ (vs.set i v) (xs.set i x)
 | [],[],_,_,_,_,_=>trivial
 | _::_,_::_,⟨_,b⟩,_,_,h,0=>⟨h,b⟩
 | _::_,_::_,⟨a,b⟩,_,_,h,i+1=>⟨a,VsR.set b h i⟩
 | [],_::_,h,_,_,_,_=>h.elim
 | _::_,[],h,_,_,_,_=>h.elim
section
variable {prog:Program} {w:World} {T:Type} [DecidableEq T] (c:Enc prog w T) {φ:List Addr}
theorem small_es{es:List (V×V)}{xs:List DictEntry}(h:EsR w φ es xs)(hz:decide (es.length<=900)=true):xs.toArray.size<=sizeLine:=by
 have:=of_decide_eq_true hz;rw [List.size_toArray,<-h.length];exact Nat.le_trans (by omega) sb_
theorem find_isSome{k:T}{es:List (V×V)}{xs:List DictEntry}(hl:k_ (c.enc k) es=true)(h:EsR w φ es xs):(f_ (c.enc k) es).isSome=(xs.find? fun e=>c.knd.is k e.key).isSome:=by
 have:=es_find c hl h k;cases h1:f_ (c.enc k) es <;> cases h2:xs.find? (fun e=>c.knd.is k e.key) <;> rw [h1,h2] at this <;> first | rfl | exact this.elim
theorem find_some{k:T}{es:List (V×V)}{xs:List DictEntry}(hl:k_ (c.enc k) es=true)(h:EsR w φ es xs)(hs:(f_ (c.enc k) es).isSome=true):∃ v,findBy c.knd.is xs.toArray k=some v:=by
 have:=es_findBy c hl h k;cases h1:f_ (c.enc k) es with
 | none=>rw [h1] at hs;cases hs
 | some v=>
  cases h2:findBy c.knd.is xs.toArray k with
  | some u=>exact ⟨u,rfl⟩
  | none=>rw [h1,h2] at this;exact this.elim
theorem put_OR{k:T}{key u:Value}{v:V}{es:List (V×V)}{xs:List DictEntry}{ep:Nat}{o':Obj}(hl:k_ (c.enc k) es=true)(hkey:KeyR w (c.enc k) key (c.knd.hash k))(hv:VR φ v u)(h:EsR w φ es xs)(nd:(es.map (·.1)).Nodup)(h2:o'.ExactDict)
  (h3:o'.data= .dict (putX (fun e=>c.knd.is k e.key) u ⟨c.knd.hash k,key,u⟩ xs).toArray (if (xs.find? fun e=>c.knd.is k e.key).isSome then ep else ep+1)):OR w φ (putD (c.enc k) v es ep) o':=by
 unfold putD;rw [find_isSome c hl h];exact ⟨h2,⟨_,h3,es_put c hkey hv hl h⟩,putK_nodup nd⟩
end
section
variable {Λ:Lev} {φ φ₀:List Addr} {s:S} {r:Shared}
theorem At.dict{α β:Type}{R:List Addr->α->β->Prop}{m:M α}{t:Sem β}{a:V}(ha:kd_ a=true)(h:∀ (T:Type) (_:DecidableEq T) (c:Enc Λ.prog Λ.G.w T) (k:T),a=c.enc k->At Λ φ s r R m t):At Λ φ s r R m t:=by
 rcases kind_of ha with ⟨i,rfl⟩ | ⟨x,rfl⟩
 ·exact h _ _ (encI _ _) i rfl
 ·exact h _ _ (encS _ _) x rfl
theorem item_S{a b:V}{x y:Value}(ha:VR φ₀ a x)(hb:VR φ₀ b y)(value slice:Expr):Sim Λ φ₀ VR (itemM a b) (subscriptTail value slice x y):=by
 refine Sim.of_at fun φ s r ex st=>?_;have ha:=ha.mono ex;have hb:=hb.mono ex;unfold itemM;split
 ·obtain ⟨ax,eax,rfl⟩:=ha;refine At.geto fun o ho=>?_;split
  ·split
   ·refine At.need fun hn=>At.opt' fun v hv=>At.pure st fun Q E k=>?_;obtain ⟨hn1,hn2⟩:=of_decide_eq_true hn;obtain ⟨t,rfl⟩:=hb;obtain ⟨ob1,g1,⟨c1,z1⟩,xs,n1,d1,r1⟩:=st.at ho (by simp) eax;obtain ⟨u,hu,hr⟩:=r1.get hv;exact tail_any ⟨ob1,g1,c1⟩ F.slot_list_getitem.lookup (wpAny_getItem_list ⟨ob1,g1,c1,n1,d1⟩ hn1 (by omega) (by simpa using hu) (k u r.toks hr))
   ·exact At.fail
  ·split
   ·rename_i i hb;refine At.need fun hn=>At.opt' fun v hv=>At.pure st fun Q E k=>?_;obtain ⟨hn1,hn2⟩:=of_decide_eq_true hn;obtain ⟨t,rfl⟩:=hb;obtain ⟨ob1,g1,c1,xs,n1,d1,r1⟩:=st.at ho (by simp) eax;obtain ⟨u,hu,hr⟩:=r1.get hv;refine tail_any ⟨ob1,g1,c1⟩ PyProof.Rows.slot_tuple_getitem.lookup (PyProof.Rows.getItem_tuple (j:=i.toNat) (items:=xs.toArray) ⟨ob1,g1,c1,n1,d1⟩ (by omega) (by omega) ?_ (by simpa using hu) (k u r.toks hr));have:i.toNat < xs.length:=(List.getElem?_eq_some_iff.mp hu).1;unfold seqIndex?;simp only [List.size_toArray];split <;> simp_all <;> omega
   ·exact At.fail
  ·refine At.need fun hn=>At.opt' fun v hv=>?_;rw [Bool.and_eq_true] at hn;refine At.dict hn.1 fun T _ c k hk=>At.pure st fun Q E kk=>?_;subst hk;obtain ⟨ob1,g1,x1,⟨xs,d1,r1⟩,nd⟩:=st.at ho (by simp) eax;have hf:=es_findBy c hn.2 r1 k;rw [hv] at hf;cases h2:findBy c.knd.is xs.toArray k with
   | none=>rw [h2] at hf;exact hf.elim
   | some u=>
    rw [h2] at hf;exact tail_any ⟨ob1,g1,x1.1⟩ F.slot_dict_getitem.lookup (wpAny_getItem_of (c.val φ k y hb) ⟨ob1,xs.toArray,_,g1,x1,d1,ek_ c hn.2 r1,fun _=>rfl⟩ h2 (kk u _ hf))
  ·exact At.fail
 ·exact At.fail
theorem dict_mapSeq(o:Obj)(f):(o.mapSeq f).dict=o.dict:=by obtain ⟨c,d,dt,sl⟩:=o;cases dt <;> rfl
theorem slots_mapSeq(o:Obj)(f):(o.mapSeq f).slots=o.slots:=by obtain ⟨c,d,dt,sl⟩:=o;cases dt <;> rfl
theorem setItem_list_exact{prog:Program}{w:World}{A:Around}{E:Value->Shared->Prop}{s:Shared}{l:Addr}{o:Obj}{items:Array Value}{n:Nat}{k:Int}{t:Tok}{v:Value}{Q:Unit->Shared->Prop}(ho:s.heap.get? l=some o)(hc:o.cls= .type "list")(hd:o.data= .seq items n)
  (h0:0<=k) (hfit:k < 2 ^ 63) (hn:k < items.size)
  (hQ:∀ h' o',h'.get? l=some o'->o'.cls= .type "list"->(o'.dict=o.dict/\o'.slots=o.slots)->(∃ n',o'.data= .seq (items.setIfInBounds k.toNat v) n')->Heap.SameBut l s.heap h'->Q () {s with heap:=h'}):
  wpAny (model prog w) A (setItem (.ref l) (.int k t) v) Q E s:=by
 have ht:s.TypeIs (.ref l) "list":=⟨o,ho,hc⟩;unfold setItem;try with_reducible refine wpAny_holding ?_
 refine wpAny_bind (wpAny_sequenceKey ht (by decide) ?_);refine wpAny_bind (wpAny_callSpecial?_slot (name:=Str.ofString "__setitem__") ht slot_list_setitem
  (wpAny_call_entry slot_list_setitem ht entry_list_setitem ?_ (args_list_setitem _ _ _)))
 show wpAny _ _ (Builtin.List.listSubscript? (.int k t) >>=_) _ _ s;refine wpAny_bind (wpAny_listSubscript_int (fitsIndex_of h0 hfit) ?_);obtain ⟨j,rfl⟩:=Int.eq_ofNat_of_zero_le h0;have hj:j < items.size:=by omega
 have hx':items[j]? =some items[j]:=Array.getElem?_eq_getElem hj;show wpAny _ _ ((seqItemAt l j >>=fun r=>pure (r.map (j,·))) >>=_) _ _ s;refine wpAny_bind (wpAny_bind (wpAny_seqItemAt ho hd (wpAny_pure ?_)));rw [hx'];show wpAny _ _ (setSeqItemAt l j v >>=_) _ _ s;obtain ⟨n',hd'⟩:=Obj.data_mapSeq hd (·.setIfInBounds j v);refine wpAny_bind (wpAny_setSeqItemAt ho hd ?_);have fin:=hQ _ _ (Heap.get?_update_self (h:=s.heap) _ ho (Obj.isFreed_of_seq hd')) ((Obj.cls_mapSeq ..).trans hc) ⟨dict_mapSeq _ _,slots_mapSeq _ _⟩ ⟨n',hd'⟩ (Heap.SameBut.update ..);first
  | exact wpAny_bind (wpAny_pure (wpAny_pure ⟨.none,rfl,wpAny_pure fin⟩))
  | exact wpAny_pure ⟨.none,rfl,wpAny_pure fin⟩
theorem setItem_S{a b c:V}{x y z:Value}(ha:VR φ₀ a x)(hb:VR φ₀ b y)(hc:VR φ₀ c z):Sim Λ φ₀ (fun _ _ _=>True) (sk_ a b c) (setItem x y z):=by
 refine Sim.of_at fun φ s r ex st=>?_;have ha:=ha.mono ex;have hb:=hb.mono ex;have hc:=hc.mono ex;unfold sk_;split
 ·obtain ⟨ax,eax,rfl⟩:=ha;refine At.geto fun o ho=>?_;have hlen:=(List.getElem?_eq_some_iff.mp ho).1;split
  ·split
   ·rename_i vs _ i hb;refine At.need fun hn=>?_;obtain ⟨hn1,hn2,hn3⟩:=of_decide_eq_true hn;obtain ⟨t,rfl⟩:=hb;obtain ⟨ob1,g1,⟨c1,z1⟩,xs,n1,d1,r1⟩:=st.at ho (by simp) eax;refine At.done (a:=()) (s':={s with h:=s.h.set _ (.list (vs.set i.toNat c))}) (by unfold seto;rw [if_pos hlen]) fun Q E k=>?_;refine setItem_list_exact g1 c1 d1 hn1 (by omega) (by simpa [<-r1.length] using hn2) fun h' ob2 g2 c2 z2 d2 hs=>?_;refine k φ () _ (Ext.refl φ) (st.upd ho (by simp) eax (fun b ob hb e=>hs.extBut b ob hb e) (.inr ?_)) trivial;obtain ⟨n2,d2⟩:=d2;refine ⟨ob2,g2,⟨c2,z2.1.trans z1.1,z2.2.trans z1.2⟩,xs.set i.toNat z,n2,by rw [d2];simp,?_⟩;exact VsR.set r1 hc i.toNat
   ·exact At.fail
  ·rename_i es ep;refine At.need fun hn=>?_;simp only [Bool.and_eq_true] at hn;refine At.dict hn.1.1 fun T _ c k hk=>?_;subst hk;obtain ⟨ob1,g1,x1,⟨xs,d1,r1⟩,nd⟩:=st.at ho (by simp) eax;refine At.done (a:=()) (s':={s with h:=s.h.set _ (putD (c.enc k) _ es ep)}) (by unfold seto;rw [if_pos hlen]) fun Q E kk=>?_;have hsz:=small_es r1 hn.2;refine setItem_exact (c.val φ k y hb) g1 x1 d1 (ek_ c hn.1.2 r1) (fun h' o' tk h1 h2 h3 h4=>?_) hsz;refine kk φ () _ (Ext.refl φ) (st.upd ho (by simp) eax (fun b ob hb e=>h4.extBut b ob hb e) (.inr ?_)) trivial;refine ⟨o',h1,put_OR c hn.1.2 (c.of k y (c.val φ k y hb)) hc r1 nd h2 h3⟩
  ·exact At.fail
 ·exact At.fail
theorem delItem_S{a b:V}{x y:Value}(ha:VR φ₀ a x)(hb:VR φ₀ b y):Sim Λ φ₀ (fun _ _ _=>True) (dc_ a b) (delItem x y):=by
 refine Sim.of_at fun φ s r ex st=>?_;have ha:=ha.mono ex;have hb:=hb.mono ex;unfold dc_;split
 ·obtain ⟨ax,eax,rfl⟩:=ha;refine At.geto fun o ho=>?_;have hlen:=(List.getElem?_eq_some_iff.mp ho).1;split
  ·rename_i es ep;refine At.need fun hn=>?_;simp only [Bool.and_eq_true] at hn;obtain ⟨hn,hz⟩:=hn;refine At.dict hn.1.1 fun T _ c k hk=>?_;subst hk;obtain ⟨ob1,g1,x1,⟨xs,d1,r1⟩,nd⟩:=st.at ho (by simp) eax;refine At.done (a:=()) (s':={s with h:=s.h.set _ (.dict (da_ (c.enc k) es) (ep+1))}) (by unfold seto;rw [if_pos hlen]) fun Q E kk=>?_;obtain ⟨v,hv⟩:=find_some c hn.1.2 r1 hn.2;have hT:r.TypeIs (.ref ax) "dict":=⟨ob1,g1,x1.1⟩;refine wpAny_delItem_slot hT (by decide) F.slot_dict_delitem (call_meetsIn F.slot_dict_delitem hT F.entry_dict_delitem (F.args_dict_delitem_2 _ _) (meets_del_exact (c.val φ k y hb)) ?_);refine ⟨ob1,xs,ep,v,g1,x1,d1,ek_ c hn.1.2 r1,hv,?_,fun h' o' tk h1 h2 h3 h4=>?_⟩
   ·exact small_es r1 hz
   ·refine kk φ () _ (Ext.refl φ) (st.upd ho (by simp) eax (fun b ob hb e=>h4.extBut b ob hb e) (.inr ?_)) trivial;exact ⟨o',h1,h2,⟨_,h3,es_drop c hn.1.2 r1⟩,dropK_nodup nd⟩
  ·exact At.fail
 ·exact At.fail
end
end
section
theorem isStr_is(prog:Program)(w:World)(x:Str)(v:Value):v.isStr x=(strKind prog w).is x v:=by
 cases v <;> first | rfl | simp [Value.isStr,strKind,Value.isStrOf,beq_eq_decide]
theorem VR.hand{φ:List Addr}{v u:V}{x:Value}(h:handV v=some u)(r:VR φ v x):u=v/\handedIn x=true:=by
 unfold handV at h;split at h
 ·cases h
 ·rename_i hn;cases h;refine ⟨rfl,?_⟩;cases v with
  | bi i=>exact absurd rfl (hn i)
  | none=>cases r;rfl
  | bool b=>cases r;rfl
  | int i=>obtain ⟨_,rfl⟩:=r;rfl
  | str i=>obtain ⟨_,rfl⟩:=r;rfl
  | bytes i=>obtain ⟨_,rfl⟩:=r;rfl
  | ref n=>obtain ⟨a,_,rfl⟩:=r;rfl
  | glob a=>cases r;rfl
  | ty n=>cases r;rfl
section
variable {G:Ground} {C:Addr} {kp:Kept} {φ:List Addr} {s:S} {r:Shared}
theorem look_str(prog:Program){w:World}{φ:List Addr}{name:Str}{es:List (V×V)}{xs:List DictEntry}{od:Obj}{n:Nat}(hl:k_ (.str name) es=true)(h:EsR w φ es xs)(hd:od.data= .dict xs.toArray n):
  ∃ y,lookIn name od=some y/\OptR φ (f_ (.str name) es) y:=by
 have f:=es_find (encS prog w) (j:=name) hl h name;have k:=es_keys (encS prog w) (j:=name) hl h;have e1:∀ e:DictEntry,e.key.isStr name=(encS prog w).knd.is name e.key:=fun e=>isStr_is prog w name e.key;unfold lookIn;rw [hd];simp only [e1];cases hf:xs.find? (fun e=>(encS prog w).knd.is name e.key) with
 | some e=>rw [hf] at f;exact ⟨some e.val,rfl,f⟩
 | none=>
  rw [hf] at f;refine ⟨none,?_,f⟩;dsimp only;rw [if_neg];rw [List.any_eq_true];rintro ⟨e,he,hr⟩;obtain ⟨j,hj,_⟩:=k e he;obtain ⟨t,ht⟩:=Value.isStrOf_shape hj;unfold DictEntry.refKey at hr;rw [ht] at hr;cases hr
theorem St.inst(x:St G C kp φ s r){a d:Nat}{D:Addr}{es:List (V×V)}{n:Nat}{ax:Addr}(h1:s.h[a]? =some (.inst D d))(h2:s.h[d]? =some (.dict es n))(ea:φ[a]? =some ax):
  ∃ dx od xs,φ[d]? =some dx/\r.heap.get? dx=some od/\InstAt r.heap ax (instObj D dx) D (some od)/\od.ExactDict/\od.data= .dict (List.toArray xs) n/\EsR G.w φ es xs/\(es.map (·.1)).Nodup:=by
 obtain ⟨ob,g1,dx,e1,rfl⟩:=x.at h1 (by simp) ea;obtain ⟨od,g2,x2,⟨xs,d2,r2⟩,nd⟩:=x.at h2 (by simp) e1;exact ⟨dx,od,xs,e1,g2,⟨g1,rfl,rfl,g2⟩,x2,d2,r2,nd⟩
end
section
variable {Λ:Lev} {φ φ₀:List Addr} {K:Frag}
theorem getAttr_S(W:Wd Λ.G K){a:V}{x:Value}(ha:VR φ₀ a x)(name:Str)(expr:Bool):Sim Λ φ₀ VR (getAttrM K a name) (getAttr x name expr):=by
 refine Sim.of_at fun φ s r ex st=>?_;have ha:=ha.mono ex;unfold getAttrM;split
 ·obtain ⟨ax,eax,rfl⟩:=ha;refine At.geto fun o ho=>?_;split
  ·refine At.geto fun o2 ho2=>?_;split
   ·rename_i C d es n;split
    ·rename_i attr hat;refine At.need fun hn=>At.opt' fun v hv=>At.pure st fun Q E k=>?_;simp only [Bool.and_eq_true] at hn;obtain ⟨⟨⟨n1,n2⟩,n3⟩,n4⟩:=hn;obtain ⟨dx,od,xs,e1,g2,I,x2,d2,r2,nd⟩:=st.inst ho ho2 eax;obtain ⟨y,hy,hr⟩:=look_str Λ.prog n4 r2 d2;obtain ⟨v0,hv0,hv1⟩:=Option.bind_eq_some_iff.mp hv;rw [hv0] at hr;cases y with
     | none=>exact hr.elim
     | some y=>
      obtain ⟨rfl,hh⟩:=VR.hand hv1 hr;exact get_value (W.X.keeps st.base) I (plainGet_of n1).1 (findObj_own n2 hat n3 hy) hh (k y _ hr)
    ·exact At.fail
   ·exact At.fail
  ·exact At.fail
 ·exact At.fail
theorem putDict_OR{w:World}{φ:List Addr}(prog:Program){name:Str}{tk:Tok}{u:Value}{v:V}{es:List (V×V)}{xs:List DictEntry}{ep:Nat}{od:Obj}(hl:k_ (.str name) es=true)(hv:VR φ v u)(h:EsR w φ es xs)(nd:(es.map (·.1)).Nodup)
  (hx:od.ExactDict) (hd:od.data= .dict xs.toArray ep):OR w φ (putD (.str name) v es ep) (Obj.putName name (hashStr w name) (.str name tk) u od):=by
 obtain ⟨cls,dd,dt,sl⟩:=od;obtain ⟨h1,h2,h3⟩:=hx;simp only at h1 h2 h3 hd;subst h1 h2 h3 hd;have e1:(fun e:DictEntry=>e.key.isStr name)=fun e=>(encS prog w).knd.is name e.key:=funext fun e=>isStr_is prog w name e.key;have pr:=es_put (encS prog w) (k:=name) (j:=name) (key:= .str name tk) (u:=u) (v:=v) ⟨⟨tk,rfl⟩,rfl⟩ hv hl h;rw [Obj.putName_eq];unfold Obj.putNameByArray putD;dsimp only;rw [List.findIdx?_toArray,e1];have fs:=find_isSome (encS prog w) (k:=name) hl h;have fs':(f_ (V.str name) es).isSome=(xs.find? fun e=>(encS prog w).knd.is name e.key).isSome:=fs;have hh:(encS prog w).knd.hash name=hashStr w name:=rfl;cases hi:xs.findIdx? (fun e=>(encS prog w).knd.is name e.key) with
 | some i=>
  have hs:(xs.find? fun e=>(encS prog w).knd.is name e.key).isSome=true:=by
   rw [List.find?_isSome];obtain ⟨hl,hp,_⟩:=List.findIdx?_eq_some_iff_getElem.mp hi;exact ⟨xs[i],List.getElem_mem hl,hp⟩
  rw [fs',if_pos hs];refine ⟨⟨rfl,rfl,rfl⟩,⟨_,?_,pr⟩,putK_nodup nd⟩;simp only [List.modify_toArray];rw [<-putX_some hi]
 | none=>
  have hs:(xs.find? fun e=>(encS prog w).knd.is name e.key).isSome=false:=by
   rw [Bool.eq_false_iff];intro z;rw [List.find?_isSome] at z;obtain ⟨e,he,hp⟩:=z;have:=List.findIdx?_eq_none_iff.mp hi e he;rw [this] at hp;cases hp
  rw [fs',hs];refine ⟨⟨rfl,rfl,rfl⟩,⟨_,?_,pr⟩,putK_nodup nd⟩;simp only [List.push_toArray,hh];rw [putX_none (v:=u) hi];rfl
theorem osa_mine{prog:Program}{w:World}{A:Around}{R:Result->Shared->Prop}{s:Shared}{x C dx:Addr}{od:Obj}{name:Str}{tk:Tok}{v:Value}{xs:List DictEntry}{n:Nat}(X:K.In s.heap)
  (I:InstAt s.heap x (instObj C dx) C (some od)) (hp:plainOver K C=true) (ht:takerIn K C name=some none) (hh:hasDictIn K C=true) (D:s.heap.get? dx=some od) (hd:od.data= .dict xs.toArray n) (hr:xs.toArray.any (·.refKey)=false)
  (D':(s.heap.update dx (Obj.putName name (hashStr w name) (.str name s.toks) v)).get? dx=some (Obj.putName name (hashStr w name) (.str name s.toks) v od)) (hl:(Obj.putName name (hashStr w name) (.str name s.toks) v od).data.pastItsLine=none)
  (h:R (.ok (.ret .none)) {s with heap:=s.heap.update dx (Obj.putName name (hashStr w name) (.str name s.toks) v),toks:=s.toks+1}):
  codeAny (model prog w) A (.call (.builtin "object.__setattr__") ⟨[.ref x,.str name tk,v],[]⟩) R s:=by
 obtain ⟨cd,hc,hd'⟩:=any_some hh;refine osa_open X I hp ht fun b=>?_;refine wpAny_bind (wpAny_pure (wpAny_bind (wpAny_bind (wpAny_loadPart I.at_ (wpAny_bind ((looks_clsIn X hc).here ?_))))));rw [hd'];refine wpAny_pure (a:=some dx) (wpAny_bind (wpAny_pure (wpAny_bind ?_)));unfold nsSet;refine wpAny_bind (wpAny_bind (wpAny_askSetting (wpAny_pure (wpAny_bind (wpAny_mkText (wpAny_bind (wpAny_loadPart D ?_)))))));rw [hd];dsimp only;have c:(!xs.toArray.any (·.key.isStr name) && xs.toArray.any (·.refKey))=false:=by rw [hr,Bool.and_false]
 rw [aRefKeyMayBeTheName_at,c];refine wpAny_updatePart D ?_;exact wpAny_bind (wpAny_lookBehind D' hl (wpAny_pure h))
theorem setAttr_S(W:Wd Λ.G K){a b:V}{x y:Value}(ha:VR φ₀ a x)(hb:VR φ₀ b y)(name:Str):Sim Λ φ₀ (fun _ _ _=>True) (setAttrM K a name b) (setAttr x name y):=by
 refine Sim.of_at fun φ s r ex st=>?_;have ha:=ha.mono ex;have hb:=hb.mono ex;unfold setAttrM;split
 ·obtain ⟨ax,eax,rfl⟩:=ha;refine At.geto fun o ho=>?_;split
  ·refine At.geto fun o2 ho2=>?_;split
   ·rename_i C d _ es n;refine At.need fun hn=>?_;simp only [Bool.and_eq_true,beq_iff_eq] at hn;obtain ⟨⟨⟨⟨⟨n1,n2⟩,n3⟩,n4⟩,n5⟩,n6⟩:=hn;have hlen:=(List.getElem?_eq_some_iff.mp ho2).1;obtain ⟨dx,od,xs,e1,g2,I,x2,d2,r2,nd⟩:=st.inst ho ho2 eax;have X:=W.X.keeps st.base;refine At.done (a:=()) (s':={s with h:=s.h.set d (putD (.str name) b es n)}) (by unfold seto;rw [if_pos hlen]) fun Q E k=>?_;have OD:=putDict_OR (w:=Λ.G.w) Λ.prog (tk:=r.toks+1) n5 hb r2 nd x2 d2;have hf:(Obj.putName name (hashStr Λ.G.w name) (.str name (r.toks+1)) y od).isFreed=false:=by
     obtain ⟨_,⟨xs',h',_⟩,_⟩:=OD;exact Obj.isFreed_of_dict h'
    have D':=Heap.get?_update_self (h:=r.heap) (a:=dx) (Obj.putName name (hashStr Λ.G.w name) (.str name (r.toks+1)) y) g2 hf;have hsz:(putK (.str name) b es).length<=901:=by
     have:=of_decide_eq_true n6;have q:=congrArg List.length (putK_keys (.str name) b es);rw [List.length_map] at q;rw [q];split <;> simp <;> omega
    refine set_plain X I n1 (osa_mine (s:={r with toks:=r.toks+1}) X I n2 n3 n4 g2 d2 ?_ D' ?_ ?_)
    ·rw [Bool.eq_false_iff];intro z;simp only [List.any_toArray,List.any_eq_true] at z;obtain ⟨e,he,hr⟩:=z;obtain ⟨j,hj,_⟩:=es_keys (encS Λ.prog Λ.G.w) (j:=name) n5 r2 e he;obtain ⟨t,ht⟩:=Value.isStrOf_shape hj;unfold DictEntry.refKey at hr;rw [ht] at hr;cases hr
    ·obtain ⟨_,⟨xs',h',hr'⟩,_⟩:=OD;rw [h'];refine pastItsLine_dict ?_;rw [List.size_toArray,<-hr'.length];exact Nat.le_trans hsz (Nat.le_trans (by decide) (Nat.le_trans sb_ (Nat.le_succ _)))
    ·refine k φ () _ (Ext.refl φ) (st.upd ho2 (by simp) e1 (fun q ob hq e=>?_) (.inr ⟨_,D',OD⟩)) trivial;exact (Heap.get?_update_ne _ _ _ _ hq).trans e
   ·exact At.fail
  ·exact At.fail
 ·exact At.fail
end
end
theorem slot_bytes_join:Slot "bytes" "join" "bytes.join":=
 .of (owner:="bytes") (n:="join") (by rw [typeLookup_type,builtinLookup_eq_fast];kernel_rfl) (by decide+kernel) (by decide+kernel) (by decide+kernel)
  (by first | exact .inl (by decide+kernel) | exact .inr (by decide+kernel)) (by rw [isSubtype_type];kernel_rfl)
theorem type_bytes_join:typeOf (.builtin "bytes.join")=pure (.type "method_descriptor"):=by show builtinType _=_;rw [builtinType_eq_fast];kernel_rfl
theorem entry_bytes_join:entryFor table "bytes.join"=some Builtin.«bytes.join»:=entryFor_of_tree (by kernel_rfl)
theorem args_bytes_join_2(a b:Value):argsOk "bytes.join" ⟨[a,b],[]⟩:=by
 unfold argsOk;rw [signature?_of (id:="bytes.join") (n:= ['n','i','o','j']) (o:= ['s','e','t','y','b']) (by kernel_rfl) FB.owner_bytes];kernel_rfl
section
set_option maxHeartbeats 2000000
def MethR(φ:List Addr)(a:V×List V)(b:Value×List Value):Prop:=VR φ a.1 b.1/\VsR φ a.2 b.2
section
variable {Λ:Lev} {φ φ₀:List Addr} {K:Frag}
theorem method_S(W:Wd Λ.G K){a:V}{x:Value}(ha:VR φ₀ a x)(name:Str)(pl:Sem Bool):Sim Λ φ₀ MethR (ma_ K a name) (getMethod x name pl):=by
 refine Sim.of_at fun φ s r ex st=>?_;have ha:=ha.mono ex;cases a with
 | str sx=>
  obtain ⟨t,rfl⟩:=ha;show At Λ φ s r MethR (if name="join" then Pure.pure (V.bi "str.join",[V.str sx]) else if name="split" then Pure.pure (V.bi "str.split",[V.str sx]) else Mine.fail) _;have L:∀ {name:Str} {id:String},Slot "str" name id->typeOf (.builtin id)=pure (.type "method_descriptor")->At Λ φ s r MethR (Pure.pure (V.bi id,[V.str sx])) (getMethod (.str sx t) name pl):=fun slot ty=>
   At.pure st fun Q E k=>getMethod_builtin (typeIs_str r sx t) PySem.F.plainAttrs_str slot ty (fun _ e=>nomatch e) (k _ r.toks ⟨rfl,⟨t,rfl⟩,trivial⟩)
  refine At.ite (fun hn=>?_) fun _=>At.ite (fun hn=>?_) fun _=>At.fail
  ·rw [hn];exact L PySem.F.slot_str_join PySem.F.type_str_join
  ·rw [hn];exact L PySem.F.slot_str_split PySem.F.type_str_split
 | bytes sx=>
  obtain ⟨t,rfl⟩:=ha;show At Λ φ s r MethR (if name="join" then Pure.pure (V.bi "bytes.join",[V.bytes sx]) else Mine.fail) _;have L:∀ {name:Str} {id:String},Slot "bytes" name id->typeOf (.builtin id)=pure (.type "method_descriptor")->At Λ φ s r MethR (Pure.pure (V.bi id,[V.bytes sx])) (getMethod (.bytes sx t) name pl):=fun slot ty=>
   At.pure st fun Q E k=>getMethod_builtin (typeIs_bytes r sx t) FB.plainAttrs_bytes slot ty (fun _ e=>nomatch e) (k _ r.toks ⟨rfl,⟨t,rfl⟩,trivial⟩)
  refine At.ite (fun hn=>?_) fun _=>At.fail;rw [hn];exact L slot_bytes_join type_bytes_join
 | ref n=>
  obtain ⟨ax,eax,rfl⟩:=ha;unfold ma_;refine At.geto fun o ho=>?_;split
  ·obtain ⟨ob1,g1,⟨c1,z1⟩,xs,n1,d1,r1⟩:=st.at ho (by simp) eax;have L:∀ {name:Str} {id:String},Slot "list" name id->typeOf (.builtin id)=pure (.type "method_descriptor")->At Λ φ s r MethR (Pure.pure (V.bi id,[V.ref _])) (getMethod (.ref ax) name pl):=fun slot ty=>
    At.pure st fun Q E k=>getMethod_builtin ⟨ob1,g1,c1⟩ PySem.F.plainAttrs_list slot ty (fun _ e=>by cases e;exact ⟨_,g1,z1.1⟩) (k _ r.toks ⟨rfl,⟨ax,eax,rfl⟩,trivial⟩)
   refine At.ite (fun hn=>?_) fun _=>At.ite (fun hn=>?_) fun _=>At.ite (fun hn=>?_) fun _=>At.fail
   ·rw [hn];exact L PySem.F.slot_list_append PySem.F.type_list_append
   ·rw [hn];exact L PySem.F.slot_list_insert PySem.F.type_list_insert
   ·rw [hn];exact L PySem.F.slot_list_pop PySem.F.type_list_pop
  ·obtain ⟨ob1,g1,x1,⟨xs,d1,r1⟩,nd⟩:=st.at ho (by simp) eax;have L:∀ {name:Str} {id:String},Slot "dict" name id->typeOf (.builtin id)=pure (.type "method_descriptor")->At Λ φ s r MethR (Pure.pure (V.bi id,[V.ref _])) (getMethod (.ref ax) name pl):=fun slot ty=>
    At.pure st fun Q E k=>getMethod_builtin ⟨ob1,g1,x1.1⟩ PySem.F.plainAttrs_dict slot ty (fun _ e=>by cases e;exact ⟨_,g1,x1.2.1⟩) (k _ r.toks ⟨rfl,⟨ax,eax,rfl⟩,trivial⟩)
   refine At.ite (fun hn=>?_) fun _=>At.ite (fun hn=>?_) fun _=>At.fail
   ·rw [hn];exact L PySem.F.slot_dict_get PySem.F.type_dict_get
   ·rw [hn];exact L PySem.F.slot_dict_pop PySem.F.type_dict_pop
  ·refine At.geto fun o2 ho2=>?_;split
   ·split
    ·rename_i f hf;refine At.need fun hn=>At.pure st fun Q E k=>?_;simp only [Bool.and_eq_true,Bool.not_eq_true'] at hn;obtain ⟨⟨⟨n1,n2⟩,n3⟩,n4⟩:=hn;obtain ⟨dx,od,xs,e1,g2,I,x2,d2,r2,nd⟩:=st.inst ho ho2 eax;obtain ⟨y,hy,hr⟩:=look_str Λ.prog n4 r2 d2;refine method_fn (W.X.keeps st.base) I (plainGet_of n1).1 (plainGet_of n1).2 hf (beq_iff_eq.mp n2) ?_ (k _ r.toks ⟨rfl,⟨ax,eax,rfl⟩,trivial⟩);unfold shadowIn;unfold hasOwn at n3;show (lookIn name od).map _=_;rw [hy];cases y with
     | none=>rfl
     | some y=>
      cases hk:f_ (.str name) _ with
      | none=>rw [hk] at hr;exact hr.elim
      | some z=>rw [hk] at n3;cases n3
    ·exact At.fail
   ·exact At.fail
  ·exact At.fail
 | _=>exact At.fail
end
end
section
set_option maxHeartbeats 2000000
theorem Sim.assoc{α β γ δ:Type}{Λ:Lev}{φ₀:List Addr}{R:List Addr->α->δ->Prop}{m:M α}{t:Sem β}{f:β->Sem γ}{g:γ->Sem δ}(h:Sim Λ φ₀ R m (t >>=fun a=>f a >>=g)):Sim Λ φ₀ R m ((t >>=f) >>=g):=by
 rw [LawfulMonad.bind_assoc];exact h
theorem VsR.pick{φ:List Addr}{vs:List V}{xs:List Value}(h:VsR φ vs xs):∀ l:List Nat,VsR φ (l.filterMap (vs[·]?)) (l.filterMap (xs.toArray[·]?))
 | []=>trivial
 | i::l=>by
  have ih:=h.pick l;rw [List.filterMap_cons,List.filterMap_cons];cases e:vs[i]? with
  | some v=>
   obtain ⟨y,hy,hr⟩:=h.get e;have hy':xs.toArray[i]? =some y:=by simpa using hy
   rw [hy'];exact ⟨hr,ih⟩
  | none=>
   have:xs.toArray[i]? =none:=by
    have:=List.getElem?_eq_none_iff.mp e;rw [h.length] at this;simpa using this
   rw [this];exact ih
theorem VsR.drop{φ:List Addr}:∀ {vs:List V} {xs:List Value},VsR φ vs xs->∀ n:Nat,VsR φ (vs.drop n) (xs.drop n)
 | _,_,h,0=>h
 | [],[],_,_+1=>trivial
 | _::_,_::_,⟨_,b⟩,n+1=>VsR.drop b n
 | [],_::_,h,_+1=>h.elim
 | _::_,[],h,_+1=>h.elim
theorem part_of{φ:List Addr}{v:V}{x:Value}{o:Option Int}(h:partOf v=some o)(hv:VR φ v x):IsPart x o:=by
 unfold partOf at h;split at h <;> cases h
 ·cases hv;exact .none
 ·obtain ⟨t,rfl⟩:=hv;exact .int _ _
section
variable {Λ:Lev} {φ φ₀:List Addr} {K:Frag}
theorem At.weak{α β:Type}{R:List Addr->α->β->Prop}{m:M α}{t:Sem β}{s:S}{r r':Shared}{u:Sem β}(h:At Λ φ s r' R m t)(k:∀ (Q:β->Shared->Prop) (E:Value->Shared->Prop),wpAny (model Λ.prog Λ.G.w) Λ.A t Q E r'->wpAny (model Λ.prog Λ.G.w) Λ.A u Q E r):At Λ φ s r R m u:=
 ⟨fun Q E pe nn ok ex=>k Q E (h.go Q E pe nn ok ex)⟩
theorem slice_S{a l u t:V}{x y z w:Value}(ha:VR φ₀ a x)(hl:VR φ₀ l y)(hu:VR φ₀ u z)(ht:VR φ₀ t w)(value slice:Expr)(pos:Pos):Sim Λ φ₀ VR (sliceM a l u t) (newFields "slice" [y,z,w] >>=fun i=>standAt pos >>=fun _=>subscriptTail value slice x i):=by
 refine Sim.of_at fun φ s r ex st=>?_;have ha:=ha.mono ex;unfold sliceM;split
 ·rename_i lo hi sp e1 e2 e3;have p1:=part_of e1 hl;have p2:=part_of e2 hu;have p3:=part_of e3 ht;refine At.weak (t:=subscriptTail value slice x (.ref r.heap.objs.size)) (r':={r with heap:=r.heap.push {cls:= .type "slice",data:= .fields #[y,z,w]}}) ?_ fun Q E k=>?_
  ·have st':StL Λ φ s {r with heap:=r.heap.push {cls:= .type "slice",data:= .fields #[y,z,w]}}:=st.keeps (tk:=r.toks) (d:=r.drawn) fun b o e=>Heap.get?_push_of_some _ e;split
   ·rename_i b _;refine At.need fun hn=>At.pure st' fun Q E k=>?_;obtain ⟨t0,rfl⟩:=ha;simp only [Bool.and_eq_true,decide_eq_true_eq,Bool.not_eq_true'] at hn;obtain ⟨⟨rfl,hn1⟩,hn2⟩:=hn;cases p3;refine tail_any (typeIs_bytes _ _ _) FB.slot_bytes_getitem.lookup ?_;refine getItem_meets (typeIs_bytes _ _ _) (by decide) FB.slot_bytes_getitem FB.entry_bytes_getitem (FB.args_bytes_getitem_2 _ _) (KBy.meets_slice b t0 _ p1 p2 hn2) ⟨Heap.IsSliceOf.new _ _ _ _,?_,k _ _ ⟨_,rfl⟩⟩;exact Nat.le_trans (KBc.size_picked_le _ _ _) (Nat.le_trans hn1 sb_)
   ·obtain ⟨ax,eax,rfl⟩:=ha;refine At.geto fun o ho=>?_;split
    ·rename_i vs;refine At.need fun hn=>?_;obtain ⟨hn1,hn2⟩:=of_decide_eq_true hn;obtain ⟨ob1,g1,⟨c1,z1⟩,xs,n1,d1,r1⟩:=st'.at ho (by simp) eax;refine At.done (a:= .ref s.h.length) (s':={s with h:=s.h++ [.list (pickV vs lo hi sp)]}) rfl fun Q E k=>?_;refine tail_any ⟨ob1,g1,c1⟩ F.slot_list_getitem.lookup ?_;refine wpAny_getItem_list_slice ⟨ob1,g1,c1,n1,d1⟩ (Heap.IsSliceOf.new _ _ _ _) p1 p2 p3 hn1 ?_ (by rw [List.size_toArray,<-r1.length];exact Nat.le_trans hn2 sb_);refine k (φ++ [_]) _ _ (Ext.one _ _) (st'.alloc (tk:=r.toks) (fun b o e=>Heap.get?_push_of_some _ e) Heap.fresh_none (Heap.get?_push_size _ rfl) ⟨⟨rfl,rfl,rfl⟩,_,0,rfl,?_⟩ (Nat.ne_of_gt st'.big)) ⟨_,by rw [<-st.len];simp,rfl⟩;have:=(r1.mono (Ext.one φ (r.heap.push {cls:= .type "slice",data:= .fields #[y,z,w]}).objs.size)).pick (sliceRange (sliceBounds lo hi sp vs.length).1 (sliceBounds lo hi sp vs.length).2.1 (sliceBounds lo hi sp vs.length).2.2);simp only [List.size_toArray];rw [<-r1.length];exact this
    ·exact At.fail
   ·exact At.fail
  ·exact wpAny_bind (wpAny_newObj_type (wpAny_bind (wpAny_standAt k)))
 ·exact At.fail
end
theorem setCut_exact{prog:Program}{w:World}{A:Around}{E:Value->Shared->Prop}{s:Shared}{l sl b:Addr}{o ob:Obj}{items ys:Array Value}{n nb:Nat}{vu:Value}{k:Int}{Q:Unit->Shared->Prop}(ho:s.heap.get? l=some o)(hc:o.cls= .type "list")(hd:o.data= .seq items n)
  (hs:s.heap.IsSliceOf sl .none vu .none) (pu:IsPart vu (some k)) (h0:0<=k) (hk:k.toNat<=items.size) (hb:s.heap.get? b=some ob) (hbc:ob.cls= .type "list") (hbd:ob.data= .seq ys nb) (hne:l≠b) (hsz:items.size+ys.size<=100000)
  (hQ:∀ h' o',h'.get? l=some o'->o'.cls= .type "list"->(o'.dict=o.dict/\o'.slots=o.slots)->(∃ n',o'.data= .seq (ys++items.extract k.toNat items.size) n')->Heap.SameBut l s.heap h'->Q () {s with heap:=h'}):
  wpAny (model prog w) A (setItem (.ref l) (.ref sl) (.ref b)) Q E s:=by
 have hl:s.TypeIs (.ref l) "list":=⟨o,ho,hc⟩;obtain ⟨os,hos,hcs,hds⟩:=id hs;have hTs:s.TypeIs (.ref sl) "slice":=⟨os,hos,hcs⟩;unfold setItem;try with_reducible refine wpAny_holding ?_
 refine wpAny_bind (wpAny_sequenceKey hl (by decide) ?_);refine wpAny_bind (wpAny_callSpecial?_slot (name:=Str.ofString "__setitem__") hl slot_list_setitem
  (wpAny_call_entry slot_list_setitem hl entry_list_setitem ?_ (args_list_setitem _ _ _)))
 show wpAny _ _ (Builtin.List.listSubscript? (.ref sl) >>=_) _ _ s;refine wpAny_bind ?_;unfold Builtin.List.listSubscript?;refine wpAny_bind (wpAny_specialOf hTs slice_no_index ?_);simp only [Option.isNone_none,if_true];refine wpAny_pure ?_;show wpAny _ _ (typeOf (.ref sl) >>=_) _ _ s;refine wpAny_bind (wpAny_typeOf hTs ?_);rw [if_neg (by decide),listSliceParts_eq];refine wpAny_bind (wpAny_bind (wpAny_field hos hds (x:= .none) rfl (wpAny_bind (wpAny_listPart .none ?_))));rw [if_neg (show ¬ ((rawPart none==rawInt 0)=true) from Bool.false_ne_true)];refine wpAny_bind (wpAny_field hos hds (x:= .none) rfl (wpAny_bind (wpAny_listPart .none ?_)));refine wpAny_bind (wpAny_field hos hds (x:=vu) rfl (wpAny_bind (wpAny_listPart pu (wpAny_pure ?_))));have hsame:Builtin.List.listSameRef (.ref l) (.ref b)=false:=by unfold Builtin.List.listSameRef;simpa using hne
 dsimp only;rw [hsame];refine wpAny_bind (m:=Builtin.List.listAllItems (.ref b) _) ?_;unfold Builtin.List.listAllItems;refine wpAny_bind (wpAny_typeOf ⟨ob,hb,hbc⟩ ?_);rw [if_pos (by decide)];refine wpAny_listItems hb hbd ?_;refine wpAny_bind (m:=Builtin.List.listItems (.ref l)) (wpAny_listItems ho hd ?_);refine wpAny_bind (wpAny_of_eq (sliceIndices_raw none (some k) none items.size (by simp)) ?_);have e1:(sliceBounds none (some k) none items.size).1=0:=rfl;have e2:(sliceBounds none (some k) none items.size).2.1=k:=by
  simp only [sliceBounds,Option.getD_none];rw [if_pos (by decide)];rw [if_neg (by omega)];omega
 have e3:(sliceBounds none (some k) none items.size).2.2=1:=rfl;generalize sliceBounds none (some k) none items.size=sb at e1 e2 e3;obtain ⟨b1,b2,b3⟩:=sb;simp only at e1 e2 e3;subst e1 e3;rw [e2];clear e2;dsimp only;rw [if_pos (by decide)];refine wpAny_bind (wpAny_rule ?_);rw [if_neg (by
  unfold Builtin.List.listTooLong;have:=sb_;simp only [decide_eq_true_eq];omega)]
 have hm:(max 0 k).toNat=k.toNat:=by omega
 rw [hm];obtain ⟨n',hd'⟩:=Obj.data_mapSeq hd fun xs=>xs.extract 0 (Int.toNat 0)++ys++xs.extract k.toNat xs.size;have fin:=hQ _ _ (Heap.get?_update_self (h:=s.heap) _ ho (Obj.isFreed_of_seq hd')) ((Obj.cls_mapSeq ..).trans hc) ⟨dict_mapSeq _ _,slots_mapSeq _ _⟩ ⟨n',by rw [hd'];simp⟩ (Heap.SameBut.update ..);show wpAny _ _ (Builtin.List.listUpdate (.ref l) _ >>=_) _ _ s;unfold Builtin.List.listUpdate;have hz:=sb_;refine wpAny_bind (wpAny_updateSeq ho hd (wpAny_bind (wpAny_letGo ?_)) (by omega) ?_)
 ·exact wpAny_pure ⟨.none,rfl,wpAny_pure fin⟩
 ·simp;omega
section
variable {Λ:Lev} {φ φ₀:List Addr} {K:Frag}
theorem setCut_S{a l u v:V}{x y z q:Value}{pos:Pos}{hs:Value->List Value}(ha:VR φ₀ a x)(hl:VR φ₀ l y)(hu:VR φ₀ u z)(hv:VR φ₀ v q):Sim Λ φ₀ (fun _ _ _=>True) (setCutM a l u v) (newFields "slice" [y,z,.none] >>=fun i=>standAt pos >>=fun _=>holding (hs i) (setItem x i q)):=by
 refine Sim.of_at fun φ s r ex st=>?_;have ha:=ha.mono ex;have hv:=hv.mono ex;unfold setCutM;split
 ·rename_i n k c _ _;obtain ⟨ax,eax,rfl⟩:=ha;obtain ⟨bx,ebx,rfl⟩:=hv;cases hl;refine At.weak (t:=setItem (.ref ax) (.ref r.heap.objs.size) (.ref bx)) (r':={r with heap:=r.heap.push {cls:= .type "slice",data:= .fields #[.none,z,.none]}}) ?_ fun Q E k=>?_
  ·have st':StL Λ φ s {r with heap:=r.heap.push {cls:= .type "slice",data:= .fields #[.none,z,.none]}}:=st.keeps (tk:=r.toks) (d:=r.drawn) fun b o e=>Heap.get?_push_of_some _ e;refine At.geto fun o ho=>?_;split
   ·rename_i vs;refine At.geto fun o2 ho2=>?_;split
    ·rename_i ws;refine At.need fun hn=>?_;obtain ⟨hn1,hn2,hn3,hn4,hn5⟩:=of_decide_eq_true hn;have hlen:=(List.getElem?_eq_some_iff.mp ho).1;obtain ⟨ob1,g1,⟨c1,z1⟩,xs,n1,d1,r1⟩:=st'.at ho (by simp) eax;obtain ⟨ob2,g2,⟨c2,z2⟩,ys,n2,d2,r2⟩:=st'.at ho2 (by simp) ebx;refine At.done (a:=()) (s':={s with h:=s.h.set n (.list (ws++vs.drop k.toNat))}) (by unfold seto;rw [if_pos hlen]) fun Q E kk=>?_;have p2:IsPart z (some k):=part_of (v:= .int k) rfl hu;have hne:ax≠bx:=fun e=>hn3 (st.inj n c ax ⟨_,ho,by simp⟩ ⟨_,ho2,by simp⟩ eax (by rw [e];exact ebx));refine setCut_exact g1 c1 d1 (Heap.IsSliceOf.new _ _ _ _) p2 hn1 ?_ g2 c2 d2 hne ?_ fun h' o' q1 q2 q3 q4 q5=>?_
     ·rw [List.size_toArray,<-r1.length];omega
     ·rw [List.size_toArray,List.size_toArray,<-r1.length,<-r2.length];omega
     ·refine kk φ () _ (Ext.refl φ) (st'.upd (tk:=r.toks) ho (by simp) eax (fun b ob hb e=>q5.extBut b ob hb e) (.inr ⟨o',q1,⟨q2,q3.1.trans z1.1,q3.2.trans z1.2⟩,ys++xs.drop k.toNat,?_⟩)) trivial;obtain ⟨n',q4⟩:=q4;refine ⟨n',?_,r2.append (VsR.drop r1 _)⟩;rw [q4];simp;exact List.take_of_length_le (by simp)
    ·exact At.fail
   ·exact At.fail
  ·exact wpAny_bind (wpAny_newObj_type (wpAny_bind (wpAny_standAt (wpAny_holding k))))
 ·exact At.fail
end
end
section
set_option maxHeartbeats 2000000
section
variable {prog:Program} {w:World} {T:Type} [DecidableEq T] (c:Enc prog w T) {φ:List Addr} {j:T}
def kvsOf:List (V×V)->List DictEntry->List (T×Value)
 | (k,_)::es,x::xs=>match c.dec k with
  | some i=>(i,x.val)::kvsOf es xs
  | none=> []
 | _,_=> []
theorem kl_:∀ {es:List (V×V)} {xs:List DictEntry},k_ (c.enc j) es=true->EsR w φ es xs->(kvsOf c es xs).length=es.length
 | [],[],_,_=>rfl
 | (k,v)::es,x::xs,h,⟨hk,_,hr⟩=>by
  rw [kc_,Bool.and_eq_true] at h;obtain ⟨i,hi⟩:=c.like j k h.1;subst hi;simp [kvsOf,c.dec_enc,kl_ h.2 hr]
 | [],_::_,_,h=>h.elim
 | (_,_)::_,[],_,h=>h.elim
theorem kk_:∀ {es:List (V×V)} {xs:List DictEntry},k_ (c.enc j) es=true->EsR w φ es xs->(kvsOf c es xs).map (fun p=>c.enc p.1)=es.map (·.1)
 | [],[],_,_=>rfl
 | (k,v)::es,x::xs,h,⟨hk,_,hr⟩=>by
  rw [kc_,Bool.and_eq_true] at h;obtain ⟨i,hi⟩:=c.like j k h.1;subst hi;simp [kvsOf,c.dec_enc,kk_ h.2 hr]
 | [],_::_,_,h=>h.elim
 | (_,_)::_,[],_,h=>h.elim
theorem kvsOf_pairs:∀ {es:List (V×V)} {xs:List DictEntry},k_ (c.enc j) es=true->EsR w φ es xs->Pairs c.knd xs (kvsOf c es xs)
 | [],[],_,_=> .nil
 | (k,v)::es,x::xs,h,⟨hk,_,hr⟩=>by
  rw [kc_,Bool.and_eq_true] at h;obtain ⟨i,hi⟩:=c.like j k h.1;subst hi;unfold kvsOf;rw [c.dec_enc];exact .cons (c.to i _ _ hk).1 rfl (kvsOf_pairs h.2 hr)
 | [],_::_,_,h=>h.elim
 | (_,_)::_,[],_,h=>h.elim
theorem dictAt_of{h:Heap}{a:Addr}{ob:Obj}{es:List (V×V)}{xs:List DictEntry}{n:Nat}(g:h.get? a=some ob)(x:ob.ExactDict)(d:ob.data= .dict xs.toArray n)(hi:k_ (c.enc j) es=true)(r:EsR w φ es xs)(nd:(es.map (·.1)).Nodup):
  h.DictAt c.knd a (kvsOf c es xs) n:=by
 refine ⟨ob,_,g,x,d,ek_ c hi r,by simpa using kvsOf_pairs c hi r,?_⟩;rw [<-kk_ c hi r] at nd;have:(kvsOf c es xs).map (fun p=>c.enc p.1)=((kvsOf c es xs).map (·.1)).map c.enc:=by rw [List.map_map];rfl
 rw [this] at nd;exact List.Pairwise.of_map _ (fun a b h e=>h (by rw [e])) nd
end
theorem intKeys_like{es:List (V×V)}(h:i_ es=true):k_ (.int 0) es=true:=by
 unfold i_ at h;unfold k_;rw [List.all_eq_true] at h ⊢;intro e he;have:=h e he;obtain ⟨k,v⟩:=e;cases k <;> first | rfl | cases this
def ItR(φ:List Addr)(n:Nat)(v:Value):Prop:=∃ a,φ[n]? =some a/\v= .ref a
section
variable {prog:Program} {w:World} {A:Around} {E:Value->Shared->Prop} {s:Shared} {b:Array UInt8} {t:Tok}
open KBw
theorem nextOf_bytes_item{it:Addr}{i:Nat}{c:UInt8}{Q:Value->Shared->Prop}(hit:IsBytesIter s.heap it b t i)(hx:b[i]? =some c)
  (hQ:∀ h',IsBytesIter h' it b t (i+1)->Heap.SameBut it s.heap h'->Q (.int (c.toNat:Int) s.toks) {s with heap:=h',toks:=s.toks+1}):wpAny (model prog w) A (Builtin.SmallTypes.nextOf (.ref it)) Q E s:=by
 obtain ⟨o,ho,hc,hd⟩:=id hit;unfold Builtin.SmallTypes.nextOf;refine wpAny_bind (wpAny_callSpecial?_slot (name:=PySem.Str.ofString "__next__") (iter_typeIs hit) slot_next
  (wpAny_call_entry slot_next (iter_typeIs hit) entry_next ?_ (args_next _)))
 show wpAny _ _ (field (.ref it) 0 >>=_) _ _ s;refine wpAny_bind (wpAny_field ho hd (x:= .bytes b t) rfl ?_);show wpAny _ _ (if (Value.bytes b t==Value.none)=true then _ else _) _ _ s;rw [if_neg (show ¬ ((Value.bytes b t==Value.none)=true) from Bool.false_ne_true)];show wpAny _ _ (field (.ref it) 1 >>=_) _ _ s;refine wpAny_bind (wpAny_field ho hd (x:= .int i 0) rfl ?_);refine wpAny_bind (wpAny_of_eq (a:=b) rfl ?_);simp only [Int.toNat_natCast,hx];refine wpAny_bind (wpAny_setField ho hd (by simp) (wpAny_bind (wpAny_mkInt (wpAny_pure ⟨_,rfl,wpAny_pure (hQ _ ?_ (Heap.SameBut.update ..))⟩))));exact ⟨_,Heap.get?_update_self _ ho (Obj.isFreed_of_fields (Obj.data_mapFields hd _)),(Obj.cls_mapFields ..).trans hc,by
  rw [Obj.data_mapFields hd];simp [rawInt]⟩
theorem nextOf_bytes_end{it:Addr}{i:Nat}{Q:Value->Shared->Prop}(hh:A.handled=none)(hit:IsBytesIter s.heap it b t i)(hx:b[i]? =none)
  (hE:∀ h' e,Heap.ExtBut it s.heap h'->(∃ o,h'.get? e=some o/\o.cls= .type "StopIteration")->E (.ref e) {s with heap:=h'}):wpAny (model prog w) A (Builtin.SmallTypes.nextOf (.ref it)) Q E s:=by
 obtain ⟨o,ho,hc,hd⟩:=id hit;unfold Builtin.SmallTypes.nextOf;refine wpAny_bind (wpAny_callSpecial?_slot (name:=PySem.Str.ofString "__next__") (iter_typeIs hit) slot_next
  (wpAny_call_entry slot_next (iter_typeIs hit) entry_next ?_ (args_next _)))
 show wpAny _ _ (field (.ref it) 0 >>=_) _ _ s;refine wpAny_bind (wpAny_field ho hd (x:= .bytes b t) rfl ?_);show wpAny _ _ (if (Value.bytes b t==Value.none)=true then _ else _) _ _ s;rw [if_neg (show ¬ ((Value.bytes b t==Value.none)=true) from Bool.false_ne_true)];show wpAny _ _ (field (.ref it) 1 >>=_) _ _ s;refine wpAny_bind (wpAny_field ho hd (x:= .int i 0) rfl ?_);refine wpAny_bind (wpAny_of_eq (a:=b) rfl ?_);simp only [Int.toNat_natCast,hx];refine wpAny_bind (wpAny_rule (wpAny_bind (wpAny_setField ho hd (by simp) ?_)));show wpAny _ _ (newExc (.type "StopIteration") [] >>=_) _ _ _;refine wpAny_bind ?_;simp only [newExc,newTuple];refine wpAny_bind (wpAny_newObj_type ?_ (by size_fits));refine wpAny_bind (m:=firstArgMember _ _) (wpAny_of_eq (a:=Value.none) (by first | rfl | (simp only [firstArgMember];rfl)) ?_);refine wpAny_newObj_type ?_ (by size_fits);simp only [raiseNew];refine wpAny_bind (wpAny_handled ?_);first | rw [show A.in1.handled=none from hh] | rw [hh]
 refine wpAny_bind (wpAny_pure (wpAny_throw ?_));exact hE _ _ (((Heap.SameBut.update ..).extBut.push _).push _) ⟨_,Heap.get?_push_size _ rfl,rfl⟩
end
open KBw in
theorem draws_bytes{prog:Program}{w:World}{A:Around}(hh:A.handled=none)(it:Addr)(b:Array UInt8)(t:Tok):
  Draws prog w A it [it] b.size (fun i v=>∃ c u,b[i]? =some c/\v= .int (c.toNat:Int) u) (fun i h=>IsBytesIter h it b t i) where
 live:=fun _ _ st=>let ⟨o,ho,_⟩:=st;⟨o,ho⟩
 frame:=fun _ _ _ st hk=>let ⟨o,ho,r⟩:=st;⟨o,hk it (by simp) o ho,r⟩
 item:=fun i s Q E hi st hQ=>by
  refine nextOf_bytes_item st (c:=b[i]) (by simp [hi]) fun h' hit' hs'=>?_;exact hQ _ h' (s.toks+1) ⟨_,_,by simp [hi],rfl⟩ hit' hs'
 done:=fun s Q E st hE=>nextOf_bytes_end hh st (by simp) hE
section
variable {Λ:Lev} {φ φ₀:List Addr} {K:Frag}
theorem At.new{β:Type}{R:List Addr->Nat->β->Prop}{t:Sem β}{s:S}{r:Shared}(st:StL Λ φ s r)(o:O)(ob:Obj)(b:β)(tk:Tok)(hf:ob.isFreed=false)(hr:OR Λ.G.w (φ++ [r.heap.objs.size]) o ob)(hR:R (φ++ [r.heap.objs.size]) s.h.length b)
  (h:∀ (Q:β->Shared->Prop) (E:Value->Shared->Prop),Q b {r with heap:=r.heap.push ob,toks:=tk}->wpAny (model Λ.prog Λ.G.w) Λ.A t Q E r) (hl:∀ b sc ce,o≠O.lam b sc ce:=by intro _ _ _ h;first | cases h | (unfold putD at h;cases h)):At Λ φ s r R (alloc o) t:=
 At.done (a:=s.h.length) (s':={s with h:=s.h++ [o]}) rfl fun Q E k=>h Q E (k _ _ _ (Ext.one _ _) (st.alloc (tk:=tk) (fun b o e=>Heap.get?_push_of_some _ e) Heap.fresh_none (Heap.get?_push_size _ hf) hr (Nat.ne_of_gt st.big) hl) hR)
theorem nr_{s:S}{r:Shared}(st:StL Λ φ s r):ItR (φ++ [r.heap.objs.size]) s.h.length (.ref r.heap.objs.size):=⟨_,by rw [<-st.len];simp,rfl⟩
theorem old_ref{φ:List Addr}{n:Nat}{a b:Addr}(e:φ[n]? =some a):(φ++ [b])[n]? =some a:=(Ext.one φ b).get e
theorem iter_enum{e:Addr}{vs:Array Value}{A:Around}{E Q:Value->Shared->Prop}{r:Shared}(he:r.heap.get? e=some {cls:= .type "enumerate",dict:=none,data:= .fields vs,slots:=#[]})(h:Q (.ref e) r):wpAny (model Λ.prog Λ.G.w) A (pyIter (.ref e)) Q E r:=by
 have hT:r.TypeIs (.ref e) "enumerate":=⟨_,he,rfl⟩;refine wpAny_pyIter_slot hT PySem.F.slot_enumerate_iter (wpAny_call_entry PySem.F.slot_enumerate_iter hT PySem.F.entry_enumerate_iter ?_ (PySem.F.args_enumerate_iter_1 _));show wpAny _ _ (ret (.ref e)) _ _ r;exact wpAny_pure ⟨_,rfl,"enumerate",_,hT,PySem.F.slot_enumerate_next.lookup,h⟩
theorem iter_S{a:V}{x:Value}(ha:VR φ₀ a x):Sim Λ φ₀ ItR (id_ a) (pyIter x):=by
 refine Sim.of_at fun φ s r ex st=>?_;have ha:=ha.mono ex;cases a with
 | ref n=>
  obtain ⟨ax,eax,rfl⟩:=ha;unfold id_;refine At.geto fun o ho=>?_;split
  ·obtain ⟨ob1,g1,⟨c1,z1⟩,xs,n1,d1,r1⟩:=st.at ho (by simp) eax;exact At.new st _ {cls:= .type "list_iterator",data:= .fields #[.ref ax,.int 0 0]} _ r.toks rfl ⟨rfl,ax,old_ref eax,rfl⟩ (nr_ st) fun Q E k=>wpAny_pyIter_list ⟨ob1,g1,c1,n1,d1⟩ k
  ·obtain ⟨ob1,g1,c1,xs,n1,d1,r1⟩:=st.at ho (by simp) eax;exact At.new st _ {cls:= .type "tuple_iterator",data:= .fields #[.ref ax,.int 0 0]} _ r.toks rfl ⟨rfl,ax,old_ref eax,rfl⟩ (nr_ st) fun Q E k=>wpAny_pyIter_tuple ⟨ob1,g1,c1,n1,d1⟩ k
  ·rename_i es ep;refine At.need fun hn=>?_;obtain ⟨ob1,g1,x1,⟨xs,d1,r1⟩,nd⟩:=st.at ho (by simp) eax;have hn:=intKeys_like hn;have DA:=dictAt_of (encI Λ.prog Λ.G.w) (j:=0) g1 x1 d1 hn r1 nd;refine At.new st _ {cls:= .type "dict_keyiterator",data:= .fields #[.ref ax,.int 0 0,.int (kvsOf (encI Λ.prog Λ.G.w) es xs).length 0,.int ep 0]} _ r.toks rfl ⟨rfl,ax,old_ref eax,?_⟩ (nr_ st) fun Q E k=>wpAny_pyIter_dict (st.ne_mods eax) DA k;rw [kl_ (encI Λ.prog Λ.G.w) (j:=0) hn r1];rfl
  ·refine At.need fun hn=>?_;obtain ⟨ob1,g1,t,u,v,rfl⟩:=st.at ho (by simp) eax;exact At.new st _ {cls:= .type "range_iterator",dict:=none,data:= .fields #[rawInt _,rawInt (Builtin.Range.rangeSize _ _ _),rawInt _],slots:=#[]} _ r.toks rfl rfl (nr_ st) fun Q E k=>wpAny_pyIter_range g1 hn k
  ·obtain ⟨ob1,g1,ai,y,own,e1,o1,rfl⟩:=st.at ho (by simp) eax;exact At.done (a:=n) (s':=s) rfl fun Q E k=>iter_enum g1 (k φ _ r (Ext.refl _) st ⟨ax,eax,rfl⟩)
  ·exact At.fail
 | str x=>
  obtain ⟨t,rfl⟩:=ha;cases hx:x.cps.all (· < 128) with
  | true=>exact At.new st _ {cls:= .type "str_ascii_iterator",data:= .fields #[.str x t,.int 0 0]} _ r.toks rfl ⟨t,by unfold strIterType;rw [hx];rfl,rfl⟩ (nr_ st) fun Q E k=>wpAny_pyIter_ascii hx k
  | false=>exact At.new st _ {cls:= .type "str_iterator",data:= .fields #[.str x t,.int 0 0]} _ r.toks rfl ⟨t,by unfold strIterType;rw [hx];rfl,rfl⟩ (nr_ st) fun Q E k=>wpAny_pyIter_wide hx k
 | _=>exact At.fail
theorem At.stepIt{t:Sem (Option Value)}{s:S}{r:Shared}{it:Nat}{a:Addr}{oi o':O}{v:Option V}(st:StL Λ φ s r)(ho:s.h[it]? =some oi)(hd:oi≠ .dead)(ea:φ[it]? =some a)
  (h1:∀ u,v=some u->∀ (Q:Option Value->Shared->Prop) (E:Value->Shared->Prop),(∀ y h' tk,(∃ ob,h'.get? a=some ob/\OR Λ.G.w φ o' ob)->Heap.ExtBut a r.heap h'->VR φ u y->Q (some y) {r with heap:=h',toks:=tk})->wpAny (model Λ.prog Λ.G.w) Λ.A t Q E r)
  (h2:v=none->∀ (Q:Option Value->Shared->Prop) (E:Value->Shared->Prop),(∀ h',Heap.ExtBut a r.heap h'->Q none {r with heap:=h'})->wpAny (model Λ.prog Λ.G.w) Λ.A t Q E r) (hl:∀ b sc ce,o'≠ .lam b sc ce:=by intro _ _ _ h;first | cases h | (unfold putD at h;cases h)):At Λ φ s r OptR (stepItM it o' v) t:=by
 have hlen:=(List.getElem?_eq_some_iff.mp ho).1;cases v with
 | some u=>
  refine At.done (a:=some u) (s':={s with h:=s.h.set it o'}) (by show (seto it o' >>=fun _=>Pure.pure (some u)) s=_;rw [bo_ (s₁:={s with h:=s.h.set it o'}) (a:=()) (by unfold seto;rw [if_pos hlen])];rfl) fun Q E k=>h1 u rfl Q E fun y h' tk hob hs hy=>?_;exact k φ _ _ (Ext.refl _) (st.upd (tk:=tk) ho hd ea (fun b ob hb e=>hs b ob hb e) (.inr hob) hl) hy
 | none=>
  refine At.done (a:=none) (s':={s with h:=s.h.set it .dead}) (by show (seto it .dead >>=fun _=>Pure.pure none) s=_;rw [bo_ (s₁:={s with h:=s.h.set it .dead}) (a:=()) (by unfold seto;rw [if_pos hlen])];rfl) fun Q E k=>h2 rfl Q E fun h' hs=>?_;exact k φ _ _ (Ext.refl _) (st.upd (tk:=r.toks) ho hd ea (fun b ob hb e=>hs b ob hb e) (.inl rfl)) trivial
theorem next_S(hh:Λ.A.handled=none){it:Nat}{a:Addr}(ea:φ₀[it]? =some a):Sim Λ φ₀ OptR (nextM it) (pyNext (.ref a)):=by
 refine Sim.of_at fun φ s r ex st=>?_;have ea:=ex.get ea;unfold nextM;refine At.geto fun o ho=>?_;split
 ·rename_i l i;refine At.geto fun o2 ho2=>?_;split
  ·rename_i vs;obtain ⟨ob,g,c,la,el,d⟩:=st.at ho (by simp) ea;obtain ⟨ob1,g1,⟨c1,z1⟩,xs,n1,d1,r1⟩:=st.at ho2 (by simp) el;refine At.stepIt st ho (by simp) ea (fun u hu Q E k=>?_) fun hu Q E k=>?_
   ·obtain ⟨y,hy,hr⟩:=r1.get hu;refine wpAny_pyNext_list_item ⟨ob,g,c,d⟩ ⟨ob1,g1,c1,n1,d1⟩ (by simpa using hy) fun h' hi hs=>k y h' r.toks ?_ hs.extBut hr;obtain ⟨ob',g',c',d'⟩:=hi;exact ⟨ob',g',c',la,el,d'⟩
   ·refine wpAny_pyNext_list_end hh ⟨ob,g,c,d⟩ ⟨ob1,g1,c1,n1,d1⟩ ?_ fun h' hs=>k h' hs;have:=List.getElem?_eq_none_iff.mp hu;rw [r1.length] at this;simpa using this
  ·exact At.fail
 ·rename_i l i;refine At.geto fun o2 ho2=>?_;split
  ·rename_i vs;obtain ⟨ob,g,c,la,el,d⟩:=st.at ho (by simp) ea;obtain ⟨ob1,g1,c1,xs,n1,d1,r1⟩:=st.at ho2 (by simp) el;refine At.stepIt st ho (by simp) ea (fun u hu Q E k=>?_) fun hu Q E k=>?_
   ·obtain ⟨y,hy,hr⟩:=r1.get hu;refine wpAny_pyNext_tuple_item ⟨ob,g,c,d⟩ ⟨ob1,g1,c1,n1,d1⟩ (by simpa using hy) fun h' hi hs=>k y h' r.toks ?_ hs.extBut hr;obtain ⟨ob',g',c',d'⟩:=hi;exact ⟨ob',g',c',la,el,d'⟩
   ·refine wpAny_pyNext_tuple_end hh ⟨ob,g,c,d⟩ ⟨ob1,g1,c1,n1,d1⟩ ?_ fun h' hs=>k h' hs;have:=List.getElem?_eq_none_iff.mp hu;rw [r1.length] at this;simpa using this
  ·exact At.fail
 ·rename_i l i len ep;refine At.geto fun o2 ho2=>?_;split
  ·rename_i es n;refine At.need fun hn=>?_;rw [Bool.and_eq_true] at hn;obtain ⟨h1,h2⟩:=hn;obtain ⟨rfl,rfl⟩:=of_decide_eq_true h1;obtain ⟨ob,g,c,la,el,d⟩:=st.at ho (by simp) ea;obtain ⟨ob1,g1,x1,⟨xs,d1,r1⟩,nd⟩:=st.at ho2 (by simp) el;have h2:=intKeys_like h2;have DA:=dictAt_of (encI Λ.prog Λ.G.w) (j:=0) g1 x1 d1 h2 r1 nd;have kl:=kl_ (encI Λ.prog Λ.G.w) (j:=0) h2 r1;have KI:r.heap.IsKeyIter a la i (kvsOf (encI Λ.prog Λ.G.w) es xs).length n:=⟨ob,g,c,by rw [kl];exact d⟩;have kk:=kk_ (encI Λ.prog Λ.G.w) (j:=0) h2 r1;have hget:(kvsOf (encI Λ.prog Λ.G.w) es xs)[i]?.map (fun p=>V.int p.1)=es[i]?.map (·.1):=by
    show (kvsOf (encI Λ.prog Λ.G.w) es xs)[i]?.map (fun p=>(encI Λ.prog Λ.G.w).enc p.1)=_;rw [<-List.getElem?_map,<-List.getElem?_map,kk]
   refine At.stepIt st ho (by simp) ea (fun u hu Q E k=>?_) fun hu Q E k=>?_
   ·rw [<-hget] at hu;obtain ⟨⟨j,y⟩,hj,rfl⟩:=Option.map_eq_some_iff.mp hu;refine wpAny_pyNext_dict_item KI DA hj fun key h' hkey hi hs=>k key h' r.toks ?_ hs.extBut (Value.isInt_shape hkey);obtain ⟨ob',g',c',d'⟩:=hi;rw [kl] at d';exact ⟨ob',g',c',la,el,d'⟩
   ·rw [<-hget] at hu;exact wpAny_pyNext_dict_end hh KI DA (by simpa using hu) fun h' hs=>k h' hs
  ·exact At.fail
 ·rename_i x left step;obtain ⟨ob,g,rfl⟩:=st.at ho (by simp) ea;refine At.stepIt st ho (by simp) ea (fun u hu Q E k=>?_) fun hu Q E k=>?_
  ·split at hu
   ·rename_i hl;cases hu;exact wpAny_pyNext_range_item g hl fun h' hi hs=>k _ h' _ ⟨_,hi,rfl⟩ hs.extBut ⟨_,rfl⟩
   ·cases hu
  ·split at hu
   ·cases hu
   ·rename_i hl;exact wpAny_pyNext_range_end hh g (by omega) fun h' hs=>k h' hs
 ·rename_i x i;obtain ⟨ob,g,t,c,d⟩:=st.at ho (by simp) ea;cases hx:x.cps.all (· < 128) with
  | true=>
   have ht:strIterType x="str_ascii_iterator":=by unfold strIterType;rw [hx];rfl
   rw [ht] at c;refine At.stepIt st ho (by simp) ea (fun u hu Q E k=>?_) fun hu Q E k=>?_
   ·obtain ⟨cc,hc,rfl⟩:=Option.map_eq_some_iff.mp hu;refine wpAny_pyNext_ascii_item ⟨ob,g,c,d⟩ hc fun h' hi hs=>k _ h' _ ?_ hs.extBut ⟨_,rfl⟩;obtain ⟨ob',g',c',d'⟩:=hi;exact ⟨ob',g',t,by rw [ht];exact c',d'⟩
   ·exact wpAny_pyNext_ascii_end hh ⟨ob,g,c,d⟩ (by simpa using hu) fun h' hs=>k h' hs
  | false=>
   have ht:strIterType x="str_iterator":=by unfold strIterType;rw [hx];rfl
   rw [ht] at c;refine At.stepIt st ho (by simp) ea (fun u hu Q E k=>?_) fun hu Q E k=>?_
   ·obtain ⟨cc,hc,rfl⟩:=Option.map_eq_some_iff.mp hu;refine wpAny_pyNext_wide_item ⟨ob,g,c,d⟩ hc fun h' hi hs=>k _ h' _ ?_ hs.extBut ⟨_,rfl⟩;obtain ⟨ob',g',c',d'⟩:=hi;exact ⟨ob',g',t,by rw [ht];exact c',d'⟩
   ·exact wpAny_pyNext_wide_end hh ⟨ob,g,c,d⟩ (by simpa using hu) fun h' hs=>k h' hs
 ·rename_i n i;refine At.geto fun o2 ho2=>?_;split
  ·rename_i b j;refine At.need fun hn=>?_;obtain ⟨rfl,hib,hne⟩:=of_decide_eq_true hn;obtain ⟨ob,g,ai,y,own,e1,o1,rfl⟩:=st.at ho (by simp) ea;obtain ⟨ob2,g2,c2,t2,dd2⟩:=st.at ho2 (by simp) e1;have hown:own= .none:=o1;subst hown;have hea:a≠ai:=fun z=>hne (st.inj n it a ⟨_,ho2,by simp⟩ ⟨_,ho,by simp⟩ (z▸e1) ea);have D:=draws_bytes (prog:=Λ.prog) (w:=Λ.G.w) (A:=Λ.A.in1) hh ai b t2;split
   ·rename_i c hc;have hlt:i < b.size:=(Array.getElem?_eq_some_iff.mp hc).1;refine At.done (a:=some (.ref s.h.length)) (s':={s with h:=(s.h.set n (.itB b (i+1))).set it (.itE n (i+1) (some s.h.length))++ [.tup [.int i,.int (c.toNat:Int)]]}) rfl fun Q E k=>?_;refine wpAny_pyNext_enum_itemD D g ⟨ob2,g2,c2,dd2⟩ hlt hea (by simpa using hea) fun x h' tk hP ho' hs' hT hsz hk=>?_;obtain ⟨c',u,hc',rfl⟩:=hP;rw [hc] at hc';cases hc';obtain ⟨ob3,g3,c3,dd3⟩:=hs';have hin:(φ++ [r.heap.objs.size])[s.h.length]? =some r.heap.objs.size:=by rw [<-st.len];simp
    refine k (φ++ [r.heap.objs.size]) _ _ (Ext.one _ _) (st.upd2 (tk:=tk+1) ho2 (by simp) e1 ho (by simp) ea hne (fun b' ob' h1 h2 e=>hk b' ob' h2 h1 e) ⟨ob3,g3,c3,t2,dd3⟩ ⟨_,ho',ai,_,_,old_ref e1,⟨_,hin,rfl⟩,rfl⟩ Heap.fresh_none hT ⟨rfl,[.int i tk,.int (c.toNat:Int) u],0,rfl,⟨_,rfl⟩,⟨_,rfl⟩,trivial⟩ (Nat.ne_of_gt st.big) (fun _ _ _ z=>by cases z) (fun _ _ _ z=>by cases z) (fun _ _ _ z=>by cases z)) ⟨_,hin,rfl⟩
   ·rename_i hc;have hge:i=b.size:=by have:=Array.getElem?_eq_none_iff.mp hc;omega
    subst hge;have hlen:=(List.getElem?_eq_some_iff.mp ho2).1;refine At.done (a:=none) (s':={s with h:=s.h.set n .dead}) (by show (seto n .dead >>=fun _=>Pure.pure none) s=_;rw [bo_ (s₁:={s with h:=s.h.set n .dead}) (a:=()) (by unfold seto;rw [if_pos hlen])];rfl) fun Q E k=>?_;refine wpAny_pyNext_enum_endD D g ⟨ob2,g2,c2,dd2⟩ fun h' hs=>?_;exact k φ _ _ (Ext.refl _) (st.upd (tk:=r.toks) ho2 (by simp) e1 (fun b ob hb e=>hs b ob hb e) (.inl rfl)) trivial
  ·exact At.fail
 ·exact At.fail
end
end
section
open PyProof.Rows.LSm
set_option maxHeartbeats 2000000
theorem intsOf_are{φ:List Addr}:∀ {vs:List V} {xs:List Value} {l:List Int},ic_ vs=some l->VsR φ vs xs->IntsAre xs l
 | [],[],_,h,_=>by cases h;exact .nil
 | v::vs,x::xs,l,h,⟨hv,hr⟩=>by
  cases v <;> simp only [ic_] at h <;> try cases h
  obtain ⟨l',h',rfl⟩:=Option.map_eq_some_iff.mp h;obtain ⟨t,rfl⟩:=hv;exact .cons _ t (intsOf_are h' hr)
 | [],_::_,_,_,h=>h.elim
 | _::_,[],_,_,h=>h.elim
theorem strsOf_are{φ:List Addr}:∀ {vs:List V} {xs:List Value} {l:List Str},strsOf vs=some l->VsR φ vs xs->StrsAre xs l
 | [],[],_,h,_=>by cases h;exact .nil
 | v::vs,x::xs,l,h,⟨hv,hr⟩=>by
  cases v <;> simp only [strsOf] at h <;> try cases h
  obtain ⟨l',h',rfl⟩:=Option.map_eq_some_iff.mp h;obtain ⟨t,rfl⟩:=hv;exact .cons _ t (strsOf_are h' hr)
 | [],_::_,_,_,h=>h.elim
 | _::_,[],_,_,h=>h.elim
theorem boolsOf_are{φ:List Addr}:∀ {vs:List V} {xs:List Value} {l:List Bool},boolsOf vs=some l->VsR φ vs xs->BoolsAre xs l
 | [],[],_,h,_=>by cases h;exact .nil
 | v::vs,x::xs,l,h,⟨hv,hr⟩=>by
  cases v <;> simp only [boolsOf] at h <;> try cases h
  obtain ⟨l',h',rfl⟩:=Option.map_eq_some_iff.mp h;cases hv;exact .cons _ (boolsOf_are h' hr)
 | [],_::_,_,_,h=>h.elim
 | _::_,[],_,_,h=>h.elim
theorem strValues_R{φ:List Addr}:∀ l:List (Str×Tok),VsR φ ((l.map (·.1)).map V.str) (strValues l)
 | []=>trivial
 | p::r=>⟨⟨p.2,rfl⟩,strValues_R r⟩
section
variable {G:Ground} {C:Addr} {kp:Kept} {φ:List Addr} {s:S} {r:Shared}
theorem St.lst(x:St G C kp φ s r){n:Nat}{vs:List V}{a:Addr}(h:s.h[n]? =some (.list vs))(ea:φ[n]? =some a):∃ xs k,r.heap.get? a=some {cls:= .type "list",data:= .seq (List.toArray xs) k}/\VsR φ vs xs:=by
 obtain ⟨⟨c,d,dt,sl⟩,g,⟨c1,z1,z2⟩,xs,n1,d1,r1⟩:=x.at h (by simp) ea;simp only at c1 z1 z2 d1;subst c1 z1 z2 d1;exact ⟨xs,n1,g,r1⟩
end
section
variable {Λ:Lev} {φ φ₀:List Addr} {K:Frag} {s:S} {r:Shared}
theorem At.listAt{α β:Type}{R:List Addr->α->β->Prop}{v:V}{x:Value}{f:List V->M α}{t:Sem β}(st:StL Λ φ s r)(hv:VR φ v x)
  (h:∀ n vs a xs k,v= .ref n->s.h[n]? =some (.list vs)->x= .ref a->φ[n]? =some a->r.heap.get? a=some {cls:= .type "list",data:= .seq (List.toArray xs) k}->VsR φ vs xs->At Λ φ s r R (f vs) t):At Λ φ s r R (Mine.listAt v >>=f) t:=by
 cases v with
 | ref n=>
  obtain ⟨a,ea,rfl⟩:=hv;have e:(Mine.listAt (.ref n) >>=f)=(Mine.geto n >>=fun o=>(match o with | .list vs=>Pure.pure vs | _=>Mine.fail) >>=f):=by
   funext s;show M.bind (M.bind _ _) _ s=M.bind _ _ s;unfold M.bind;cases hg:Mine.geto n s with
   | none=>rfl
   | some p=>obtain ⟨_ | _,_⟩:=p <;> rfl
  rw [e];refine At.geto fun o ho=>?_;cases o with
  | list vs=>
   obtain ⟨xs,k,g,r1⟩:=st.lst ho ea;exact h n vs a xs k rfl ho rfl ea g r1
  | _=>exact ⟨fun _ _ _ nn _ _=>absurd rfl nn⟩
 | _=>exact ⟨fun _ _ _ nn _ _=>absurd rfl nn⟩
theorem io_{h:Heap}{a:Addr}{xs:List Value}{k:Nat}(g:h.get? a=some {cls:= .type "list",data:= .seq (List.toArray xs) k}):h.IsList a xs.toArray:=⟨_,g,rfl,k,rfl⟩
theorem At.listSet{β:Type}{R:List Addr->V->β->Prop}{t:Sem β}{n:Nat}{a:Addr}{vs vs':List V}{v:V}(st:StL Λ φ s r)(ho:s.h[n]? =some (.list vs))(ea:φ[n]? =some a)
  (h:∀ (Q:β->Shared->Prop) (E:Value->Shared->Prop),(∀ b h' tk xs' k',h'.get? a=some {cls:= .type "list",data:= .seq (List.toArray xs') k'}->VsR φ vs' xs'->Heap.ExtBut a r.heap h'->R φ v b->Q b {r with heap:=h',toks:=tk})->wpAny (model Λ.prog Λ.G.w) Λ.A t Q E r):
  At Λ φ s r R (seto n (.list vs') >>=fun _=>Pure.pure v) t:=by
 have hlen:=(List.getElem?_eq_some_iff.mp ho).1;refine At.done (a:=v) (s':={s with h:=s.h.set n (.list vs')}) (by rw [bo_ (s₁:={s with h:=s.h.set n (.list vs')}) (a:=()) (by unfold seto;rw [if_pos hlen])];rfl) fun Q E k=>h Q E fun b h' tk xs' k' g hr hs hb=>?_;exact k φ _ _ (Ext.refl _) (st.upd (tk:=tk) ho (by simp) ea (fun b ob hb e=>hs b ob hb e) (.inr ⟨_,g,⟨rfl,rfl,rfl⟩,xs',k',rfl,hr⟩)) hb
theorem At.keepsT{β:Type}{R:List Addr->V->β->Prop}{t:Sem β}{v:V}(st:StL Λ φ s r)
  (h:∀ (Q:β->Shared->Prop) (E:Value->Shared->Prop),(∀ b h' tk,(∀ b o,r.heap.get? b=some o->h'.get? b=some o)->R φ v b->Q b {r with heap:=h',toks:=tk})->wpAny (model Λ.prog Λ.G.w) Λ.A t Q E r):At Λ φ s r R (Pure.pure v) t:=
 At.done rfl fun Q E k=>h Q E fun b h' tk hk hb=>k φ _ _ (Ext.refl _) (st.keeps (tk:=tk) (d:=r.drawn) hk) hb
theorem len_S{a:V}{x:Value}(ha:VR φ₀ a x):Sim Λ φ₀ VR (lenM a >>=fun i=>Pure.pure (.int i)) (call (.builtin "len") [x]):=by
 refine Sim.of_at fun φ s r ex st=>?_;have ha:=ha.mono ex;have big:∀ {n:Nat},n<=100000->(n:Int) < 2 ^ 63:=fun h=>by omega
 cases a with
 | str y=>
  obtain ⟨t,rfl⟩:=ha;show At Λ φ s r VR ((Mine.need _ >>=fun _=>Pure.pure (y.length:Int)) >>=_) _;by_cases hn:y.length<=100000
  ·rw [decide_eq_true hn];exact At.pure (a:=V.int y.length) st fun Q E k=>PyProof.Rows.len_str (by have:=big hn;omega) (k _ _ ⟨_,rfl⟩)
  ·rw [decide_eq_false hn];exact ⟨fun _ _ _ nn _ _=>absurd rfl nn⟩
 | bytes y=>
  obtain ⟨t,rfl⟩:=ha;show At Λ φ s r VR ((Mine.need _ >>=fun _=>Pure.pure (y.size:Int)) >>=_) _;by_cases hn:y.size<=100000
  ·rw [decide_eq_true hn];exact At.pure (a:=V.int y.size) st fun Q E k=>len_bytes (by omega) (k _ _ ⟨_,rfl⟩)
  ·rw [decide_eq_false hn];exact ⟨fun _ _ _ nn _ _=>absurd rfl nn⟩
 | ref n=>
  obtain ⟨ax,eax,rfl⟩:=ha;have e:(lenM (.ref n) >>=fun i=>Pure.pure (V.int i))=(Mine.geto n >>=fun o=>(match o with | .list vs=>(Mine.need (decide (vs.length<=100000)) >>=fun _=>Pure.pure (vs.length:Int)) | _=>Mine.fail) >>=fun i=>Pure.pure (V.int i)):=by
   funext s;show M.bind (M.bind _ _) _ s=M.bind _ _ s;unfold M.bind;cases hg:Mine.geto n s with
   | none=>rfl
   | some p=>obtain ⟨_ | _,_⟩:=p <;> rfl
  rw [e];refine At.geto fun o ho=>?_;cases o with
  | list vs=>
   obtain ⟨xs,k,g,r1⟩:=st.lst ho eax;by_cases hn:vs.length<=100000
   ·show At Λ φ s r VR ((Mine.need (decide (vs.length<=100000)) >>=fun _=>Pure.pure (vs.length:Int)) >>=_) _;rw [decide_eq_true hn];refine At.pure (a:=V.int vs.length) st fun Q E kk=>call_len_list (io_ g) (by rw [List.size_toArray,<-r1.length];exact big hn) (kk _ _ ?_);rw [List.size_toArray,<-r1.length];exact ⟨_,rfl⟩
   ·show At Λ φ s r VR ((Mine.need (decide (vs.length<=100000)) >>=fun _=>Pure.pure (vs.length:Int)) >>=_) _;rw [decide_eq_false hn];exact ⟨fun _ _ _ nn _ _=>absurd rfl nn⟩
  | _=>exact ⟨fun _ _ _ nn _ _=>absurd rfl nn⟩
 | _=>exact ⟨fun _ _ _ nn _ _=>absurd rfl nn⟩
theorem sum_S(hh:Λ.A.handled=none){a:V}{x:Value}(ha:VR φ₀ a x):Sim Λ φ₀ VR (Mine.listAt a >>=fun vs=>Mine.opt (ic_ vs) >>=fun l=>Pure.pure (.int l.sum)) (call (.builtin "sum") [x]):=by
 refine Sim.of_at fun φ s r ex st=>At.listAt st (ha.mono ex) fun n vs ax xs k e1 h1 e2 eax g r1=>?_;subst e2;refine At.opt fun l hl=>At.keepsT st fun Q E kk=>?_;have hi:=intsOf_are hl r1;obtain ⟨ys,hx⟩:=hi.allInts.items;have hn:numsOf xs.toArray.toList=l:=by rw [show xs.toArray.toList=xs from rfl,hi.numsOf]
 have hl':=io_ g;rw [hx] at hl' hn;rw [nums_intItems] at hn;refine sum_intListG hh hl' fun h' tk t' hk=>kk _ h' tk hk ?_;rw [preSum_eq,List.take_of_length_le (by simp),hn];exact ⟨_,rfl⟩
theorem all_S(hh:Λ.A.handled=none){a:V}{x:Value}(ha:VR φ₀ a x):Sim Λ φ₀ VR (Mine.listAt a >>=fun vs=>Mine.opt (boolsOf vs) >>=fun l=>Pure.pure (.bool (l.all fun b=>b))) (call (.builtin "all") [x]):=by
 refine Sim.of_at fun φ s r ex st=>At.listAt st (ha.mono ex) fun n vs ax xs k e1 h1 e2 eax g r1=>?_;subst e2;refine At.opt fun bs hl=>At.keepsT st fun Q E kk=>?_;have hb:=boolsOf_are hl r1;have hl:=io_ g;have hlt:ax < r.heap.objs.size:=Heap.lt_size g;refine call_all_walk (wpAny_pyIter_list hl ?_);refine ⟨r.heap.objs.size,[r.heap.objs.size,ax],[r.heap.objs.size],xs.toArray.size,_,_,fun i=>(bs[i]?).getD true,rfl,Walks.list (A:=Λ.A.in1) hh _ ax (Nat.ne_of_lt hlt) xs.toArray,
  ⟨⟨_,Heap.get?_push_size _ rfl,rfl,rfl⟩,hl.push _⟩,fun i v s' Q' E' hP hQ=>?_,fun h' tk hk=>?_⟩
 ·obtain ⟨b,e,rfl⟩:=hb.get i v (by simpa using hP);simp only [e,Option.getD_some] at hQ;exact wpAny_truthy_bool hQ
 ·have e:((List.range xs.toArray.size).all fun i=>(bs[i]?).getD true)=bs.all id:=by
   rw [List.size_toArray,hb.length];exact range_all bs
  rw [e];exact kk _ h' tk (kept_iter hk) rfl
theorem max_S(hh:Λ.A.handled=none){x y:Int}{u v:Value}(hu:VR φ₀ (.int x) u)(hv:VR φ₀ (.int y) v):Sim Λ φ₀ VR (Pure.pure (.int (max x y))) (call (.builtin "max") [u,v]):=by
 refine Sim.of_at fun φ s r ex st=>At.keepsT st fun Q E kk=>?_;obtain ⟨t,rfl⟩:=hu;obtain ⟨w,rfl⟩:=hv;refine max_two_ints hh fun h' tk hk=>kk _ h' tk hk ?_;by_cases c:y > x
 ·rw [if_pos c,show max x y=y by omega];exact ⟨_,rfl⟩
 ·rw [if_neg c,show max x y=x by omega];exact ⟨_,rfl⟩
theorem append_S{n:Nat}{a v:Value}{u:V}(ha:VR φ₀ (.ref n) a)(hu:VR φ₀ u v):Sim Λ φ₀ VR (cd_ "list.append" [.ref n,u]) (call (.builtin "list.append") [a,v]):=by
 refine Sim.of_at fun φ s r ex st=>?_;obtain ⟨ax,eax,rfl⟩:=ha.mono ex;have hu:=hu.mono ex;show At Λ φ s r VR (Mine.geto n >>=fun o=>_) _;refine At.geto fun o ho=>?_;cases o with
 | list vs=>
  refine At.need fun hn=>?_;have hn:=of_decide_eq_true hn;obtain ⟨xs,k,g,r1⟩:=st.lst ho eax;refine At.listSet (vs':=vs++ [u]) st ho eax fun Q E kk=>append_at g (fun h' hs hg=>kk _ h' r.toks (xs++ [v]) (k+1) (by simpa using hg) (r1.append ⟨hu,trivial⟩) hs.extBut rfl) ?_;rw [List.size_toArray,<-r1.length];have:=sb_;omega
 | _=>exact At.fail
theorem insert_S{n:Nat}{a v z:Value}{u:V}(ha:VR φ₀ (.ref n) a)(hz:VR φ₀ (.int 0) z)(hu:VR φ₀ u v):Sim Λ φ₀ VR (cd_ "list.insert" [.ref n,.int 0,u]) (call (.builtin "list.insert") [a,z,v]):=by
 refine Sim.of_at fun φ s r ex st=>?_;obtain ⟨ax,eax,rfl⟩:=ha.mono ex;obtain ⟨tz,rfl⟩:=hz;have hu:=hu.mono ex;show At Λ φ s r VR (Mine.geto n >>=fun o=>_) _;refine At.geto fun o ho=>?_;cases o with
 | list vs=>
  refine At.need fun hn=>?_;have hn:=of_decide_eq_true hn;obtain ⟨xs,k,g,r1⟩:=st.lst ho eax;refine At.listSet (vs':=u::vs) st ho eax fun Q E kk=>?_;refine call_meets PySem.F.slot_list_insert ⟨_,g,rfl⟩ PySem.F.entry_list_insert (PySem.F.args_list_insert_3 _ _ _) (PySem.AutoSeq1.list_insert_list_int_val_1 ax _ k 0 tz v (by decide) (by rw [List.size_toArray,<-r1.length];have:=sb_;omega)) ⟨g,?_⟩;refine kk _ _ r.toks (v::xs) (k+1) ((PySem.IsL.update g _).trans ?_) ⟨hu,r1⟩ (Heap.SameBut.update ..).extBut rfl;simp
 | _=>exact At.fail
theorem pop_S{n:Nat}{a z:Value}(ha:VR φ₀ (.ref n) a)(hz:VR φ₀ (.int 0) z):Sim Λ φ₀ VR (cd_ "list.pop" [.ref n,.int 0]) (call (.builtin "list.pop") [a,z]):=by
 refine Sim.of_at fun φ s r ex st=>?_;obtain ⟨ax,eax,rfl⟩:=ha.mono ex;obtain ⟨tz,rfl⟩:=hz;show At Λ φ s r VR (Mine.geto n >>=fun o=>_) _;refine At.geto fun o ho=>?_;split
 ·rename_i v vs;refine At.need fun hn=>?_;have hn:=of_decide_eq_true hn;obtain ⟨xs,k,g,r1⟩:=st.lst ho eax;cases xs with
  | nil=>exact r1.elim
  | cons x xs=>
   obtain ⟨rx,r1⟩:=r1;refine At.listSet (vs':=vs) st ho eax fun Q E kk=>?_;have hsz:xs.length<=100000:=by rw [<-r1.length];exact hn
   refine call_meets PySem.F.slot_list_pop ⟨_,g,rfl⟩ PySem.F.entry_list_pop (PySem.F.args_list_pop_2 _ _) (PySem.MeetsSeq.list_pop_at ax _ k 0 tz 0 x (by decide) ?_ (by simp) ?_) ⟨g,?_⟩
   ·unfold seqIndex?;simp
   ·rw [List.size_toArray];have:(200000:Nat)<=sizeLine:=by decide+kernel
    simp;omega
   ·refine kk _ _ r.toks xs (k+1) ((PySem.IsL.update g _).trans ?_) r1 (Heap.SameBut.update ..).extBut rx;simp [Array.eraseIdxIfInBounds]
 ·exact At.fail
theorem get_S{n:Nat}{a y:Value}{b:V}(ha:VR φ₀ (.ref n) a)(hb:VR φ₀ b y):Sim Λ φ₀ VR (cd_ "dict.get" [.ref n,b]) (call (.builtin "dict.get") [a,y]):=by
 refine Sim.of_at fun φ s r ex st=>?_;obtain ⟨ax,eax,rfl⟩:=ha.mono ex;have hb:=hb.mono ex;show At Λ φ s r VR (Mine.geto n >>=fun o=>_) _;refine At.geto fun o ho=>?_;cases o with
 | dict es ep=>
  refine At.need fun hn=>?_;rw [Bool.and_eq_true] at hn;refine At.dict hn.1 fun T _ c k hk=>At.pure st fun Q E kk=>?_;subst hk;obtain ⟨ob1,g1,x1,⟨xs,d1,r1⟩,nd⟩:=st.at ho (by simp) eax;have hf:=es_findBy c hn.2 r1 k;refine call_meetsIn PySem.F.slot_dict_get ⟨ob1,g1,x1.1⟩ PySem.F.entry_dict_get (PySem.F.args_dict_get_2 _ _) (meets_dict_get c.knd ax (c.val φ k y hb) (st.ne_mods eax)) ⟨fun k=>findBy c.knd.is xs.toArray k,⟨ob1,xs.toArray,_,g1,x1,d1,ek_ c hn.2 r1,fun _=>rfl⟩,?_⟩;refine kk _ _ ?_;dsimp only;cases h1:f_ (c.enc k) es <;> cases h2:findBy c.knd.is xs.toArray k <;> rw [h1,h2] at hf
  ·exact (rfl:Value.none=Value.none)
  ·exact hf.elim
  ·exact hf.elim
  ·exact hf
 | _=>exact At.fail
theorem dpop_S{n:Nat}{a y:Value}{b:V}(ha:VR φ₀ (.ref n) a)(hb:VR φ₀ b y):Sim Λ φ₀ VR (cd_ "dict.pop" [.ref n,b]) (call (.builtin "dict.pop") [a,y]):=by
 refine Sim.of_at fun φ s r ex st=>?_;obtain ⟨ax,eax,rfl⟩:=ha.mono ex;have hb:=hb.mono ex;show At Λ φ s r VR (Mine.geto n >>=fun o=>_) _;refine At.geto fun o ho=>?_;cases o with
 | dict es ep=>
  refine At.need fun hn=>?_;simp only [Bool.and_eq_true] at hn;obtain ⟨hn,hz⟩:=hn;refine At.opt fun v hv=>?_;refine At.dict hn.1 fun T _ c k hk=>?_;subst hk;have hlen:=(List.getElem?_eq_some_iff.mp ho).1;obtain ⟨ob1,g1,x1,⟨xs,d1,r1⟩,nd⟩:=st.at ho (by simp) eax;refine At.done (a:=v) (s':={s with h:=s.h.set n (.dict (da_ (c.enc k) es) (ep+1))}) (by rw [bo_ (s₁:={s with h:=s.h.set n (.dict (da_ (c.enc k) es) (ep+1))}) (a:=()) (by unfold seto;rw [if_pos hlen])];rfl) fun Q E kk=>?_;have hf:=es_findBy c hn.2 r1 k;rw [hv] at hf;cases h2:findBy c.knd.is xs.toArray k with
  | none=>rw [h2] at hf;exact hf.elim
  | some u=>
   rw [h2] at hf;have hT:r.TypeIs (.ref ax) "dict":=⟨ob1,g1,x1.1⟩;have hkp:(keyPart y).isSome=true:=by
    rcases kind_of hn.1 with ⟨i,e⟩ | ⟨i,e⟩
    ·rw [e] at hb;obtain ⟨t,rfl⟩:=hb;rfl
    ·rw [e] at hb;obtain ⟨t,rfl⟩:=hb;rfl
   refine call_meetsIn PySem.F.slot_dict_pop hT PySem.F.entry_dict_pop (PySem.F.args_dict_pop_2 _ _) (meets_pop_exact (c.val φ k y hb) hkp) ⟨ob1,xs,ep,u,g1,x1,d1,ek_ c hn.2 r1,h2,small_es r1 hz,fun h' o' tk h1 h2 h3 h4=>?_⟩;exact kk φ _ _ (Ext.refl φ) (st.upd (tk:=tk) ho (by simp) eax (fun b ob hb e=>h4.extBut b ob hb e) (.inr ⟨o',h1,h2,⟨_,h3,es_drop c hn.2 r1⟩,dropK_nodup nd⟩)) hf
 | _=>exact At.fail
theorem sjoin_S{x:Str}{b:V}{u y:Value}(hu:VR φ₀ (.str x) u)(hb:VR φ₀ b y):Sim Λ φ₀ VR (cd_ "str.join" [.str x,b]) (call (.builtin "str.join") [u,y]):=by
 refine Sim.of_at fun φ s r ex st=>?_;obtain ⟨t,rfl⟩:=hu;show At Λ φ s r VR (Mine.listAt b >>=fun vs=>Mine.opt (strsOf vs) >>=fun l=>Mine.need (decide _) >>=fun _=>Pure.pure (.str (Txt.join x l))) _;refine At.listAt st (hb.mono ex) fun n vs ax xs k e1 h1 e2 eax g r1=>?_;subst e2;refine At.opt fun l hl=>At.need fun hn=>At.pure st fun Q E kk=>?_;obtain ⟨hn1,hn2⟩:=of_decide_eq_true hn;exact join_listW (io_ g) (by simpa using strsOf_are hl r1) hn1 hn2 fun t' k=>kk _ k ⟨_,rfl⟩
theorem split_at{prog:Program}{w:World}{A:Around}{E:Value->Shared->Prop}{s:Shared}{x y:Str}{t u:Tok}{Q:Value->Shared->Prop}(hy:(y.length==0)=false)
  (h:∀ l k,l.map (·.1)=Txt.split x y->Q (.ref s.heap.objs.size) {s with heap:=s.heap.push {cls:= .type "list",data:= .seq (strValues l).toArray},toks:=k})
  (hsz:x.length+2<=sizeLine):wpAny (model prog w) A (call (.builtin "str.split") [.str x t,.str y u]) Q E s:=by
 have hn:(Builtin.Str.partsBetween x (Builtin.Str.occurrences x y 0 x.length (x.length+1)) y.length).length<=sizeLine:=by
  have e1:=StrLaws.occ_length_le x y 0 x.length (x.length+1);rw [length_partsBetween];omega
 cases h1:(decide (x.length < y.length) || decide (Builtin.Str.strKind x < Builtin.Str.strKind y))
 ·cases hf:(Builtin.Str.occurrences x y 0 x.length (x.length+1)).isEmpty
  ·refine call_meets F.slot_str_split (typeIs_str _ _ _) F.entry_str_split (F.args_str_split_2 _ _) (meets_str_split_sep x y t u h1 hy hf (by omega) hn) ?_;show wants Q E _ {s with toks:=_,heap:=s.heap.push {cls:= .type "list",data:= .seq (strsFrom s.toks (Builtin.Str.partsBetween x (Builtin.Str.occurrences x y 0 x.length (x.length+1)) y.length)).toArray}};rw [strsFrom_eq];exact h (numbered s.toks _) _ ((numbered_texts _ _).trans ((if_neg (ne_true_of_eq_false h1)).trans (if_neg (ne_true_of_eq_false hf))).symm)
  ·exact call_meets F.slot_str_split (typeIs_str _ _ _) F.entry_str_split (F.args_str_split_2 _ _) (meets_str_split_not_found x y t u h1 hy hf)
    (h [(x,t)] s.toks ((if_neg (ne_true_of_eq_false h1)).trans (if_pos hf)).symm)
 ·exact call_meets F.slot_str_split (typeIs_str _ _ _) F.entry_str_split (F.args_str_split_2 _ _) (meets_str_split_cannot_occur x y t u h1)
   (h [(x,t)] s.toks (if_pos h1).symm)
theorem At.newV{β:Type}{R:List Addr->V->β->Prop}{t:Sem β}(st:StL Λ φ s r)(o:O)(ob:Obj)(b:β)(tk:Tok)(hf:ob.isFreed=false)(hr:OR Λ.G.w (φ++ [r.heap.objs.size]) o ob)(hR:R (φ++ [r.heap.objs.size]) (.ref s.h.length) b)
  (h:∀ (Q:β->Shared->Prop) (E:Value->Shared->Prop),Q b {r with heap:=r.heap.push ob,toks:=tk}->wpAny (model Λ.prog Λ.G.w) Λ.A t Q E r) (hl:∀ b sc ce,o≠O.lam b sc ce:=by intro _ _ _ h;first | cases h | (unfold putD at h;cases h)):At Λ φ s r R (alloc o >>=fun n=>Pure.pure (V.ref n)) t:=
 At.done (a:= .ref s.h.length) (s':={s with h:=s.h++ [o]}) rfl fun Q E k=>h Q E (k _ _ _ (Ext.one _ _) (st.alloc (tk:=tk) (fun b o e=>Heap.get?_push_of_some _ e) Heap.fresh_none (Heap.get?_push_size _ hf) hr (Nat.ne_of_gt st.big) hl) hR)
theorem split_S{x y:Str}{u v:Value}(hu:VR φ₀ (.str x) u)(hv:VR φ₀ (.str y) v):Sim Λ φ₀ VR (cd_ "str.split" [.str x,.str y]) (call (.builtin "str.split") [u,v]):=by
 refine Sim.of_at fun φ s r ex st=>?_;obtain ⟨t,rfl⟩:=hu;obtain ⟨t',rfl⟩:=hv;show At Λ φ s r VR (Mine.need (decide _) >>=fun _=>alloc (.list ((Txt.split x y).map V.str)) >>=fun n=>Pure.pure (V.ref n)) _;refine At.need fun hn=>?_;obtain ⟨hn1,hn2⟩:=of_decide_eq_true hn;refine At.done (a:= .ref s.h.length) (s':={s with h:=s.h++ [.list ((Txt.split x y).map V.str)]}) rfl fun Q E k=>?_;refine split_at (by simpa using Nat.ne_of_gt hn1) (fun l tk hl=>?_) (Nat.le_trans (show x.length+2<=200000 by omega) (by decide+kernel));refine k _ _ _ (Ext.one _ _) (st.alloc (tk:=tk) (fun b o e=>Heap.get?_push_of_some _ e) Heap.fresh_none (Heap.get?_push_size _ rfl) ⟨⟨rfl,rfl,rfl⟩,_,0,rfl,?_⟩ (Nat.ne_of_gt st.big)) (nr_ st);rw [<-hl];exact strValues_R l
end
end
section
open PyProof.Rows.LSm
set_option maxHeartbeats 2000000
section
variable {α:Type} {lt:α->α->Bool}
theorem insBy_perm(x:α):∀ l:List α,(ib_ lt x l).Perm (x::l)
 | []=> .refl _
 | y::r=>by
  unfold ib_;split
  ·exact ((insBy_perm x r).cons y).trans (.swap x y r)
  ·exact .refl _
theorem sq_:∀ l:List α,(sa_ lt l).Perm l
 | []=> .refl _
 | x::r=>(insBy_perm x _).trans ((sq_ r).cons x)
theorem insBy_sorted(asym:∀ a b,lt a b=true->lt b a=false)(tr:∀ a b c,lt b a=false->lt c b=false->lt c a=false)(x:α):∀ {l:List α},l.Pairwise (fun a b=>lt b a=false)->(ib_ lt x l).Pairwise fun a b=>lt b a=false
 | [],_=>by simp [ib_]
 | y::r,h=>by
  obtain ⟨h1,h2⟩:=List.pairwise_cons.mp h;unfold ib_;split
  ·rename_i hx;refine List.pairwise_cons.mpr ⟨fun z hz=>?_,insBy_sorted asym tr x h2⟩;rcases List.mem_cons.mp ((insBy_perm x r).mem_iff.mp hz) with rfl | hz
   ·exact asym _ _ hx
   ·exact h1 z hz
  ·rename_i hx;have hx:lt y x=false:=by simpa using hx
   refine List.pairwise_cons.mpr ⟨fun z hz=>?_,h⟩;rcases List.mem_cons.mp hz with rfl | hz
   ·exact hx
   ·exact tr x y z hx (h1 z hz)
theorem ss_(asym:∀ a b,lt a b=true->lt b a=false)(tr:∀ a b c,lt b a=false->lt c b=false->lt c a=false):∀ l:List α,(sa_ lt l).Pairwise fun a b=>lt b a=false
 | []=> .nil
 | x::r=>insBy_sorted asym tr x (ss_ asym tr r)
theorem sortBy_unique(asym:∀ a b,lt a b=true->lt b a=false)(tr:∀ a b c,lt b a=false->lt c b=false->lt c a=false)(tot:∀ a b,lt a b=false->lt b a=false->a=b){l l':List α}(hp:l'.Perm l)(hs:l'.Pairwise fun a b=>lt b a=false):l'=sa_ lt l:=
 List.Perm.eq_of_pairwise (le:=fun a b=>lt b a=false) (fun a b _ _ h1 h2=>tot a b h2 h1) hs (ss_ asym tr l) (hp.trans (sq_ l).symm)
end
theorem sj_(a b:Str)(h:sd_ a b=true):sd_ b a=false:=by
 unfold sd_ at*;simp only [decide_eq_true_eq,decide_eq_false_iff_not] at*;exact List.lt_asymm h
theorem strLt_tr(a b c:Str)(h1:sd_ b a=false)(h2:sd_ c b=false):sd_ c a=false:=by
 unfold sd_ at*;simp only [decide_eq_false_iff_not,List.not_lt] at*;exact List.le_trans h1 h2
theorem strLt_tot(a b:Str)(h1:sd_ a b=false)(h2:sd_ b a=false):a=b:=by
 unfold sd_ at*;simp only [decide_eq_false_iff_not,List.not_lt] at*;have:=List.le_antisymm h2 h1;obtain ⟨a⟩:=a;obtain ⟨b⟩:=b;have e:a.toList=b.toList:=this;rw [Array.toList_inj.mp e]
theorem sortInt_unique{l l':List Int}(hp:l'.Perm l)(hs:l'.Pairwise (· <= ·)):l'=sa_ (fun a b=>decide (a < b)) l:=by
 refine sortBy_unique (fun a b h=>?_) (fun a b c h1 h2=>?_) (fun a b h1 h2=>?_) hp (hs.imp fun h=>?_) <;> simp only [decide_eq_true_eq,decide_eq_false_iff_not] at* <;> omega
theorem po_:∀ (p:Str) (l:List Str),risingS p l=true->(p::l).Pairwise fun a b=>sd_ b a=false
 | p,[],_=>by simp
 | p,x::r,h=>by
  have h':(!ltCps x.cps.toList p.cps.toList && risingS x r)=true:=h;rw [Bool.and_eq_true,Bool.not_eq_true'] at h';have ih:=po_ x r h'.2;have hx:sd_ x p=false:=by unfold sd_;rw [<-ltCps_eq];exact h'.1
  refine List.pairwise_cons.mpr ⟨fun z hz=>?_,ih⟩;rcases List.mem_cons.mp hz with rfl | hz
  ·exact hx
  ·exact strLt_tr p x z hx ((List.pairwise_cons.mp ih).1 z hz)
theorem sortStr_unique{l l':List Str}(hp:l'.Perm l)(hs:sortedS l'=true):l'=sa_ sd_ l:=by
 refine sortBy_unique sj_ strLt_tr strLt_tot hp ?_;cases l' with
 | nil=>exact .nil
 | cons x r=>exact po_ x r hs
theorem ints_R{φ:List Addr}:∀ {xs:List Value} {l:List Int},IntsAre xs l->VsR φ (l.map V.int) xs
 | _,_,.nil=>trivial
 | _,_,.cons _ t h=>⟨⟨t,rfl⟩,ints_R h⟩
theorem strs_R{φ:List Addr}:∀ {xs:List Value} {l:List Str},StrsAre xs l->VsR φ (l.map V.str) xs
 | _,_,.nil=>trivial
 | _,_,.cons _ t h=>⟨⟨t,rfl⟩,strs_R h⟩
section
variable {prog:Program} {w:World} {A:Around} {E:Value->Shared->Prop} {s:Shared}
theorem list_sort_strs{a:Addr}{vs:List Value}{ss:List Str}{n:Nat}{P:PySem.Fin->Shared->Prop}(ho:s.heap.get? a=some (seqObj "list" vs.toArray n))(hS:StrsAre vs ss)(h64:vs.length < 64)
  (h:∀ (out:Array Value) (ss':List Str),StrsAre out.toList ss'->ss'.Perm ss->sortedS ss'=true->P (.done (.ret .none)) {s with heap:=sortedHeap s.heap a vs out}):
  wpAny (model prog w) A (Builtin.«list.sort» ⟨[.ref a],[]⟩) P E s:=by
 refine list_sort_treeK strKind_oneLt ho hS.keysOf (fun v₁ v₂ rest e=>keyKind_strs (by rw [<-e];exact hS)) h64 fun st' hp hs=>?_;obtain ⟨ss',h1,h2,h3⟩:=sorted_out_str hS hp hs;exact h _ ss' h1 h2 h3
theorem sorted_dict{K:Type} [DecidableEq K]{knd:KeyKind prog w K}{d:Addr}{kvs:List (K×Value)}{ep:Nat}{Q:Value->Shared->Prop}(hh:A.handled=none)(lo:(d==sysModules)=false)(hm:s.heap.DictAt knd d kvs ep)(hn:kvs.length < 64)
  (h:∀ (h':Heap) (tk:Nat) (vs:List Value),(∀ b o,s.heap.get? b=some o->h'.get? b=some o)->vs.length=kvs.length->(∀ (j:Nat) (v:Value),vs[j]? =some v->∃ k x,kvs[j]? =some (k,x)/\knd.is k v=true)->
   wpAny (model prog w) A.in1.in1 (Builtin.«list.sort» ⟨[.ref h'.objs.size],[]⟩) (fun fin s'=>fin= .done (.ret .none)/\Q (.ref h'.objs.size) s') (fun _ _=>False) {s with heap:=h'.push (seqObj "list" vs.toArray 0),toks:=tk}):
  wpAny (model prog w) A (call (.builtin "sorted") [.ref d]) Q E s:=by
 refine call_function_entry kind_sorted plain_sorted entry_sorted (args_sorted1 _) ?_;unfold Builtin.«sorted»;refine wpAny_bind (m:=checkCount "sorted" 1 1 _) (wpAny_pure ?_);have hsz:kvs.length<=sizeLine:=Nat.le_trans (Nat.le_of_lt hn) (Nat.le_trans (by decide) sb_);refine wpAny_bind (kdu_collect (A:=A.in1) (kdl_dict (knd:=knd) (kvs:=kvs) (ep:=ep) lo) hh hm hsz fun h' tk acc hk hacc=>?_);have hl:acc.toList.length=kvs.length:=by rw [Array.length_toList];exact hacc.1
 refine wpAny_bind (wpAny_newList ?_ (by rw [hl];exact hsz));have hg:=h h' tk acc.toList hk hl (fun j v e=>hacc.2 j v (by rw [<-Array.getElem?_toList];exact e));refine wpAny_bind (wpAny_holding (wpAny_call_entry slot_list_sort ⟨_,Heap.get?_push_size _ rfl,rfl⟩ entry_list_sort (wpAny_mono hg (fun fin s' x=>?_) fun _ _ e=>e.elim) (args_list_sort _)));obtain ⟨rfl,hq⟩:=x;exact ⟨_,rfl,wpAny_pure ⟨_,rfl,hq⟩⟩
end
theorem sortedHeap_new{h h':Heap}(hk:∀ b o,h.get? b=some o->h'.get? b=some o)(vs:List Value)(out:Array Value):
  (∀ b o,h.get? b=some o->(sortedHeap (h'.push (seqObj "list" vs.toArray 0)) h'.objs.size vs out).get? b=some o)/\∃ e,(sortedHeap (h'.push (seqObj "list" vs.toArray 0)) h'.objs.size vs out).get? h'.objs.size=some (seqObj "list" out e):=by
 refine ⟨fun b o e=>?_,sortedHeap_at (n:=0) (Heap.get?_push_size _ rfl)⟩;have e':=hk b o e;have hlt:=Heap.lt_size e';rw [sortedHeap_old (Nat.ne_of_lt hlt) (by rw [size_push'];exact Nat.lt_succ_of_lt hlt)];exact Heap.get?_push_of_some _ e'
section
variable {Λ:Lev} {φ φ₀:List Addr} {K:Frag} {s:S} {r:Shared}
theorem At.newList{β:Type}{R:List Addr->V->β->Prop}{t:Sem β}(st:StL Λ φ s r)(vs:List V)
  (h:∀ (Q:β->Shared->Prop) (E:Value->Shared->Prop),(∀ D b h' tk xs e,(∀ b o,r.heap.get? b=some o->h'.get? b=some o)->r.heap.get? D=none->D≠sysModules->h'.get? D=some {cls:= .type "list",data:= .seq (List.toArray xs) e}->VsR φ vs xs->((φ++ [D])[s.h.length]? =some D->R (φ++ [D]) (.ref s.h.length) b)->Q b {r with heap:=h',toks:=tk})->wpAny (model Λ.prog Λ.G.w) Λ.A t Q E r):
  At Λ φ s r R (alloc (.list vs) >>=fun n=>Pure.pure (V.ref n)) t:=
 At.done (a:= .ref s.h.length) (s':={s with h:=s.h++ [.list vs]}) rfl fun Q E k=>h Q E fun D b h' tk xs e hk hn h0 hD hr hb=>
  k _ _ _ (Ext.one _ _) (st.alloc (tk:=tk) hk hn hD ⟨⟨rfl,rfl,rfl⟩,xs,e,rfl,hr.mono (Ext.one _ _)⟩ h0) (hb (by rw [<-st.len];simp))
theorem none_size(h:Heap){n:Nat}(hn:h.objs.size<=n):h.get? n=none:=by
 cases e:h.get? n with
 | none=>rfl
 | some o=>exact absurd (Heap.lt_size e) (Nat.not_lt.mpr hn)
theorem St.past{G:Ground}{C:Addr}{kp:Kept}(x:St G C kp φ s r){h':Heap}(hk:∀ b o,r.heap.get? b=some o->h'.get? b=some o):r.heap.get? h'.objs.size=none/\h'.objs.size≠sysModules:=by
 constructor
 ·cases e:r.heap.get? h'.objs.size with
  | none=>rfl
  | some o=>exact absurd (Heap.lt_size (hk _ _ e)) (Nat.lt_irrefl _)
 ·obtain ⟨o,e⟩:=x.ns_some;exact Nat.ne_of_gt (Nat.lt_trans x.low.1 (Heap.lt_size (hk _ _ e)))
theorem sortV_keys{es:List (V×V)}{vs:List V}(h:sn_ (es.map (·.1))=some vs):(k_ (.int 0) es=true/\∃ l,es.map (·.1)=l.map V.int/\vs=(sa_ (fun a b=>decide (a < b)) l).map V.int)\/(k_ (.str ⟨#[]⟩) es=true/\∃ l,es.map (·.1)=l.map V.str/\vs=(sa_ sd_ l).map V.str):=by
 have hints:∀ (es:List (V×V)) (l:List Int),ic_ (es.map (·.1))=some l->k_ (.int 0) es=true/\es.map (·.1)=l.map V.int:=by
  intro es
  induction es with
  | nil=>intro l h;cases h;exact ⟨rfl,rfl⟩
  | cons e es ih=>
   intro l h;obtain ⟨k,v⟩:=e;cases k <;> simp only [List.map_cons,ic_] at h <;> try cases h
   obtain ⟨l',h',rfl⟩:=Option.map_eq_some_iff.mp h;obtain ⟨a,b⟩:=ih l' h';exact ⟨by rw [kc_,a];rfl,by simp [b]⟩
 have hstrs:∀ (es:List (V×V)) (l:List Str),strsOf (es.map (·.1))=some l->k_ (.str ⟨#[]⟩) es=true/\es.map (·.1)=l.map V.str:=by
  intro es
  induction es with
  | nil=>intro l h;cases h;exact ⟨rfl,rfl⟩
  | cons e es ih=>
   intro l h;obtain ⟨k,v⟩:=e;cases k <;> simp only [List.map_cons,strsOf] at h <;> try cases h
   obtain ⟨l',h',rfl⟩:=Option.map_eq_some_iff.mp h;obtain ⟨a,b⟩:=ih l' h';exact ⟨by rw [kc_,a];rfl,by simp [b]⟩
 unfold sn_ at h;split at h
 ·rename_i l hl;cases h;obtain ⟨a,b⟩:=hints es l hl;exact .inl ⟨a,l,b,rfl⟩
 ·split at h
  ·rename_i l hl;cases h;obtain ⟨a,b⟩:=hstrs es l hl;exact .inr ⟨a,l,b,rfl⟩
  ·cases h
theorem sortedL_S{vs us:List V}{xs:List Value}{ax:Addr}{k:Nat}(st:StL Λ φ s r)(hv:sn_ vs=some us)(hz:vs.length < 64)(g:r.heap.get? ax=some {cls:= .type "list",data:= .seq (List.toArray xs) k})(r1:VsR φ vs xs):
  At Λ φ s r VR (alloc (.list us) >>=fun n=>Pure.pure (V.ref n)) (call (.builtin "sorted") [.ref ax]):=by
 refine At.newList st us fun Q E kk=>?_;have hz':xs.length < 64:=by rw [<-r1.length];exact hz
 have hD:r.heap.get? (r.heap.objs.size+1)=none:=none_size _ (Nat.le_succ _);have h0:r.heap.objs.size+1≠sysModules:=Nat.ne_of_gt (Nat.lt_succ_of_lt st.big);unfold sn_ at hv;split at hv
 ·rename_i l hl;cases hv;refine sorted_ints (io_ g) (intsOf_are hl r1) hz' fun out ns' a1 a2 a3=>?_;obtain ⟨e,he⟩:=sortedAll_at r.heap xs out;refine kk (r.heap.objs.size+1) _ _ r.toks out.toList e (fun b o e=>sortedAll_old e) hD h0 (by simpa using he) ?_ fun hf=>⟨_,hf,rfl⟩;rw [<-sortInt_unique a2 a3];exact ints_R a1
 ·split at hv
  ·rename_i l hl;cases hv;refine sorted_strs (io_ g) (strsOf_are hl r1) hz' fun out ns' a1 a2 a3=>?_;obtain ⟨e,he⟩:=sortedAll_at r.heap xs out;refine kk (r.heap.objs.size+1) _ _ r.toks out.toList e (fun b o e=>sortedAll_old e) hD h0 (by simpa using he) ?_ fun hf=>⟨_,hf,rfl⟩;rw [<-sortStr_unique a2 a3];exact strs_R a1
  ·cases hv
theorem are_ints{xs:List Value}{kvs:List (Int×Value)}{l:List Int}(hl:kvs.map (·.1)=l)(h1:xs.length=kvs.length)(h2:∀ (j:Nat) (v:Value),xs[j]? =some v->∃ k x,kvs[j]? =some (k,x)/\Value.isInt k v=true):IntsAre xs l:=by
 induction xs generalizing kvs l with
 | nil=>cases kvs with
  | nil=>cases hl;exact .nil
  | cons _ _=>cases h1
 | cons x xs ih=>cases kvs with
  | nil=>cases h1
  | cons p kvs=>
   cases hl;obtain ⟨k,y,e,hk⟩:=h2 0 x rfl;cases e;obtain ⟨t,rfl⟩:=Value.isInt_shape hk;exact .cons _ t (ih rfl (by simpa using h1) fun j v e=>by simpa using h2 (j+1) v (by simpa using e))
theorem are_strs{xs:List Value}{kvs:List (Str×Value)}{l:List Str}(hl:kvs.map (·.1)=l)(h1:xs.length=kvs.length)(h2:∀ (j:Nat) (v:Value),xs[j]? =some v->∃ k x,kvs[j]? =some (k,x)/\Value.isStrOf k v=true):StrsAre xs l:=by
 induction xs generalizing kvs l with
 | nil=>cases kvs with
  | nil=>cases hl;exact .nil
  | cons _ _=>cases h1
 | cons x xs ih=>cases kvs with
  | nil=>cases h1
  | cons p kvs=>
   cases hl;obtain ⟨k,y,e,hk⟩:=h2 0 x rfl;cases e;obtain ⟨t,rfl⟩:=Value.isStrOf_shape hk;exact .cons _ t (ih rfl (by simpa using h1) fun j v e=>by simpa using h2 (j+1) v (by simpa using e))
theorem sortedD_S(hh:Λ.A.handled=none){n ep:Nat}{es:List (V×V)}{us:List V}{ax:Addr}(st:StL Λ φ s r)(ho:s.h[n]? =some (.dict es ep))(ea:φ[n]? =some ax)(hv:sn_ (es.map (·.1))=some us)(hz:es.length < 64):
  At Λ φ s r VR (alloc (.list us) >>=fun n=>Pure.pure (V.ref n)) (call (.builtin "sorted") [.ref ax]):=by
 refine At.newList st us fun Q E kk=>?_;obtain ⟨ob1,g1,x1,⟨xs,d1,r1⟩,nd⟩:=st.at ho (by simp) ea;have inj1:∀ a b:Int,V.int a=V.int b->a=b:=fun a b h=>by cases h;rfl
 have inj2:∀ a b:Str,V.str a=V.str b->a=b:=fun a b h=>by cases h;rfl
 have mapinj:∀ {α:Type} {f:α->V} (hf:∀ a b,f a=f b->a=b) {l l':List α},l.map f=l'.map f->l=l':=fun {_ _} hf {l l'} h=>(List.map_inj_right hf).mp h;rcases sortV_keys hv with ⟨hk,l,hl,rfl⟩ | ⟨hk,l,hl,rfl⟩
 ·have DA:=dictAt_of (encI Λ.prog Λ.G.w) (j:=0) g1 x1 d1 hk r1 nd;have kl:=kl_ (encI Λ.prog Λ.G.w) (j:=0) hk r1;have kk':=kk_ (encI Λ.prog Λ.G.w) (j:=0) hk r1;have hl':(kvsOf (encI Λ.prog Λ.G.w) es xs).map (·.1)=l:=by
   refine mapinj inj1 ?_;rw [<-hl,<-kk',List.map_map];rfl
  refine sorted_dict hh (st.ne_mods ea) DA (by rw [kl];exact hz) fun h' tk ys hkp h1 h2=>?_;refine list_sort_tree (n:=0) (Heap.get?_push_size _ rfl) (are_ints hl' h1 h2) (by rw [h1,kl];exact hz) fun out ns' a1 a2 a3=>⟨rfl,?_⟩;obtain ⟨q1,e,q2⟩:=sortedHeap_new hkp ys out;obtain ⟨hn0,hm0⟩:=st.past hkp;refine kk h'.objs.size _ _ tk out.toList e q1 hn0 hm0 (by simpa using q2) ?_ fun hf=>⟨_,hf,rfl⟩;rw [<-sortInt_unique a2 a3];exact ints_R a1
 ·have DA:=dictAt_of (encS Λ.prog Λ.G.w) (j:=⟨#[]⟩) g1 x1 d1 hk r1 nd;have kl:=kl_ (encS Λ.prog Λ.G.w) (j:=⟨#[]⟩) hk r1;have kk':=kk_ (encS Λ.prog Λ.G.w) (j:=⟨#[]⟩) hk r1;have hl':(kvsOf (encS Λ.prog Λ.G.w) es xs).map (·.1)=l:=by
   refine mapinj inj2 ?_;rw [<-hl,<-kk',List.map_map];rfl
  refine sorted_dict hh (st.ne_mods ea) DA (by rw [kl];exact hz) fun h' tk ys hkp h1 h2=>?_;refine list_sort_strs (n:=0) (Heap.get?_push_size _ rfl) (are_strs hl' h1 h2) (by rw [h1,kl];exact hz) fun out ns' a1 a2 a3=>⟨rfl,?_⟩;obtain ⟨q1,e,q2⟩:=sortedHeap_new hkp ys out;obtain ⟨hn0,hm0⟩:=st.past hkp;refine kk h'.objs.size _ _ tk out.toList e q1 hn0 hm0 (by simpa using q2) ?_ fun hf=>⟨_,hf,rfl⟩;rw [<-sortStr_unique a2 a3];exact strs_R a1
end
end
section
open PyProof.Rows.LSm
set_option maxHeartbeats 2000000
def runT{α:Type}(c:Nat->Nat->Bool):KasT α->α
 | .ret a=>a
 | .ask i j k=>runT c (k (c i j))
def AskOk{α:Type}(n:Nat)(P:α->Prop):KasT α->Prop
 | .ret a=>P a
 | .ask i j k=>i < n/\j < n/\∀ b,AskOk n P (k b)
theorem rb_{α β:Type}{c:Nat->Nat->Bool}{f:α->KasT β}:∀ t:KasT α,runT c (t.bind f)=runT c (f (runT c t))
 | .ret _=>rfl
 | .ask i j k=>rb_ (k (c i j))
theorem AskOk.bind{α β:Type}{n:Nat}{P:α->Prop}{P':β->Prop}{f:α->KasT β}(hf:∀ a,P a->AskOk n P' (f a)):∀ {t:KasT α},AskOk n P t->AskOk n P' (t.bind f)
 | .ret _,h=>hf _ h
 | .ask _ _ _,⟨h1,h2,h3⟩=>⟨h1,h2,fun b=>AskOk.bind hf (h3 b)⟩
theorem AskOk.run{α:Type}{n:Nat}{P:α->Prop}{c:Nat->Nat->Bool}{cmp:Nat->Nat->(Bool->Shared->Prop)->Shared->Prop}{Q:α->Shared->Prop}{s:Shared}(hc:∀ i j (C:Bool->Shared->Prop),i < n->j < n->C (c i j) s->cmp i j C s):∀ {t:KasT α},AskOk n P t->Q (runT c t) s->t.kasWp cmp Q s
 | .ret _,_,h=>h
 | .ask i j k,⟨h1,h2,h3⟩,h=>hc i j _ h1 h2 (AskOk.run hc (h3 _) h)
section
variable {n:Nat} {p:Array Nat}
def Bnd(n:Nat)(p:Array Nat):Prop:=∀ x∈p.toList,x < n
theorem Bnd.get(hn:0 < n)(h:Bnd n p)(i:Nat):p.getD i 0 < n:=by
 unfold Array.getD;split
 ·exact h _ (by simp)
 ·exact hn
theorem Bnd.perm{q:Array Nat}(h:Bnd n p)(e:q.Perm p):Bnd n q:=fun x hx=>h x ((Array.perm_iff_toList_perm.mp e).mem_iff.mp hx)
theorem Bnd.rev(h:Bnd n p)(i j:Nat):Bnd n (kas_rev p i j):=h.perm (mirror_perm _ _ _ _)
theorem Bnd.bub(h:Bnd n p)(i j:Nat):Bnd n (bubble p i j):=h.perm (bubble_perm _ _ _)
theorem ask_asc(hn:0 < n)(h:Bnd n p):∀ f a,AskOk n (fun _=>True) (kas_asc p f a)
 | 0,_=>trivial
 | f+1,a=>⟨h.get hn _,h.get hn _,fun b=>by dsimp only;split;exact trivial;exact ask_asc hn h f (a+1)⟩
theorem ask_desc(hn:0 < n):∀ f {p:Array Nat} a q,Bnd n p->AskOk n (fun r=>Bnd n r.1) (kas_desc f p a q)
 | 0,_,_,_,h=>h
 | f+1,p,a,q,h=>⟨h.get hn _,h.get hn _,fun b=>by
  dsimp only;split
  ·split
   ·exact ask_desc hn f _ _ (h.rev _ _)
   ·exact ask_desc hn f _ _ h
  ·refine ⟨h.get hn _,h.get hn _,fun d=>?_⟩;dsimp only;split
   ·exact h
   ·exact ask_desc hn f _ _ h⟩
theorem ask_tail(hn:0 < n)(h:Bnd n p)(a r:Nat):AskOk n (fun r=>Bnd n r.2) (kas_tail3 a r p):=by
 unfold kas_tail3;refine AskOk.bind (P:=fun _=>True) (P':=fun r:Nat×Array Nat=>Bnd n r.2) (f:=fun m=>KasT.ret (m,kas_rev p 0 a)) (fun _ _=>?_) (ask_asc hn (h.rev _ _) _ _);exact h.rev 0 a
theorem ask_descPart(hn:0 < n)(h:Bnd n p)(a r:Nat):AskOk n (fun r=>Bnd n r.2) (kas_descPart a r p):=(ask_desc hn _ _ _ h).bind fun x hx=>by
 split
 ·exact ask_tail hn (hx.rev _ _) _ _
 ·exact ask_tail hn hx _ _
theorem ask_count(hn:0 < n)(h:Bnd n p)(r:Nat):AskOk n (fun r=>Bnd n r.2) (kas_count r p):=(ask_asc hn h _ _).bind fun m _=>by
 split
 ·exact h
 ·split
  ·refine ⟨h.get hn _,h.get hn _,fun b=>?_⟩;dsimp only;split
   ·exact h
   ·exact ask_descPart hn (h.rev _ _) _ _
  ·exact ask_descPart hn h _ _
theorem ask_place(hn:0 < n)(h:Bnd n p)(k:Nat):∀ f l r,AskOk n (fun _=>True) (kas_place p k f l r)
 | 0,_,_=>trivial
 | f+1,l,r=>by
  unfold kas_place;split
  ·exact trivial
  ·refine ⟨h.get hn _,h.get hn _,fun b=>?_⟩;dsimp only;split
   ·exact ask_place hn h k f _ _
   ·exact ask_place hn h k f _ _
theorem ask_bin(hn:0 < n):∀ f {p:Array Nat} k,Bnd n p->AskOk n (fun r=>Bnd n r) (kas_bin f p k)
 | 0,_,_,h=>h
 | f+1,p,k,h=>(ask_place hn h k _ _ _).bind fun l _=>ask_bin hn f _ (h.bub _ _)
theorem ask_sort(hn:0 < n):AskOk n (fun r=>Bnd n r) (kas_sort n):=by
 refine (ask_count hn (p:=(List.range n).toArray) (fun x hx=>by simpa using hx) n).bind fun r hr=>?_;split
 ·exact ask_bin hn _ _ hr
 ·exact hr
end
structure Ord(n:Nat)(c:Nat->Nat->Bool):Prop where
 asym:∀ a b,a < n->b < n->c a b=true->c b a=false
 trans:∀ a b d,a < n->b < n->d < n->c a b=true->c b d=true->c a d=true
 total:∀ a b,a < n->b < n->a≠b->c a b=false->c b a=true
section
variable {n:Nat} {c:Nat->Nat->Bool} (O:Ord n c)
abbrev PG(p:Array Nat)(i:Nat):Nat:=p.getD i 0
structure Plc(n:Nat)(p:Array Nat):Prop where
 size:p.size=n
 perm:p.toList.Perm (List.range n)
variable {p:Array Nat}
theorem Plc.lt(h:Plc n p){i:Nat}(hi:i < n):PG p i < n:=by
 have hs:i < p.size:=by rw [h.size];exact hi
 unfold PG Array.getD;rw [dif_pos hs];exact List.mem_range.mp (h.perm.mem_iff.mp (by simp))
theorem Plc.inj(h:Plc n p){i j:Nat}(hi:i < n)(hj:j < n)(hij:i≠j):PG p i≠PG p j:=by
 have hs:i < p.size:=by rw [h.size];exact hi
 have ht:j < p.size:=by rw [h.size];exact hj
 have nd:p.toList.Nodup:=h.perm.nodup_iff.mpr List.nodup_range;unfold PG Array.getD;rw [dif_pos hs,dif_pos ht];intro e;refine hij ((List.getElem_inj (h₀:=by simpa using hs) (h₁:=by simpa using ht) nd).mp ?_);rw [Array.getElem_toList,Array.getElem_toList];exact e
theorem Plc.of_perm(h:Plc n p){q:Array Nat}(e:q.Perm p):Plc n q:=⟨e.size_eq.trans h.size,(Array.perm_iff_toList_perm.mp e).trans h.perm⟩
def Up(c:Nat->Nat->Bool)(p:Array Nat)(m:Nat):Prop:=∀ i j,i < j->j < m->c (PG p i) (PG p j)=true
def Down(c:Nat->Nat->Bool)(p:Array Nat)(m:Nat):Prop:=∀ i j,i < j->j < m->c (PG p j) (PG p i)=true
include O
theorem Up.succ(h:Plc n p){a:Nat}(ha:1<=a)(han:a < n)(u:Up c p a)(hc:c (PG p a) (PG p (a - 1))=false):Up c p (a+1):=by
 have h1:=O.total _ _ (h.lt han) (h.lt (by omega)) (h.inj han (by omega) (by omega)) hc;intro i j hij hj;by_cases e:j=a
 ·subst e;by_cases e2:i=j - 1
  ·subst e2;exact h1
  ·exact O.trans _ _ _ (h.lt (by omega)) (h.lt (by omega)) (h.lt han) (u i (j - 1) (by omega) (by omega)) h1
 ·exact u i j hij (by omega)
theorem Down.succ(h:Plc n p){a:Nat}(ha:1<=a)(han:a < n)(u:Down c p a)(hc:c (PG p a) (PG p (a - 1))=true):Down c p (a+1):=by
 intro i j hij hj;by_cases e:j=a
 ·subst e;by_cases e2:i=j - 1
  ·subst e2;exact hc
  ·exact O.trans _ _ _ (h.lt han) (h.lt (by omega)) (h.lt (by omega)) hc (u i (j - 1) (by omega) (by omega))
 ·exact u i j hij (by omega)
omit O in
theorem asc_step(f a:Nat):runT c (kas_asc p (f+1) a)=if c (PG p a) (PG p (a - 1))=true then a else runT c (kas_asc p f (a+1)):=by
 show runT c (if c (PG p a) (PG p (a - 1))=true then .ret a else kas_asc p f (a+1))=_;split <;> rfl
omit O in
theorem desc_step(f a q:Nat):runT c (kas_desc (f+1) p a q)=if c (PG p a) (PG p (a - 1))=true then (if q > 0 then runT c (kas_desc f (kas_rev p (a - (q+1)) a) (a+1) 0) else runT c (kas_desc f p (a+1) 0))
  else if c (PG p (a - 1)) (PG p a)=true then (p,a,q) else runT c (kas_desc f p (a+1) (q+1)):=by
 show runT c (if c (PG p a) (PG p (a - 1))=true then (if q > 0 then kas_desc f (kas_rev p (a - (q+1)) a) (a+1) 0 else kas_desc f p (a+1) 0) else .ask (PG p (a - 1)) (PG p a) fun d=>if d=true then .ret (p,a,q) else kas_desc f p (a+1) (q+1))=_;split
 ·split <;> rfl
 ·show runT c (if c (PG p (a - 1)) (PG p a)=true then .ret (p,a,q) else kas_desc f p (a+1) (q+1))=_;split <;> rfl
theorem asc_ok(h:Plc n p):∀ f a,1<=a->a+f<=n->Up c p a->a<=runT c (kas_asc p f a)/\runT c (kas_asc p f a)<=a+f/\Up c p (runT c (kas_asc p f a))/\(runT c (kas_asc p f a) < a+f->c (PG p (runT c (kas_asc p f a))) (PG p (runT c (kas_asc p f a) - 1))=true)
 | 0,a,_,_,u=>⟨Nat.le_refl _,Nat.le_refl _,u,fun h=>absurd h (Nat.lt_irrefl _)⟩
 | f+1,a,h1,h2,u=>by
  rw [asc_step];split
  ·rename_i hc;exact ⟨Nat.le_refl _,by omega,u,fun _=>hc⟩
  ·rename_i hc;have hc:c (PG p a) (PG p (a - 1))=false:=by simpa using hc
   obtain ⟨q1,q2,q3,q4⟩:=asc_ok h f (a+1) (by omega) (by omega) (Up.succ O h h1 (by omega) u hc);exact ⟨by omega,by omega,q3,fun hl=>q4 (by omega)⟩
theorem desc_ok(h:Plc n p):∀ f a,1<=a->a+f<=n->Down c p a->∃ m,runT c (kas_desc f p a 0)=(p,m,0)/\a<=m/\m<=a+f/\Down c p m
 | 0,a,_,_,u=>⟨a,rfl,Nat.le_refl _,Nat.le_refl _,u⟩
 | f+1,a,h1,h2,u=>by
  rw [desc_step];split
  ·rename_i hc;rw [if_neg (by omega)];obtain ⟨m,q1,q2,q3,q4⟩:=desc_ok h f (a+1) (by omega) (by omega) (Down.succ O h h1 (by omega) u hc);exact ⟨m,q1,by omega,by omega,q4⟩
  ·rename_i hc;have hc:c (PG p a) (PG p (a - 1))=false:=by simpa using hc
   rw [if_pos (O.total _ _ (h.lt (by omega)) (h.lt (by omega)) (h.inj (by omega) (by omega) (by omega)) hc)];exact ⟨a,rfl,Nat.le_refl _,by omega,u⟩
omit O in
theorem PG_rev{m:Nat}(hm:m<=p.size){i:Nat}(hi:i < m):PG (kas_rev p 0 m) i=PG p (m - 1 - i):=by
 have e:=getElem?_mirror_all (xs:=p) (i:=0) (j:=m) hm i;rw [if_pos ⟨Nat.zero_le _,hi⟩] at e;have e':(kas_rev p 0 m)[i]? =p[0+m - 1 - i]?:=e;have e2:0+m - 1 - i=m - 1 - i:=by omega
 rw [e2] at e';unfold PG;simp only [Array.getD_eq_getD_getElem?,e']
theorem tail_ok(h:Plc n p){m:Nat}(h1:1<=m)(hm:m<=n)(u:Down c p m):∃ k q,runT c (kas_tail3 m n p)=(k,q)/\Plc n q/\1<=k/\k<=n/\Up c q k:=by
 have hq:Plc n (kas_rev p 0 m):=h.of_perm (mirror_perm _ _ _ _);have uq:Up c (kas_rev p 0 m) m:=fun i j hij hj=>by
  rw [PG_rev (by rw [h.size];exact hm) (by omega),PG_rev (by rw [h.size];exact hm) hj];exact u _ _ (by omega) (by omega)
 obtain ⟨q1,q2,q3,_⟩:=asc_ok O hq (n - m) m h1 (by omega) uq;refine ⟨_,_,?_,hq,Nat.le_trans h1 q1,by omega,q3⟩;unfold kas_tail3;rw [rb_];rfl
theorem count_ok(h:Plc n p)(hn:1<=n):∃ k q,runT c (kas_count n p)=(k,q)/\Plc n q/\1<=k/\k<=n/\Up c q k:=by
 obtain ⟨q1,q2,q3,q4⟩:=asc_ok O h (n - 1) 1 (Nat.le_refl _) (by omega) (fun i j hij hj=>by omega);unfold kas_count;rw [rb_];generalize runT c (kas_asc p (n - 1) 1)=m at*;by_cases e:m=n
 ·subst e;rw [if_pos (by simp)];exact ⟨_,_,rfl,h,q1,Nat.le_refl _,q3⟩
 ·rw [if_neg (by simpa using e)];by_cases e1:m > 1
  ·rw [if_pos e1];simp only [runT];have:=q3 0 (m - 1) (by omega) (by omega);rw [if_pos this];exact ⟨_,_,rfl,h,q1,by omega,q3⟩
  ·rw [if_neg e1];have em:m=1:=by omega
   subst em;unfold kas_descPart;rw [rb_];have d2:Down c p 2:=fun i j hij hj=>by
    have:i=0:=by omega
    have:j=1:=by omega
    subst_vars
    exact q4 (by omega)
   obtain ⟨m,r1,r2,r3,r4⟩:=desc_ok O h (n - (1+1)) (1+1) (by omega) (by omega) d2;rw [r1];dsimp only;rw [if_neg (by simp)];exact tail_ok O h (by omega) (by omega) r4
omit O in
theorem place_ok{k:Nat}:∀ f l r,l<=r->r<=k->r - l<=f->(∀ i,i < l->c (PG p k) (PG p i)=false)->(∀ i,r<=i->i < k->c (PG p k) (PG p i)=true)->(∀ i j,i < j->j < k->c (PG p k) (PG p i)=true->c (PG p k) (PG p j)=true)->
  runT c (kas_place p k f l r)<=k/\(∀ i,i < runT c (kas_place p k f l r)->c (PG p k) (PG p i)=false)/\(∀ i,runT c (kas_place p k f l r)<=i->i < k->c (PG p k) (PG p i)=true)
 | 0,l,r,h1,h2,h3,a,b,_=>by
  have:l=r:=by omega
  subst this;exact ⟨h2,a,b⟩
 | f+1,l,r,h1,h2,h3,a,b,mono=>by
  unfold kas_place;by_cases e:l≥r
  ·have:l=r:=by omega
   subst this;rw [if_pos e];exact ⟨h2,a,b⟩
  ·rw [if_neg e];simp only [runT];have h4:(l+r) / 2 < r:=by omega
   have h5:l<=(l+r) / 2:=by omega
   cases hc:c (PG p k) (PG p ((l+r) / 2)) with
   | true=>
    simp only [hc,if_true];refine place_ok f l ((l+r) / 2) h5 (by omega) (by omega) a (fun i hi hk=>?_) mono;by_cases ei:i=(l+r) / 2
    ·rw [ei];exact hc
    ·exact mono _ _ (by omega) hk hc
   | false=>
    simp only [hc,Bool.false_eq_true,if_false];refine place_ok f ((l+r) / 2+1) r (by omega) h2 (by omega) (fun i hi=>?_) b mono;by_cases ei:i=(l+r) / 2
    ·rw [ei];exact hc
    ·cases hx:c (PG p k) (PG p i) with
     | false=>rfl
     | true=>rw [mono i _ (by omega) (by omega) hx] at hc;cases hc
omit O in
theorem PG_bub{k l:Nat}(hk:k < p.size)(hl:l<=k)(i:Nat):PG (bubble p k (k - l)) i=if i=l then PG p k else if l < i/\i<=k then PG p (i - 1) else PG p i:=by
 have e:=getElem?_bubble hk (k - l) (by omega) i;have h1:k - (k - l)=l:=by omega
 rw [h1] at e;unfold PG;simp only [Array.getD_eq_getD_getElem?,e];split
 ·rfl
 ·split <;> rfl
theorem bin_ok:∀ f {p:Array Nat} k,Plc n p->1<=k->k+f=n->Up c p k->∃ q,runT c (kas_bin f p k)=q/\Plc n q/\Up c q n
 | 0,p,k,h,_,h2,u=>⟨p,rfl,h,by rw [<-(show k=n by omega)];exact u⟩
 | f+1,p,k,h,h1,h2,u=>by
  unfold kas_bin;rw [rb_];have mono:∀ i j,i < j->j < k->c (PG p k) (PG p i)=true->c (PG p k) (PG p j)=true:=fun i j hij hj hc=>
   O.trans _ _ _ (h.lt (by omega)) (h.lt (by omega)) (h.lt (by omega)) hc (u i j hij hj)
  obtain ⟨q1,q2,q3⟩:=place_ok (p:=p) (c:=c) (k:=k) k 0 k (Nat.zero_le _) (Nat.le_refl _) (by omega) (fun i hi=>by omega) (fun i hi hk=>by omega) mono;generalize runT c (kas_place p k k 0 k)=l at*;refine bin_ok f (k+1) (h.of_perm (bubble_perm _ _ _)) (by omega) (by omega) ?_;intro i j hij hj;have hks:k < p.size:=by rw [h.size];omega
  rw [PG_bub hks q1,PG_bub hks q1];have up:∀ i,i < l->c (PG p i) (PG p k)=true:=fun i hi=>O.total _ _ (h.lt (by omega)) (h.lt (by omega)) (h.inj (by omega) (by omega) (by omega)) (q2 i hi);by_cases a1:i=l
  ·rw [if_pos a1,if_neg (by omega),if_pos ⟨by omega,by omega⟩];exact q3 _ (by omega) (by omega)
  ·rw [if_neg a1];by_cases a2:l < i/\i<=k
   ·rw [if_pos a2,if_neg (by omega),if_pos ⟨by omega,by omega⟩];exact u _ _ (by omega) (by omega)
   ·rw [if_neg a2];by_cases b1:j=l
    ·rw [if_pos b1];exact up i (by omega)
    ·rw [if_neg b1];by_cases b2:l < j/\j<=k
     ·rw [if_pos b2];by_cases e:i=j - 1
      ·omega
      ·exact u _ _ (by omega) (by omega)
     ·rw [if_neg b2];exact u _ _ hij (by omega)
theorem sort_ok(hn:1<=n):Plc n (runT c (kas_sort n))/\Up c (runT c (kas_sort n)) n:=by
 have h0:Plc n (List.range n).toArray:=⟨by simp,by simp⟩;obtain ⟨k,q,e,h1,h2,h3,u⟩:=count_ok O h0 hn;unfold kas_sort;rw [rb_,e];dsimp only;split
 ·rename_i hk;have hm:max k 1=k:=by omega
  rw [hm];obtain ⟨q',e',a,b⟩:=bin_ok O (n - k) k h1 h2 (by omega) u;rw [e'];exact ⟨a,b⟩
 ·have:k=n:=by omega
  subst this;exact ⟨h1,u⟩
end
def cutH(h:Heap)(C:Nat):Heap:=⟨h.objs.extract 0 C,h.life⟩
theorem cutH_get{h:Heap}{C b:Nat}:(cutH h C).get? b=if b < C then h.get? b else none:=by
 unfold cutH Heap.get?;simp only [Array.getElem?_extract];by_cases hb:b < C
 ·by_cases hs:b < h.objs.size
  ·have:b < min C h.objs.size:=by omega
   simp [hb,this]
  ·have:¬ b < min C h.objs.size:=by omega
   have e:h.objs[b]? =none:=by simp;omega
   simp [hb,this,e]
 ·have:¬ b < min C h.objs.size:=by omega
  simp [hb,this]
def restH(h:Heap)(C:Addr):List (Addr×Obj):=(List.range h.objs.size).filterMap fun a=>if C < a then (h.get? a).map (a,·) else none
theorem mem_restH{h:Heap}{C:Addr}{p:Addr×Obj}:p∈restH h C ↔ C < p.1/\h.get? p.1=some p.2:=by
 unfold restH;rw [List.mem_filterMap];constructor
 ·rintro ⟨a,ha,e⟩;split at e
  ·rename_i hc;obtain ⟨o,ho,rfl⟩:=Option.map_eq_some_iff.mp e;exact ⟨hc,ho⟩
  ·cases e
 ·rintro ⟨hc,ho⟩;exact ⟨p.1,List.mem_range.mpr (Heap.lt_size ho),by rw [if_pos hc,ho];rfl⟩
theorem frame_all{h:Heap}{C:Addr}{m:Str->Option Value}(hns:h.Ns C m):Fr (cutH h C) C h m/\News (cutH h C) C h (restH h C)/\(∀ h',Fr (cutH h C) C h' m->News (cutH h C) C h' (restH h C)->h'.Ns C m/\∀ b o,b≠C->h.get? b=some o->h'.get? b=some o)/\
  ∀ D,D≠C->(cutH h C).get? D=none->(∀ q∈restH h C,q.1 < D)->h.get? D=none:=by
 refine ⟨⟨hns,fun b o e=>?_,?_⟩,fun p hp=>?_,fun h' F N=>⟨F.ns,fun b o hb e=>?_⟩,fun D h1 h2 h3=>?_⟩
 ·rw [cutH_get] at e;split at e
  ·exact e
  ·cases e
 ·unfold cutH;simp;omega
 ·obtain ⟨a,b⟩:=mem_restH.mp hp;refine ⟨b,Nat.ne_of_gt a,?_⟩;rw [cutH_get,if_neg (Nat.not_lt.mpr (Nat.le_of_lt a))]
 ·rcases Nat.lt_or_gt_of_ne hb with hlt | hgt
  ·exact F.keep b o (by rw [cutH_get,if_pos hlt];exact e)
  ·exact (N (b,o) (mem_restH.mpr ⟨hgt,e⟩)).1
 ·cases e:h.get? D with
  | none=>rfl
  | some o=>
   rcases Nat.lt_or_gt_of_ne h1 with hlt | hgt
   ·rw [cutH_get,if_pos hlt,e] at h2;cases h2
   ·exact absurd (h3 (D,o) (mem_restH.mpr ⟨hgt,e⟩)) (Nat.lt_irrefl _)
section
variable {G:Ground} {C:Addr} {kp:Kept} {φ:List Addr} {s:S} {r:Shared}
theorem St.keepsNs(x:St G C kp φ s r){h':Heap}{tk:Tok}{m:Str->Option Value}(hm:r.heap.Ns C m)(hn:h'.Ns C m)(k:∀ b o,b≠C->r.heap.get? b=some o->h'.get? b=some o):St G C kp φ s {r with heap:=h',toks:=tk} where
 base:=fun b o e=>k b o (fun z=>by rw [z,x.fresh.1] at e;cases e) (x.base b o e)
 ns:=by
  obtain ⟨m₀,hm₀,hl⟩:=x.ns;refine ⟨m,hn,fun z v e=>?_⟩;obtain ⟨y,hy,hr⟩:=hl z v e;exact ⟨y,(hm.agree hm₀ z).trans hy,hr⟩
 kept:=fun q hq=>⟨by
  obtain ⟨⟨o,es,ep,e,r⟩,h2,h3⟩:=x.kept q hq;exact ⟨o,es,ep,k _ _ h2 e,r⟩,(x.kept q hq).2⟩
 low:=x.low
 len:=x.len
 objs:=fun n o a e hd ea=>let ⟨⟨ob,p,q⟩,t⟩:=x.objs n o a e hd ea;⟨⟨ob,k _ _ t.1 p,q⟩,t⟩
 inj:=x.inj
 fresh:=x.fresh
 more:=let ⟨xs,a,b,c⟩:=x.more;⟨xs,a,fun q hq=>⟨k _ _ (b q hq).2.1 (b q hq).1,(b q hq).2⟩,x.lams c k⟩
 gens:=x.gens
 os:=x.os
end
theorem pe_(a b:V×Str×Int)(h:pa_ a b=true):pa_ b a=false:=by
 unfold pa_ at*;simp only [Bool.or_eq_true,Bool.and_eq_true,decide_eq_true_eq,Bool.or_eq_false_iff,Bool.and_eq_false_iff,decide_eq_false_iff_not] at*;rcases h with h | ⟨h1,h2⟩
 ·exact ⟨sj_ _ _ h,.inl fun e=>by rw [e] at h;rw [sj_ _ _ h] at h;cases h⟩
 ·refine ⟨?_,.inr (by omega)⟩;rw [h1];cases e:sd_ b.2.1 b.2.1 with
  | false=>rfl
  | true=>exact absurd e (by rw [sj_ _ _ e];simp)
theorem pairLe_iff(a b:V×Str×Int):pa_ b a=false ↔ sd_ a.2.1 b.2.1=true\/(a.2.1=b.2.1/\a.2.2<=b.2.2):=by
 unfold pa_;simp only [Bool.or_eq_false_iff,Bool.and_eq_false_iff,decide_eq_false_iff_not];constructor
 ·rintro ⟨h1,h2⟩;cases e:sd_ a.2.1 b.2.1 with
  | true=>exact .inl rfl
  | false=>
   have:=strLt_tot _ _ e h1;rcases h2 with h2 | h2
   ·exact absurd this.symm h2
   ·exact .inr ⟨this,by omega⟩
 ·rintro (h | ⟨h1,h2⟩)
  ·exact ⟨sj_ _ _ h,.inl fun e=>by rw [e] at h;rw [sj_ _ _ h] at h;cases h⟩
  ·refine ⟨?_,.inr (by omega)⟩;rw [h1];cases e:sd_ b.2.1 b.2.1 with
   | false=>rfl
   | true=>exact absurd e (by rw [sj_ _ _ e];simp)
theorem strLt_trans(a b c:Str)(h1:sd_ a b=true)(h2:sd_ b c=true):sd_ a c=true:=by
 unfold sd_ at*;simp only [decide_eq_true_eq] at*;exact List.lt_trans h1 h2
theorem pairLt_tr(a b c:V×Str×Int)(h1:pa_ b a=false)(h2:pa_ c b=false):pa_ c a=false:=by
 rw [pairLe_iff] at*;rcases h1 with h1 | ⟨h1,h3⟩ <;> rcases h2 with h2 | ⟨h2,h4⟩
 ·exact .inl (strLt_trans _ _ _ h1 h2)
 ·exact .inl (by rw [<-h2];exact h1)
 ·exact .inl (by rw [h1];exact h2)
 ·exact .inr ⟨h1.trans h2,by omega⟩
theorem pairLt_tot(a b:V×Str×Int)(h1:pa_ a b=false)(h2:pa_ b a=false):a.2=b.2:=by
 rw [pairLe_iff] at h2;unfold pa_ at h1;simp only [Bool.or_eq_false_iff,Bool.and_eq_false_iff,decide_eq_false_iff_not] at h1;rcases h2 with h2 | ⟨h2,h3⟩
 ·rw [h1.1] at h2;cases h2
 ·rcases h1.2 with h | h
  ·exact absurd h2 h
  ·exact Prod.ext h2 (by omega)
def cmpAt(l:List (V×Str×Int))(i j:Nat):Bool:=match l[i]?,l[j]? with
 | some a,some b=>pa_ a b
 | _,_=>false
theorem ord_pairs{l:List (V×Str×Int)}(hd:(l.map (·.2)).Nodup):Ord l.length (cmpAt l) where
 asym:=fun a b ha hb h=>by
  unfold cmpAt at*;rw [List.getElem?_eq_getElem ha,List.getElem?_eq_getElem hb] at*;exact pe_ _ _ h
 trans:=fun a b d ha hb hd h1 h2=>by
  unfold cmpAt at*;rw [List.getElem?_eq_getElem ha,List.getElem?_eq_getElem hd] at*;rw [List.getElem?_eq_getElem hb] at*;change pa_ l[a] l[b]=true at h1;change pa_ l[b] l[d]=true at h2;show pa_ l[a] l[d]=true;have e1:=pe_ _ _ h1;have e2:=pe_ _ _ h2;cases e:pa_ l[a] l[d] with
  | true=>rfl
  | false=>
   have:=pairLt_tot _ _ e (pairLt_tr _ _ _ e1 e2);have e3:=pairLt_tr l[b] l[d] l[a] e2 e;rw [show pa_ l[b] l[d]=pa_ l[b] l[a] by unfold pa_;rw [this]] at h2;rw [e1] at h2;cases h2
 total:=fun a b ha hb hab h=>by
  unfold cmpAt at*;rw [List.getElem?_eq_getElem ha,List.getElem?_eq_getElem hb] at*;change pa_ l[a] l[b]=false at h;show pa_ l[b] l[a]=true;cases e:pa_ l[b] l[a] with
  | true=>rfl
  | false=>
   have:=pairLt_tot _ _ h e;have h1:(l.map (·.2))[a]'(by simpa using ha)=(l.map (·.2))[b]'(by simpa using hb):=by simpa using this
   exact absurd ((List.getElem_inj hd).mp h1) hab
theorem sortPair_eq{l:List (V×Str×Int)}(hd:(l.map (·.2)).Nodup)(hn:1<=l.length)(d:V×Str×Int):((runT (cmpAt l) (kas_sort l.length)).toList.map fun i=>l.getD i d)=sa_ pa_ l:=by
 obtain ⟨⟨h1,h2⟩,u⟩:=sort_ok (ord_pairs hd) hn;generalize runT (cmpAt l) (kas_sort l.length)=p at*;have perm:(p.toList.map fun i=>l.getD i d).Perm l:=by
  have:=h2.map fun i=>l.getD i d;refine this.trans (List.Perm.of_eq ?_);refine List.ext_getElem (by simp) fun i a b=>?_;simp [List.getD_eq_getElem?_getD,b]
 refine List.Perm.eq_of_pairwise (le:=fun a b=>pa_ b a=false) (fun a b ha hb x y=>?_) ?_ (ss_ pe_ pairLt_tr l) (perm.trans (sq_ l).symm)
 ·have e:=pairLt_tot a b y x;have ma:=perm.mem_iff.mp ha;have mb:=(sq_ l).mem_iff.mp hb;obtain ⟨i,hi,rfl⟩:=List.getElem_of_mem ma;obtain ⟨j,hj,rfl⟩:=List.getElem_of_mem mb;have h1:(l.map (·.2))[i]'(by simpa using hi)=(l.map (·.2))[j]'(by simpa using hj):=by simpa using e
  have:=(List.getElem_inj hd).mp h1;subst this;rfl
 ·rw [List.pairwise_iff_getElem];intro i j hi hj hij;have hi':i < p.size:=by simpa using hi
  have hj':j < p.size:=by simpa using hj
  have:=u i j hij (by omega);simp only [List.getElem_map,Array.getElem_toList];unfold PG at this;rw [Array.getD,Array.getD,dif_pos hi',dif_pos hj'] at this;unfold cmpAt at this;split at this
  ·rename_i a b e1 e2;have e1:l[p[i]]? =some a:=e1;have e2:l[p[j]]? =some b:=e2;rw [List.getD_eq_getElem?_getD,List.getD_eq_getElem?_getD,e1,e2];exact pe_ _ _ this
  ·cases this
section
variable {Λ:Lev} {φ φ₀:List Addr} {K:Frag} {s:S} {r:Shared}
def TupR(H:Heap):List (V×Str×Int)->List Value->Prop
 | [],[]=>True
 | (_,x,i)::l,v::vs=>(∃ a d sl n tx ti,v= .ref a/\H.get? a=some ⟨.type "tuple",d,.seq #[.str x tx,.int i ti] n,sl⟩)/\TupR H l vs
 | _,_=>False
theorem pairsOf_R(st:StL Λ φ s r):∀ {vs:List V} {xs:List Value} {l:List (V×Str×Int)},pc_ s.h vs=some l->VsR φ vs xs->TupR r.heap l xs/\l.map (·.1)=vs
 | [],[],_,h,_=>by cases h;exact ⟨trivial,rfl⟩
 | v::vs,x::xs,l,h,⟨hv,hr⟩=>by
  unfold pc_ at h;split at h
  ·rename_i p l' h1 h2;cases h;obtain ⟨a1,a2⟩:=pairsOf_R st h2 hr;refine ⟨⟨?_,a1⟩,by simp [a2]⟩;unfold pairAt at h1;split at h1
   ·rename_i n;split at h1
    ·rename_i y i ho;cases h1;obtain ⟨a,ea,rfl⟩:=hv;obtain ⟨⟨c,d,dt,sl⟩,g,c1,ys,n1,d1,r1⟩:=st.at ho (by simp) ea;simp only at c1 d1;subst c1 d1;cases ys with
     | nil=>exact r1.elim
     | cons y1 ys=>cases ys with
      | nil=>exact r1.2.elim
      | cons y2 ys=>cases ys with
       | cons _ _=>exact r1.2.2.elim
       | nil=>
        obtain ⟨⟨t1,rfl⟩,⟨t2,rfl⟩,_⟩:=r1;exact ⟨a,d,sl,n1,t1,t2,rfl,g⟩
    ·cases h1
   ·cases h1
  ·cases h
 | [],_::_,_,_,h=>h.elim
 | _::_,[],_,_,h=>h.elim
theorem TupR.get{H:Heap}:∀ {l:List (V×Str×Int)} {vs:List Value},TupR H l vs->∀ {i:Nat} (d0:Value),i < l.length->∃ p a d sl n tx ti,l[i]? =some p/\vs.getD i d0= .ref a/\H.get? a=some ⟨.type "tuple",d,.seq #[.str p.2.1 tx,.int p.2.2 ti] n,sl⟩
 | (_,x,i)::l,v::vs,⟨⟨a,d,sl,n,tx,ti,e,g⟩,_⟩,0,_,_=>⟨_,a,d,sl,n,tx,ti,rfl,by simpa using e,g⟩
 | _::l,v::vs,⟨_,h⟩,i+1,d0,hi=>by
  obtain ⟨p,a,d,sl,n,tx,ti,h1,h2,h3⟩:=TupR.get h (i:=i) d0 (by simpa using hi);exact ⟨p,a,d,sl,n,tx,ti,by simpa using h1,by simpa using h2,h3⟩
 | [],[],_,_,_,hi=>absurd hi (Nat.not_lt_zero _)
 | [],_::_,h,_,_,_=>h.elim
 | (_,_,_)::_,[],h,_,_,_=>h.elim
theorem TupR.length{H:Heap}:∀ {l:List (V×Str×Int)} {vs:List Value},TupR H l vs->l.length=vs.length
 | (_,_,_)::l,v::vs,⟨_,h⟩=>congrArg (· +1) h.length
 | [],[],_=>rfl
 | [],_::_,h=>h.elim
 | (_,_,_)::_,[],h=>h.elim
theorem TupR.keeps{H H':Heap}{C:Addr}(hC:∀ ob,H.get? C=some ob->∀ xs n,ob.data≠ .seq xs n)(k:∀ b o,b≠C->H.get? b=some o->H'.get? b=some o):∀ {l:List (V×Str×Int)} {vs:List Value},TupR H l vs->TupR H' l vs
 | (_,_,_)::l,v::vs,⟨⟨a,d,sl,n,tx,ti,e,g⟩,h⟩=>⟨⟨a,d,sl,n,tx,ti,e,k _ _ (fun z=>hC _ (z▸g) _ _ rfl) g⟩,TupR.keeps hC k h⟩
 | [],[],_=>trivial
 | [],_::_,h=>h.elim
 | (_,_,_)::_,[],h=>h.elim
theorem TupR.tups{H:Heap}:∀ {l:List (V×Str×Int)} {vs:List Value},TupR H l vs->∃ fs,KatTups H vs fs/\fs.length=l.length/\∀ v∈fs,∃ x t,v=Value.str x t
 | (_,x,_)::l,v::vs,⟨⟨a,d,sl,n,tx,ti,e,g⟩,h⟩=>by
  obtain ⟨fs,h1,h2,h3⟩:=TupR.tups h;subst e;exact ⟨.str x tx::fs,KatTups.cons g rfl rfl rfl h1,by simp [h2],fun v hv=>by rcases List.mem_cons.mp hv with rfl | hv;exact ⟨_,_,rfl⟩;exact h3 v hv⟩
 | [],[],_=>⟨[],trivial,rfl,fun _ h=>nomatch h⟩
 | [],_::_,h=>h.elim
 | (_,_,_)::_,[],h=>h.elim
theorem pair_lt{prog:Program}{w:World}{A:Around}{E:Value->Shared->Prop}{s:Shared}{a b:Addr}{oa ob:Obj}{na nb:Nat}{x y:Str}{i j:Int}{tx ty ti tj:Tok}{Q:Bool->Shared->Prop}(p q:V)
  (ga:s.heap.get? a=some oa) (da:oa.data= .seq #[.str x tx,.int i ti] na) (gb:s.heap.get? b=some ob) (db:ob.data= .seq #[.str y ty,.int j tj] nb) (h:Q (pa_ (p,x,i) (q,y,j)) s):
  wpAny (model prog w) A (keyLt' (tuples' true) (.ref a) (.ref b)) Q E s:=by
 refine kat_lt ga da gb db ?_;show KatLex prog w A true false Q [(.str x tx,.str y ty),(.int i ti,.int j tj)] 0 s;refine kat_cons (wpAny_eqBool_str (kat_go (fun e=>?_) fun e=>?_))
 ·refine kat_yes (kat_cons (wpAny_eqBool_int (kat_go (fun e2=>?_) fun e2=>?_)))
  ·refine kat_yes (kat_nil ?_);have e1:x=y:=by simpa using e
   have e2:i=j:=by simpa using e2
   subst e1 e2;have:pa_ (p,x,i) (q,x,i)=false:=by
    rw [pairLe_iff];exact .inr ⟨rfl,Int.le_refl _⟩
   rw [this] at h;exact h
  ·refine kat_no (kat_one _ _ (PyProof.Rows.lt_int ?_));have e1:x=y:=by simpa using e
   subst e1;have e0:sd_ x x=false:=by
    cases e:sd_ x x with
    | false=>rfl
    | true=>exact absurd e (by rw [sj_ _ _ e];simp)
   have:pa_ (p,x,i) (q,x,j)=decide (i < j):=by unfold pa_;simp [e0]
   rw [this] at h;exact h
 ·refine kat_no (oneLt_str ?_);have e1:¬ x=y:=by simpa using e
  have:pa_ (p,x,i) (q,y,j)=decide (x.cps.toList < y.cps.toList):=by unfold pa_ sd_;simp [e1]
  rw [this] at h;exact h
theorem St.notTup{G:Ground}{C:Addr}{kp:Kept}(x:St G C kp φ s r):∀ ob,r.heap.get? C=some ob->∀ xs n,ob.data≠ .seq xs n:=by
 obtain ⟨m,⟨o,es,ep,e,d,_⟩,_⟩:=x.ns;intro ob h xs n hd;rw [e] at h;cases h;rw [d] at hd;cases hd
theorem list_sort_few{prog:Program}{w:World}{A:Around}{E:Value->Shared->Prop}{s:Shared}{a:Addr}{vs:List Value}{n:Nat}{P:PySem.Fin->Shared->Prop}(ho:s.heap.get? a=some (seqObj "list" vs.toArray n))(h2:vs.length < 2)
  (h:P (.done (.ret .none)) {s with heap:=sortedHeap s.heap a vs vs.toArray}):wpAny (model prog w) A (Builtin.«list.sort» ⟨[.ref a],[]⟩) P E s:=by
 rw [list_sort_plain];have ha:a < s.heap.objs.size:=Heap.lt_size ho;have hz:vs.toArray.size<=sizeLine:=by rw [List.size_toArray];exact Nat.le_trans (Nat.le_of_lt h2) (by decide+kernel)
 refine wpAny_bind (listItems_at ho rfl ?_);refine wpAny_bind (listUpdate_at ho rfl ?_ hz (Nat.zero_le _));obtain ⟨e1,ho1⟩:∃ e1,(s.heap.update a (Obj.mapSeq fun _=>#[])).get? a=some (seqObj "list" #[] e1):=⟨_,get?_update_seq ho (fun _=>#[])⟩;refine wpAny_bind (seqEpoch_at ho1 rfl ?_);refine wpAny_bind (wpAny_newTuple ?_ (by simpa using hz));refine wpAny_bind (wpAny_newList ?_);refine wpAny_holding ?_;have ho6:(((s.heap.update a (Obj.mapSeq fun _=>#[])).push (seqObj "tuple" vs.toArray 0)).push (seqObj "list" #[] 0)).get? a=some (seqObj "list" #[] e1):=by
  rw [Heap.get?_push_ne _ _ _ (by rw [size_push',Heap.size_update];exact Nat.ne_of_lt (Nat.lt_succ_of_lt ha)),Heap.get?_push_ne _ _ _ (by rw [Heap.size_update];exact Nat.ne_of_lt ha)];exact ho1
 show wpAny (model prog w) A _ P E {s with heap:=((s.heap.update a (Obj.mapSeq fun _=>#[])).push (seqObj "tuple" vs.toArray 0)).push (seqObj "list" #[] 0)};dsimp only;have h2':vs.toArray.size < 2:=by rw [List.size_toArray];exact h2
 rw [if_pos h2',if_pos h2'];refine wpAny_bind (wpAny_pure ?_);rw [StateT.run_pure];refine wpAny_bind (wpAny_pure ?_);dsimp only;refine wpAny_bind (seqEpoch_at ho6 rfl ?_);have ez:(arrOf (SortSt.mk' general' (vs.toArray.zip vs.toArray) #[] 7 none)).map (·.2)=vs.toArray:=by
  show (vs.toArray.zip vs.toArray).map (·.2)=vs.toArray;apply Array.toList_inj.mp;simp [List.map_snd_zip]
 rw [ez];refine wpAny_bind (listUpdate_at ho6 rfl ?_ (Nat.zero_le _) (Nat.le_succ_of_le hz));simp only [bne_self_eq_false,Bool.false_eq_true,if_false];exact wpAny_pure h
theorem sorted_few{prog:Program}{w:World}{A:Around}{E:Value->Shared->Prop}{s:Shared}{l:Addr}{vs:List Value}{Q:Value->Shared->Prop}(hl:s.heap.IsList l vs.toArray)(h2:vs.length < 2)
  (h:Q (.ref (s.heap.objs.size+1)) {s with heap:=sortedAll s.heap vs vs.toArray}):wpAny (model prog w) A (call (.builtin "sorted") [.ref l]) Q E s:=by
 refine Calls.call_function_entry kind_sorted plain_sorted entry_sorted (args_sorted1 _) ?_;unfold Builtin.«sorted»;have hz:vs.length<=sizeLine:=Nat.le_trans (Nat.le_of_lt h2) (by decide+kernel);refine wpAny_bind (m:=checkCount "sorted" 1 1 _) (wpAny_pure ?_);refine wpAny_bind (collect_list hl ?_ hz);refine wpAny_bind (wpAny_newList ?_ hz);have hsz:((s.heap.push (seqObj "list" #[] 0)).update s.heap.objs.size (Obj.mapSeq (· ++vs.toArray))).objs.size=s.heap.objs.size+1:=by
  rw [Heap.size_update,size_push']
 have hoL:(((s.heap.push (seqObj "list" #[] 0)).update s.heap.objs.size (Obj.mapSeq (· ++vs.toArray))).push (seqObj "list" vs.toArray 0)).get? (s.heap.objs.size+1)=some (seqObj "list" vs.toArray 0):=by
  rw [<-hsz];exact Heap.get?_push_size _ rfl
 show wpAny _ _ _ _ _ {s with heap:=((s.heap.push (seqObj "list" #[] 0)).update s.heap.objs.size (Obj.mapSeq (· ++vs.toArray))).push (seqObj "list" vs.toArray 0)};rw [hsz];refine wpAny_bind (wpAny_holding (wpAny_call_entry slot_list_sort ⟨_,hoL,rfl⟩ entry_list_sort (list_sort_few hoL h2 ⟨_,rfl,?_⟩) (args_list_sort _)));exact wpAny_pure ⟨_,rfl,h⟩
theorem sorted_via{prog:Program}{w:World}{A:Around}{E:Value->Shared->Prop}{s:Shared}{l:Addr}{vs:List Value}{Q:Value->Shared->Prop}(hl:s.heap.IsList l vs.toArray)(hz:vs.length < 64)
  (h:∀ H:Heap,(∀ b o,s.heap.get? b=some o->H.get? b=some o)->H.get? (s.heap.objs.size+1)=some (seqObj "list" vs.toArray 0)->
   wpAny (model prog w) A.in1.in1 (Builtin.«list.sort» ⟨[.ref (s.heap.objs.size+1)],[]⟩) (fun fin s'=>fin= .done (.ret .none)/\Q (.ref (s.heap.objs.size+1)) s') (fun _ _=>False) {s with heap:=H}):wpAny (model prog w) A (call (.builtin "sorted") [.ref l]) Q E s:=by
 refine Calls.call_function_entry kind_sorted plain_sorted entry_sorted (args_sorted1 _) ?_;unfold Builtin.«sorted»;refine wpAny_bind (m:=checkCount "sorted" 1 1 _) (wpAny_pure ?_);refine wpAny_bind (collect_list hl ?_ (by rw [sizeLine_eq];omega));refine wpAny_bind (wpAny_newList ?_ (by rw [sizeLine_eq];omega));have hsz:((s.heap.push (seqObj "list" #[] 0)).update s.heap.objs.size (Obj.mapSeq (· ++vs.toArray))).objs.size=s.heap.objs.size+1:=by
  rw [Heap.size_update,size_push']
 have hoL:(((s.heap.push (seqObj "list" #[] 0)).update s.heap.objs.size (Obj.mapSeq (· ++vs.toArray))).push (seqObj "list" vs.toArray 0)).get? (s.heap.objs.size+1)=some (seqObj "list" vs.toArray 0):=by
  rw [<-hsz];exact Heap.get?_push_size _ rfl
 have keep:∀ b o,s.heap.get? b=some o->(((s.heap.push (seqObj "list" #[] 0)).update s.heap.objs.size (Obj.mapSeq (· ++vs.toArray))).push (seqObj "list" vs.toArray 0)).get? b=some o:=fun b o q=>by
  have hlt:b < s.heap.objs.size:=Heap.lt_size q;rw [Heap.get?_push_ne _ _ _ (by rw [hsz];exact Nat.ne_of_lt (Nat.lt_succ_of_lt hlt)),Heap.get?_update_ne _ _ _ _ (Nat.ne_of_lt hlt),Heap.get?_push_ne _ _ _ (Nat.ne_of_lt hlt)];exact q
 show wpAny _ _ _ _ _ {s with heap:=((s.heap.push (seqObj "list" #[] 0)).update s.heap.objs.size (Obj.mapSeq (· ++vs.toArray))).push (seqObj "list" vs.toArray 0)};rw [hsz];refine wpAny_bind (wpAny_holding (wpAny_call_entry slot_list_sort ⟨_,hoL,rfl⟩ entry_list_sort (wpAny_mono (h _ keep hoL) (fun fin s' x=>?_) fun _ _ e=>e.elim) (args_list_sort _)));obtain ⟨rfl,hq⟩:=x;exact ⟨_,rfl,wpAny_pure ⟨_,rfl,hq⟩⟩
theorem restH_ne{h:Heap}{C D:Addr}:∀ p∈(restH h C).filter (fun p=>p.1 !=D),p.1≠D:=fun p hp=>by simpa using (List.mem_filter.mp hp).2
theorem VsR.getD{φ:List Addr}{vs:List V}{xs:List Value}(h:VsR φ vs xs):∀ {i:Nat},i < vs.length->VR φ (vs.getD i .none) (xs.getD i .none):=by
 intro i hi;obtain ⟨y,h1,h2⟩:=h.get (List.getElem?_eq_getElem hi);rw [List.getD_eq_getElem?_getD,List.getD_eq_getElem?_getD,h1,List.getElem?_eq_getElem hi];exact h2
theorem VsR.ofMap{φ:List Addr}{f:Nat->V}{g:Nat->Value}:∀ {l:List Nat},(∀ i∈l,VR φ (f i) (g i))->VsR φ (l.map f) (l.map g)
 | [],_=>trivial
 | i::l,h=>⟨h i (.head _),VsR.ofMap fun j hj=>h j (.tail _ hj)⟩
theorem sortedP_S{vs:List V}{l:List (V×Str×Int)}{xs:List Value}{ax:Addr}{k:Nat}(st:StL Λ φ s r)(hp:pc_ s.h vs=some l)(hd:d_ l=true)(hz:vs.length < 64)
  (g:r.heap.get? ax=some {cls:= .type "list",data:= .seq (List.toArray xs) k}) (r1:VsR φ vs xs):
  At Λ φ s r VR (alloc (.list ((sa_ pa_ l).map (·.1))) >>=fun n=>Pure.pure (V.ref n)) (call (.builtin "sorted") [.ref ax]):=by
 have hd:=of_decide_eq_true hd;obtain ⟨T,hv⟩:=pairsOf_R st hp r1;have hlen:=T.length;have hl2:l.length=vs.length:=by rw [<-hv,List.length_map]
 by_cases h2:xs.length < 2
 ·refine At.newList st _ fun Q E kk=>?_;have hD:r.heap.get? (r.heap.objs.size+1)=none:=none_size _ (Nat.le_succ _);have h0:r.heap.objs.size+1≠sysModules:=Nat.ne_of_gt (Nat.lt_succ_of_lt st.big);refine sorted_few (io_ g) h2 ?_;obtain ⟨e,he⟩:=sortedAll_at r.heap xs xs.toArray;refine kk (r.heap.objs.size+1) _ _ r.toks xs e (fun b o e=>sortedAll_old e) hD h0 (by simpa using he) ?_ fun hf=>⟨_,hf,rfl⟩;have:(sa_ pa_ l).map (·.1)=vs:=by
   rw [<-hv]
   match l,hlen with
   | [],_=>rfl
   | [a],_=>rfl
   | a::b::l,e=>simp at e;omega
  rw [this];exact r1
 ·have hn:1<=l.length:=by omega
  obtain ⟨m,hm,hloc⟩:=st.ns;refine At.done (a:= .ref s.h.length) (s':={s with h:=s.h++ [.list ((sa_ pa_ l).map (·.1))]}) rfl fun Q E kk=>?_;refine sorted_via (io_ g) (by rw [<-hlen,hl2];exact hz) fun H keep hoL=>?_;have hD0:r.heap.get? (r.heap.objs.size+1)=none:=none_size _ (Nat.le_succ _);have h0:r.heap.objs.size+1≠sysModules:=Nat.ne_of_gt (Nat.lt_succ_of_lt st.big);generalize hDe:r.heap.objs.size+1=D at*;have hm':H.Ns Λ.env.locals m:=hm.keeps keep;have hDC:D≠Λ.env.locals:=fun e=>by
   obtain ⟨o,e'⟩:=st.ns_some;rw [<-e,hD0] at e';cases e'
  obtain ⟨F0,N0,back,_⟩:=frame_all hm';have hCD:Λ.env.locals < D:=by
   obtain ⟨o,e'⟩:=st.ns_some;have:=Heap.lt_size e';rw [<-hDe];exact Nat.lt_succ_of_lt this
  have hc0:(cutH H Λ.env.locals).get? D=none:=by rw [cutH_get,if_neg (Nat.not_lt.mpr (Nat.le_of_lt hCD))]
  have N1:News (cutH H Λ.env.locals) Λ.env.locals H ((restH H Λ.env.locals).filter fun p=>p.1 !=D):=fun p hp=>N0 p (List.mem_filter.mp hp).1;have back':∀ h',Fr (cutH H Λ.env.locals) Λ.env.locals h' m->News (cutH H Λ.env.locals) Λ.env.locals h' ((restH H Λ.env.locals).filter fun p=>p.1 !=D)->h'.Ns Λ.env.locals m/\∀ b o,b≠Λ.env.locals->r.heap.get? b=some o->h'.get? b=some o:=by
   intro h' F' N';refine ⟨F'.ns,fun b o hb e=>?_⟩;have e1:=keep b o e;have hbD:b≠D:=fun z=>by rw [z,hD0] at e;cases e
   rcases Nat.lt_or_gt_of_ne hb with hlt | hgt
   ·exact F'.keep b o (by rw [cutH_get,if_pos hlt];exact e1)
   ·exact (N' (b,o) (List.mem_filter.mpr ⟨mem_restH.mpr ⟨hgt,e1⟩,by simpa using hbD⟩)).1
  refine kat_list_sort F0 N1 hoL hDC hc0 restH_ne (by omega) (by rw [<-hlen,hl2];exact hz) fun e1 h' F' N'=>?_;obtain ⟨hns',hk'⟩:=back' h' F' (fun p hp=>N' p (.tail _ hp));have T':TupR h' l xs:=T.keeps st.notTup hk';obtain ⟨fs,k1,k2,k3⟩:=T'.tups;refine kat_kind (T:= .type "str") k1 (by omega) (fun v hv=>by obtain ⟨x,t,rfl⟩:=k3 v hv;exact Looks.of_pure rfl) (by decide) ?_;have hb:((Value.type "str" !=Value.type "tuple"):Bool)=true:=by decide
  rw [hb];refine AskOk.run (n:=xs.length) (c:=cmpAt l) (fun i j C hi hj hC=>?_) (ask_sort (by omega)) ?_
  ·obtain ⟨p,a,d,sl,n,tx,ti,q1,q2,q3⟩:=T'.get (i:=i) Value.none (by omega);obtain ⟨p',a',d',sl',n',tx',ti',q1',q2',q3'⟩:=T'.get (i:=j) Value.none (by omega);unfold kas_ask;rw [q2,q2'];refine pair_lt p.1 p'.1 q3 rfl q3' rfl ?_;unfold cmpAt at hC;rw [q1,q1'] at hC;exact hC
  ·refine KasFin.intro F' N' (.head restH_ne) fun h'' c F'' N''=>⟨rfl,?_⟩;have hD'':=N'' (D,listOf _ c) (.head _);obtain ⟨hns'',hk''⟩:=back' h'' F'' (fun p hp=>N'' p (.tail _ hp));have sn:StL Λ φ s {r with heap:=h'',toks:=r.toks}:=st.keepsNs hm hns'' hk'';refine kk (φ++ [D]) _ _ (Ext.one _ _) (st.allocOf (tk:=r.toks) sn hk'' hD0 hD''.1 ⟨⟨rfl,rfl,rfl⟩,_,c,rfl,VsR.mono (Ext.one _ _) ?_⟩ h0) ⟨D,by rw [<-st.len];simp,rfl⟩;rw [<-sortPair_eq hd hn (.none,⟨#[]⟩,0),List.map_map,<-hlen];refine VsR.ofMap fun i hi=>?_;obtain ⟨⟨p1,p2⟩,_⟩:=sort_ok (ord_pairs hd) hn;have hil:i < l.length:=by
    have:=p2.mem_iff.mp hi;simpa using this
   have:=r1.getD (i:=i) (by omega);rw [<-hv] at this;simp only [Function.comp,List.getD_eq_getElem?_getD,List.getElem?_map,List.getElem?_eq_getElem hil,Option.map_some,Option.getD_some] at this ⊢;exact this
end
end
section
open PyProof.Rows.LSm
set_option maxHeartbeats 4000000
theorem bytes_bytes:typeLookup (.type "bytes") "__bytes__"=pure (some (.builtin "bytes.__bytes__")):=by rw [typeLookup_type,builtinLookup_eq_fast];kernel_rfl
section
variable {prog:Program} {w:World} {A:Around} {E:Value->Shared->Prop} {s:Shared}
theorem bm_new_bytes{b:Array UInt8}{t:Tok}{Q:Value->Shared->Prop}(hQ:Q (.bytes b t) s):codeAny (model prog w) A (.call (.builtin "bytes.__new__") ⟨[.type "bytes",.bytes b t],[]⟩) (wants Q E) s:=by
 refine codeAny_of_tree ?_;show wpAny _ A.in1 (do checkBuiltinCall "bytes.__new__" ⟨[.type "bytes",.bytes b t],[]⟩;again (.builtin "bytes.__new__" ⟨[.type "bytes",.bytes b t],[]⟩)) _ _ s;refine wpAny_bind (wpAny_of_eq (F.bm_newCall _) (wpAny_pure ⟨plainId_quiet F.bm_plain _,codeAny_builtin F.bm_entry ?_⟩));rw [Around.under_plainId F.bm_plain _];have hT:s.TypeIs (.bytes b t) "bytes":=typeIs_bytes _ _ _;unfold Builtin.«bytes.__new__»;refine wpAny_bind (wpAny_of_eq (a:=true) rfl ?_);refine bm_if_false rfl ?_;refine wpAny_bind (wpAny_of_eq F.bm_sub ?_);refine bm_if_false rfl ?_;refine wpAny_bind (wpAny_of_eq (F.bm_bind _) ?_);refine wpAny_bind (wpAny_of_eq (a:=()) rfl ?_);refine wpAny_bind (wpAny_of_eq (a:=()) rfl ?_);refine bm_if_false rfl ?_;refine wpAny_bind (wpAny_specialOf hT bytes_bytes ?_);refine wpAny_bind (wpAny_rule ?_);refine wpAny_bind (wpAny_typeOf hT ?_);refine bm_if_true (by decide) ?_;show wpAny _ _ (if (Value.type "bytes"==Value.type "bytes")=true then _ else _) _ _ _;refine bm_if_true (by decide) ?_;first
  | exact wpAny_pure hQ
  | exact wpAny_bind (wpAny_pure (wpAny_pure hQ))
theorem call_bytes_bytes{b:Array UInt8}{t:Tok}{Q:Value->Shared->Prop}(hQ:Q (.bytes b t) s):wpAny (model prog w) A (call (.type "bytes") [.bytes b t]) Q E s:=by
 refine callType_codes (Q₁:=fun obj s₁=>s₁.TypeIs obj "bytes"/\Q obj s₁) F.bm_called (F.bm_typeCall _) F.entry_object_init
  (bm_new_bytes ⟨PySem.W.typeIs_bytes _ _ _,hQ⟩) fun obj s₁ h₁=>?_
 exact ⟨h₁.1,F.args_object_init_2 obj _,object_init_meets F.bm_called.init.lookup F.bm_called.made (by decide) prog w A.in1 _ s₁ ⟨h₁.1,rfl,h₁.2⟩⟩
end
inductive BytesAre:List Value->List (Array UInt8)->Prop
 | nil:BytesAre [] []
 | cons (b:Array UInt8) (t:Tok) {vs bs}:BytesAre vs bs->BytesAre (.bytes b t::vs) (b::bs)
theorem bytesOf_are{φ:List Addr}:∀ {vs:List V} {xs:List Value} {l:List (Array UInt8)},bytesOf vs=some l->VsR φ vs xs->BytesAre xs l
 | [],[],_,h,_=>by cases h;exact .nil
 | v::vs,x::xs,l,h,⟨hv,hr⟩=>by
  cases v <;> simp only [bytesOf] at h <;> try cases h
  obtain ⟨l',h',rfl⟩:=Option.map_eq_some_iff.mp h;obtain ⟨t,rfl⟩:=hv;exact .cons _ t (bytesOf_are h' hr)
 | [],_::_,_,_,h=>h.elim
 | _::_,[],_,_,h=>h.elim
theorem BytesAre.length{xs:List Value}{l:List (Array UInt8)}(h:BytesAre xs l):xs.length=l.length:=by induction h <;> simp_all
theorem BytesAre.at{xs:List Value}{l:List (Array UInt8)}(h:BytesAre xs l):∀ i,i < l.length->∃ b t,xs[i]? =some (.bytes b t)/\l[i]? =some b:=by
 induction h with
 | nil=>intro i hi;exact absurd hi (Nat.not_lt_zero _)
 | cons b t _ ih=>
  intro i hi;cases i with
  | zero=>exact ⟨b,t,rfl,rfl⟩
  | succ i=>simpa using ih i (by simpa using hi)
theorem be_:typeLookup (.type "bytes") "__buffer__"=pure (some (.builtin "bytes.__buffer__")):=by rw [typeLookup_type,builtinLookup_eq_fast];kernel_rfl
theorem bytes_release:typeLookup (.type "bytes") "__release_buffer__"=pure none:=by rw [typeLookup_type,builtinLookup_eq_fast];kernel_rfl
section
variable {prog:Program} {w:World} {A:Around} {E:Value->Shared->Prop} {s:Shared}
theorem slotIsOwn_bytes{b:Array UInt8}{t:Tok}{Q:Bool->Shared->Prop}(h:Q true s):wpAny (model prog w) A (Builtin.Bytes.slotIsOwn (.bytes b t) "__buffer__") Q E s:=by
 unfold Builtin.Bytes.slotIsOwn;refine wpAny_bind (wpAny_specialOf (typeIs_bytes _ _ _) be_ ?_);dsimp only;refine bm_if_false (by decide+kernel) ?_;have e:(("bytes.__buffer__" :String).dropRight ("__buffer__".length+1))="bytes":=by decide+kernel
 rw [e];exact wpAny_isInstance (typeIs_bytes _ _ _) F.bm_sub h
theorem buffer_bytes{id:String}{b:Array UInt8}{t:Tok}{full:Bool}{Q:Option (Array UInt8)->Shared->Prop}(h:Q (some b) s):wpAny (model prog w) A (Builtin.Bytes.buffer? id (.bytes b t) full) Q E s:=by
 unfold Builtin.Bytes.buffer?;refine wpAny_bind (wpAny_specialOf (typeIs_bytes _ _ _) be_ ?_);dsimp only;refine wpAny_bind (slotIsOwn_bytes ?_);refine bm_if_false rfl ?_;refine wpAny_bind (wpAny_specialOf (typeIs_bytes _ _ _) be_ ?_);refine wpAny_bind ?_;unfold Builtin.Bytes.ownRelease;refine wpAny_bind ?_;unfold Builtin.Bytes.slotIsOwn;refine wpAny_bind (wpAny_specialOf (typeIs_bytes _ _ _) bytes_release ?_);refine wpAny_pure (wpAny_pure ?_);refine bm_if_false rfl ?_;exact wpAny_bind (wpAny_of_eq (a:=b) rfl (wpAny_pure h))
theorem takeBuffer_bytes{id:String}{b:Array UInt8}{t:Tok}{Q:Option (Array UInt8×Option Value)->Shared->Prop}(h:Q (some (b,none)) s):wpAny (model prog w) A (Builtin.Bytes.takeBufferQuiet? id (.bytes b t) 0) Q E s:=by
 unfold Builtin.Bytes.takeBufferQuiet?;refine wpAny_bind (wpAny_attempt ?_);unfold Builtin.Bytes.takeBuffer?;refine wpAny_bind (wpAny_specialOf (typeIs_bytes _ _ _) be_ ?_);dsimp only;refine wpAny_bind (slotIsOwn_bytes ?_);refine bm_if_false rfl ?_;refine wpAny_bind (wpAny_specialOf (typeIs_bytes _ _ _) be_ ?_);refine wpAny_bind (buffer_bytes ?_);exact wpAny_pure (wpAny_pure h)
theorem joinLetGo_any{taken:List (Value×Option Value)}{keep:List Value}{Q:Unit->Shared->Prop}(hn:∀ p∈taken,p.2=none)(h:Q () s):wpAny (model prog w) A (Builtin.Bytes.joinLetGo taken keep) Q E s:=by
 induction taken with
 | nil=>exact wpAny_pure h
 | cons p r ih=>
  obtain ⟨x,o⟩:=p;have:=hn (x,o) (.head _);simp only at this;subst this;unfold Builtin.Bytes.joinLetGo;exact wpAny_bind (wpAny_letGo (ih fun p hp=>hn p (.tail _ hp)))
theorem bjoin_at{l:Addr}{items:List Value}{n:Nat}{bs:List (Array UInt8)}{b:Array UInt8}{t:Tok}{Q:Value->Shared->Prop}(g:s.heap.get? l=some {cls:= .type "list",data:= .seq (List.toArray items) n})(hb:BytesAre items bs)(h2:2<=bs.length)
  (hz:Builtin.Bytes.tooLong (bs.toArray.foldl (· + ·.size) (b.size*(bs.toArray.size - 1)))=false) (hz2:(Builtin.Bytes.joined b bs).size<=sizeLine) (h:Q (.bytes (Builtin.Bytes.joined b bs) s.toks) {s with toks:=s.toks+1}):
  wpAny (model prog w) A (call (.builtin "bytes.join") [.bytes b t,.ref l]) Q E s:=by
 refine wpAny_call_entry slot_bytes_join (typeIs_bytes _ _ _) entry_bytes_join ?_ (args_bytes_join_2 _ _);unfold Builtin.«bytes.join» Builtin.Bytes.joinM;refine wpAny_bind (wpAny_of_eq (a:=(Value.bytes b t,Value.ref l)) rfl ?_);dsimp only;refine bm_if_true (by decide) ?_;refine wpAny_bind ?_;unfold Builtin.Bytes.joinItems;refine wpAny_bind (wpAny_typeOf (T:="list") ⟨_,g,rfl⟩ ?_);refine bm_if_true (by decide) ?_;refine wpAny_pure ?_;refine wpAny_bind (wpAny_seqItems g rfl ?_);dsimp only;refine bm_if_true (by decide) ?_;have hl:=hb.length;obtain ⟨arr,harr⟩:∃ arr,items.toArray=arr:=⟨_,rfl⟩;have hasz:arr.size=bs.length:=by rw [<-harr,List.size_toArray,hl]
 rw [harr];obtain ⟨lst⟩:=arr;obtain ⟨v1,v2,r,rfl⟩:∃ v1 v2 r,lst=v1::v2::r:=by
  match lst,hasz with
  | [],e=>exact absurd e (by simp;omega)
  | [_],e=>exact absurd e (by simp;omega)
  | a::b::r,_=>exact ⟨a,b,r,rfl⟩
 show wpAny _ _ (forIn [:(⟨v1::v2::r⟩:Array Value).size] (#[],[]) _ >>=_) _ _ _;generalize (v1::v2::r)=lst at*;refine wpAny_bind ?_;rw [Std.Legacy.Range.forIn_eq_forIn_range'];have hr:(Std.Legacy.Range.size [:(⟨lst⟩:Array Value).size])=bs.length:=by simp [Std.Legacy.Range.size,hasz]
 rw [hr];refine wpAny_forIn_list _ (fun rest st s'=>s'=s/\∃ i,rest=List.range' i (bs.length - i)/\i<=bs.length/\st.1=(bs.take i).toArray/\∀ p∈st.2,p.2=none/\p.1.onHeap=false) _ (fun x rest st s' hI=>?_) (fun st s' hI=>?_) _ _ ⟨rfl,0,rfl,Nat.zero_le _,rfl,fun _ h=>nomatch h⟩
 ·obtain ⟨rfl,i,hi,hle,h1,h2⟩:=hI;obtain ⟨parts,taken⟩:=st;simp only at h1 h2;have hlt:i < bs.length:=by
   cases hz:bs.length - i with
   | zero=>rw [hz] at hi;cases hi
   | succ k=>omega
  have hx:x=i/\rest=List.range' (i+1) (bs.length - (i+1)):=by
   have e:bs.length - i=(bs.length - (i+1))+1:=by omega
   rw [e,List.range'_succ] at hi;cases hi;exact ⟨rfl,rfl⟩
  obtain ⟨rfl,rfl⟩:=hx;obtain ⟨bb,tt,e1,e2⟩:=hb.at x hlt;have hget:items.toArray.getD x Value.none= .bytes bb tt:=by simp [Array.getD_eq_getD_getElem?,e1]
  refine wpAny_bind (wpAny_seqItems g rfl ?_);dsimp only;rw [hget];have hoff:taken.any (fun x=>x.1.onHeap)=false:=by
   rw [List.any_eq_false];intro p hp;rw [(h2 p hp).2];simp
  refine bm_if_false (by rw [hoff];rfl) ?_;refine wpAny_bind (wpAny_holding (takeBuffer_bytes ?_));dsimp only;refine wpAny_bind (wpAny_seqItems g rfl ?_);dsimp only;refine bm_if_false (by rw [<-harr];simp) ?_;refine wpAny_pure ⟨rfl,x+1,rfl,hlt,?_,fun p hp=>?_⟩
  ·rw [h1,List.take_add_one,e2];simp
  ·rcases List.mem_append.mp hp with hp | hp
   ·exact h2 p hp
   ·rw [List.mem_singleton.mp hp];exact ⟨rfl,rfl⟩
 ·obtain ⟨rfl,i,hi,hle,h1,h2⟩:=hI;obtain ⟨parts,taken⟩:=st;simp only at h1 h2;have hie:i=bs.length:=by
   cases hz:bs.length - i with
   | zero=>omega
   | succ k=>rw [hz,List.range'_succ] at hi;cases hi
  subst hie;rw [List.take_length] at h1;subst h1;refine wpAny_bind (wpAny_of_eq (a:=b) rfl ?_);refine bm_if_false hz ?_;refine wpAny_bind (wpAny_mkBytes ?_ hz2);refine wpAny_bind (wpAny_holding (wpAny_point ?_));refine wpAny_bind (joinLetGo_any (fun p hp=>(h2 p hp).1) ?_);exact wpAny_pure ⟨_,rfl,h⟩
end
section
variable {Λ:Lev} {φ φ₀:List Addr} {K:Frag} {s:S} {r:Shared}
theorem At.getS{α β:Type}{R:List Addr->α->β->Prop}{f:S->M α}{t:Sem β}(h:At Λ φ s r R (f s) t):At Λ φ s r R (Mine.getS >>=f) t:=⟨h.go⟩
theorem VsR.one{φ:List Addr}{v:V}{xs:List Value}(h:VsR φ [v] xs):∃ x,xs= [x]/\VR φ v x:=by
 cases xs with
 | nil=>exact h.elim
 | cons x xs=>cases xs with
  | nil=>exact ⟨x,rfl,h.1⟩
  | cons _ _=>exact h.2.elim
theorem VsR.two{φ:List Addr}{u v:V}{xs:List Value}(h:VsR φ [u,v] xs):∃ x y,xs= [x,y]/\VR φ u x/\VR φ v y:=by
 cases xs with
 | nil=>exact h.elim
 | cons x xs=>obtain ⟨y,rfl,hy⟩:=VsR.one h.2;exact ⟨x,y,rfl,h.1,hy⟩
theorem VsR.three{φ:List Addr}{u v w:V}{xs:List Value}(h:VsR φ [u,v,w] xs):∃ x y z,xs= [x,y,z]/\VR φ u x/\VR φ v y/\VR φ w z:=by
 cases xs with
 | nil=>exact h.elim
 | cons x xs=>obtain ⟨y,z,rfl,hy,hz⟩:=VsR.two h.2;exact ⟨x,y,z,rfl,h.1,hy,hz⟩
theorem sorted_S(hh:Λ.A.handled=none){n:Nat}{x:Value}(ha:VR φ₀ (.ref n) x):Sim Λ φ₀ VR (cd_ "sorted" [.ref n]) (call (.builtin "sorted") [x]):=by
 refine Sim.of_at fun φ s r ex st=>?_;obtain ⟨ax,eax,rfl⟩:=ha.mono ex;show At Λ φ s r VR (Mine.geto n >>=fun o=>_) _;refine At.geto fun o ho=>?_;cases o with
 | list vs=>
  obtain ⟨xs,k,g,r1⟩:=st.lst ho eax;show At Λ φ s r VR (sortedM vs >>=fun l=>alloc (.list l) >>=fun n=>Pure.pure (V.ref n)) _;unfold sortedM;by_cases hz:vs.length < 64
  ·rw [decide_eq_true hz];show At Λ φ s r VR ((match sn_ vs with | some l=>Pure.pure l | none=>Mine.getS >>=fun s=>Mine.opt (pc_ s.h vs) >>=fun l=>Mine.need (d_ l) >>=fun _=>Pure.pure ((sa_ pa_ l).map (·.1))) >>=fun l=>alloc (.list l) >>=fun n=>Pure.pure (V.ref n)) _;cases hv:sn_ vs with
   | some us=>exact sortedL_S st hv hz g r1
   | none=>
    show At Λ φ s r VR ((Mine.getS >>=fun s=>Mine.opt (pc_ s.h vs) >>=fun l=>Mine.need (d_ l) >>=fun _=>Pure.pure ((sa_ pa_ l).map (·.1))) >>=fun l=>alloc (.list l) >>=fun n=>Pure.pure (V.ref n)) _;cases hp:pc_ s.h vs with
    | none=>exact ⟨fun _ _ _ nn _ _=>absurd (by
      show M.bind _ _ s=none;have:(Mine.getS >>=fun s=>Mine.opt (pc_ s.h vs) >>=fun l=>Mine.need (d_ l) >>=fun _=>(Pure.pure ((sa_ pa_ l).map (·.1)):M (List V))) s=none:=by
       show M.bind Mine.getS _ s=none;unfold M.bind Mine.getS;dsimp only;rw [hp];rfl
      unfold M.bind;rw [this]) nn⟩
    | some l=>
     cases hd:d_ l with
     | false=>exact ⟨fun _ _ _ nn _ _=>absurd (by
       show M.bind _ _ s=none;have:(Mine.getS >>=fun s=>Mine.opt (pc_ s.h vs) >>=fun l=>Mine.need (d_ l) >>=fun _=>(Pure.pure ((sa_ pa_ l).map (·.1)):M (List V))) s=none:=by
        show M.bind Mine.getS _ s=none;unfold M.bind Mine.getS;dsimp only;rw [hp];show (Mine.need (d_ l) >>=fun _=>(Pure.pure ((sa_ pa_ l).map (·.1)):M (List V))) s=none;rw [hd];rfl
       unfold M.bind;rw [this]) nn⟩
     | true=>
      have main:=sortedP_S st hp hd hz g r1;refine ⟨fun Q E pe nn ok ex=>?_⟩;have e:((Mine.getS >>=fun s=>Mine.opt (pc_ s.h vs) >>=fun l=>Mine.need (d_ l) >>=fun _=>(Pure.pure ((sa_ pa_ l).map (·.1)):M (List V))) >>=fun l=>alloc (.list l) >>=fun n=>Pure.pure (V.ref n)) s
        =(alloc (.list ((sa_ pa_ l).map (·.1))) >>=fun n=>(Pure.pure (V.ref n):M V)) s:=by
       have:(Mine.getS >>=fun s=>Mine.opt (pc_ s.h vs) >>=fun l=>Mine.need (d_ l) >>=fun _=>(Pure.pure ((sa_ pa_ l).map (·.1)):M (List V))) s=some (.ok ((sa_ pa_ l).map (·.1)),s):=by
        show M.bind Mine.getS _ s=_;unfold M.bind Mine.getS;dsimp only;rw [hp];show (Mine.need (d_ l) >>=fun _=>(Pure.pure ((sa_ pa_ l).map (·.1)):M (List V))) s=_;rw [hd];rfl
       exact bo_ this
      exact main.go Q E pe (by rwa [e] at nn) (fun a s' h=>ok a s' (by rw [e];exact h)) (fun c s' h=>ex c s' (by rw [e];exact h))
  ·rw [decide_eq_false hz];exact ⟨fun _ _ _ nn _ _=>absurd rfl nn⟩
 | dict es ep=>
  refine At.need fun hz=>?_;exact At.opt fun us hv=>sortedD_S hh st ho eax hv (of_decide_eq_true hz)
 | _=>exact At.fail
theorem bjoin_S{b:Array UInt8}{a:V}{u y:Value}(hu:VR φ₀ (.bytes b) u)(ha:VR φ₀ a y):Sim Λ φ₀ VR (cd_ "bytes.join" [.bytes b,a]) (call (.builtin "bytes.join") [u,y]):=by
 refine Sim.of_at fun φ s r ex st=>?_;obtain ⟨t,rfl⟩:=hu;show At Λ φ s r VR (Mine.listAt a >>=fun vs=>Mine.opt (bytesOf vs) >>=fun l=>Mine.need (decide _) >>=fun _=>Pure.pure (.bytes (Builtin.Bytes.joined b l))) _;refine At.listAt st (ha.mono ex) fun n vs ax xs k e1 h1 e2 eax g r1=>?_;subst e2;refine At.opt fun l hl=>At.need fun hn=>At.pure st fun Q E kk=>?_;obtain ⟨hn1,hn2,hn3⟩:=of_decide_eq_true hn;have fold:∀ (l:List (Array UInt8)) (a:Nat),l.foldl (· + ·.size) a=a+(l.map (·.size)).sum:=by
  intro l
  induction l with
  | nil=>intro a;simp
  | cons x l ih=>intro a;simp [ih];omega
 have hsz:(Builtin.Bytes.joined b l).size=(l.map (·.size)).sum:=by
  unfold Builtin.Bytes.joined;have:∀ (l:List (Array UInt8)) (k:Nat) (out:Array UInt8),((l.zipIdx k).foldl (fun out (x:Array UInt8×Nat)=>(if x.2 > 0 then out++b else out)++x.1) out).size=out.size+(l.map (·.size)).sum:=by
   intro l
   induction l with
   | nil=>intro k out;simp
   | cons x l ih=>
    intro k out;rw [List.zipIdx_cons,List.foldl_cons,ih];simp only [List.map_cons,List.sum_cons];split <;> simp [hn2] <;> omega
  have:=this l 0 #[];simpa using this
 have big:=sb_;refine bjoin_at g (bytesOf_are hl r1) hn1 ?_ ?_ (kk _ _ ⟨_,rfl⟩)
 ·unfold Builtin.Bytes.tooLong;simp only [List.foldl_toArray,decide_eq_false_iff_not];rw [fold];rw [hn2];simp;omega
 ·rw [hsz];omega
theorem callBi_S(hh:Λ.A.handled=none){id:String}{args:List V}{xs:List Value}(ha:VsR φ₀ args xs):Sim Λ φ₀ VR (cd_ id args) (call (.builtin id) xs):=by
 unfold cd_;split
 ·obtain ⟨x,rfl,h⟩:=ha.one;exact len_S h
 ·obtain ⟨x,rfl,h⟩:=ha.one;exact sum_S hh h
 ·obtain ⟨x,y,rfl,h1,h2⟩:=ha.two;exact max_S hh h1 h2
 ·obtain ⟨x,rfl,h⟩:=ha.one;exact all_S hh h
 ·obtain ⟨x,rfl,h⟩:=ha.one;exact sorted_S hh h
 ·obtain ⟨x,y,rfl,h1,h2⟩:=ha.two;exact get_S h1 h2
 ·obtain ⟨x,y,rfl,h1,h2⟩:=ha.two;exact dpop_S h1 h2
 ·obtain ⟨x,y,rfl,h1,h2⟩:=ha.two;exact append_S h1 h2
 ·obtain ⟨x,y,z,rfl,h1,h2,h3⟩:=ha.three;exact insert_S h1 h2 h3
 ·obtain ⟨x,y,rfl,h1,h2⟩:=ha.two;exact pop_S h1 h2
 ·obtain ⟨x,y,rfl,h1,h2⟩:=ha.two;exact sjoin_S h1 h2
 ·obtain ⟨x,y,rfl,h1,h2⟩:=ha.two;exact split_S h1 h2
 ·obtain ⟨x,y,rfl,h1,h2⟩:=ha.two;exact bjoin_S h1 h2
 ·exact Sim.fail
theorem range1_S{b:Int}{x:Value}(h:VR φ₀ (.int b) x):Sim Λ φ₀ VR (alloc (.rng 0 b 1) >>=fun n=>Pure.pure (V.ref n)) (call (.type "range") [x]):=by
 refine Sim.of_at fun φ s r ex st=>?_;obtain ⟨t,rfl⟩:=h;exact At.newV st _ {cls:= .type "range",data:= .fields #[.int 0 r.toks,.int b t,.int 1 (r.toks+1)]} _ (r.toks+1+1) rfl ⟨_,_,_,rfl⟩ (nr_ st) fun Q E k=>call_range_1 k
theorem range3_S{a b c:Int}{x y z:Value}(h1:VR φ₀ (.int a) x)(h2:VR φ₀ (.int b) y)(h3:VR φ₀ (.int c) z)(hn:0<=a/\a<=100000/\0<=b/\b<=100000/\0 < c/\c<=100000):
  Sim Λ φ₀ VR (alloc (.rng a b c) >>=fun n=>Pure.pure (V.ref n)) (call (.type "range") [x,y,z]):=by
 refine Sim.of_at fun φ s r ex st=>?_;obtain ⟨t,rfl⟩:=h1;obtain ⟨u,rfl⟩:=h2;obtain ⟨v,rfl⟩:=h3;exact At.newV st _ {cls:= .type "range",data:= .fields #[.int a t,.int b u,.int c v]} _ r.toks rfl ⟨_,_,_,rfl⟩ (nr_ st) fun Q E k=>call_range_3 (by omega) k (Or.inl (PyProof.noPylong_small (by omega)))
theorem list_S{a:V}{x:Value}(ha:VR φ₀ a x):Sim Λ φ₀ VR (callTy "list" [a]) (call (.type "list") [x]):=by
 refine Sim.of_at fun φ s r ex st=>?_;show At Λ φ s r VR (Mine.listAt a >>=fun vs=>Mine.need (decide _) >>=fun _=>alloc (.list vs) >>=fun n=>Pure.pure (V.ref n)) _;refine At.listAt st (ha.mono ex) fun n vs ax xs k e1 h1 e2 eax g r1=>?_;subst e2;refine At.need fun hn=>At.newList st _ fun Q E kk=>?_;have hn:=of_decide_eq_true hn;refine call_list_seq ax (.inl rfl) g rfl rfl (fun h' c' hk hD=>kk r.heap.objs.size _ h' r.toks xs c' hk Heap.fresh_none (Nat.ne_of_gt st.big) (by simpa using hD) r1 fun hf=>⟨_,hf,rfl⟩) ?_;rw [List.size_toArray,<-r1.length];exact Nat.le_trans hn sb_
theorem bytesL_S(hh:Λ.A.handled=none){n:Nat}{x:Value}(ha:VR φ₀ (.ref n) x):Sim Λ φ₀ VR (callTy "bytes" [.ref n]) (call (.type "bytes") [x]):=by
 refine Sim.of_at fun φ s r ex st=>?_;show At Λ φ s r VR (Mine.listAt (.ref n) >>=fun vs=>Mine.opt (ic_ vs) >>=fun ns=>Mine.need (decide _ && _) >>=fun _=>Pure.pure (V.bytes (byteArr ns))) _;refine At.listAt st (ha.mono ex) fun n vs ax xs k e1 h1 e2 eax g r1=>?_;subst e2;refine At.opt fun ns hns=>At.need fun hn=>?_;rw [Bool.and_eq_true] at hn;obtain ⟨hn1,hn2⟩:=hn;have hn1:=of_decide_eq_true hn1;rw [List.all_eq_true] at hn2;have hi:=intsOf_are hns r1;refine At.done (a:= .bytes (byteArr ns)) (s':=s) rfl fun Q E kk=>?_;refine call_bytes_ints (vs:=xs) (ns:=ns) ⟨_,g,rfl,_,rfl⟩ hi (fun n hm=>of_decide_eq_true (hn2 n hm)) ?_ hh fun h' t k hk=>?_
 ·rw [<-r1.length];exact Nat.le_trans (Nat.le_trans hn1 (by decide)) sb_
 ·exact kk φ _ _ (Ext.refl _) (st.keeps (tk:=k) (d:=r.drawn) hk) ⟨t,rfl⟩
theorem enum_new(b:Array UInt8)(t:Tok):
  Meets (Builtin.«enumerate.__new__» ⟨[.type "enumerate",.bytes b t],[]⟩) (fun _ R s=>
   R (.ok (.ret (.ref (s.heap.push {cls:= .type "bytes_iterator",data:= .fields #[.bytes b t,.int 0 0]}).objs.size)))
    {s with heap:=(s.heap.push {cls:= .type "bytes_iterator",data:= .fields #[.bytes b t,.int 0 0]}).push {cls:= .type "enumerate",data:= .fields #[.none,.bool false,.ref s.heap.objs.size,rawInt 0,.none,.none]}}):=
 .of_wp fun prog w A R s h=>by
  obtain ⟨hp,g,d,tk,os⟩:=s;have hsub:=sub_enumerate
  wp_walk
  refine wpAny_stack_any fun st=>wpAny_pure ?_;split
  ·rename_i c _ _ _ _ _;cases (c==Value.type "enumerate")
   ·wp_walk using KBw.pyIter_bytes
    exact ⟨_,rfl,h⟩
   ·wp_walk using KBw.pyIter_bytes
    exact ⟨_,rfl,h⟩
  ·wp_walk using KBw.pyIter_bytes
   exact ⟨_,rfl,h⟩
theorem call_enum{A:Around}{E:Value->Shared->Prop}{s:Shared}{b:Array UInt8}{t:Tok}{Q:Value->Shared->Prop}
  (h:Q (.ref (s.heap.objs.size+1)) {s with heap:=(s.heap.push {cls:= .type "bytes_iterator",data:= .fields #[.bytes b t,.int 0 0]}).push {cls:= .type "enumerate",data:= .fields #[.none,.bool false,.ref s.heap.objs.size,rawInt 0,.none,.none]}}):
  wpAny (model Λ.prog Λ.G.w) A (call (.type "enumerate") [.bytes b t]) Q E s:=by
 refine callType_new PySem.F.called_enumerate (by decide) (PySem.F.typeCall_enumerate_1 _) (PySem.F.newCall_enumerate_1 _) (fun obj=>PySem.F.args_object_init_2 obj _) PySem.F.entry_enumerate_new
  (enum_new b t) ?_
 have hz:(s.heap.push {cls:= .type "bytes_iterator",data:= .fields #[.bytes b t,.int 0 0]}).objs.size=s.heap.objs.size+1:=Heap.size_push ..;show _/\_;rw [hz];have he:IsEnum ((s.heap.push {cls:= .type "bytes_iterator",data:= .fields #[.bytes b t,.int 0 0]}).push
   {cls:= .type "enumerate",data:= .fields #[.none,.bool false,.ref s.heap.objs.size,rawInt 0,.none,.none]}) (s.heap.objs.size+1) s.heap.objs.size 0 .none:=by
  have:=Heap.get?_push_size (s.heap.push {cls:= .type "bytes_iterator",data:= .fields #[.bytes b t,.int 0 0]})
   (o:={cls:= .type "enumerate",data:= .fields #[.none,.bool false,.ref s.heap.objs.size,rawInt 0,.none,.none]}) rfl
  rw [hz] at this;exact this
 exact ⟨⟨_,he,rfl⟩,h⟩
theorem enum_S{b:Array UInt8}{x:Value}(ha:VR φ₀ (.bytes b) x):Sim Λ φ₀ VR (alloc (.itB b 0) >>=fun n=>alloc (.itE n 0 none) >>=fun e=>Pure.pure (V.ref e)) (call (.type "enumerate") [x]):=by
 refine Sim.of_at fun φ s r ex st=>?_;obtain ⟨t,rfl⟩:=ha;refine At.done (a:= .ref (s.h.length+1)) (s':={s with h:=s.h++ [.itB b 0]++ [.itE s.h.length 0 none]}) ?_ fun Q E k=>call_enum ?_
 ·show some (Res.ok (V.ref (s.h++ [O.itB b 0]).length),_)=_;simp
 have hz:(r.heap.push {cls:= .type "bytes_iterator",data:= .fields #[.bytes b t,.int 0 0]}).objs.size=r.heap.objs.size+1:=Heap.size_push ..;have st1:StL Λ (φ++ [r.heap.objs.size]) {s with h:=s.h++ [.itB b 0]} {r with heap:=r.heap.push {cls:= .type "bytes_iterator",data:= .fields #[.bytes b t,.int 0 0]}}:=
  st.alloc (tk:=r.toks) (fun b o e=>Heap.get?_push_of_some _ e) Heap.fresh_none (Heap.get?_push_size _ rfl) ⟨rfl,t,rfl⟩ (Nat.ne_of_gt st.big)
 have hin:(φ++ [r.heap.objs.size])[s.h.length]? =some r.heap.objs.size:=by rw [<-st.len];simp
 have st2:StL Λ (φ++ [r.heap.objs.size]++ [(r.heap.push {cls:= .type "bytes_iterator",data:= .fields #[.bytes b t,.int 0 0]}).objs.size]) {s with h:=s.h++ [.itB b 0]++ [.itE s.h.length 0 none]} {r with heap:=(r.heap.push {cls:= .type "bytes_iterator",data:= .fields #[.bytes b t,.int 0 0]}).push {cls:= .type "enumerate",data:= .fields #[.none,.bool false,.ref r.heap.objs.size,rawInt 0,.none,.none]}}:=
  st1.alloc (tk:=r.toks) (fun b o e=>Heap.get?_push_of_some _ e) Heap.fresh_none (Heap.get?_push_size _ rfl) ⟨_,_,_,old_ref hin,rfl,rfl⟩ (Nat.ne_of_gt st1.big)
 rw [hz] at st2;refine k _ _ _ ((Ext.one _ _).trans (Ext.one _ _)) st2 ⟨_,?_,rfl⟩;rw [<-st.len];simp
theorem callTy_S(hh:Λ.A.handled=none){n:String}{args:List V}{xs:List Value}(ha:VsR φ₀ args xs):Sim Λ φ₀ VR (callTy n args) (call (.type n) xs):=by
 unfold callTy;split
 ·obtain ⟨x,rfl,t,rfl⟩:=ha.one;exact Sim.pureT fun r Q E k=>call_bytes_bytes (k _ r.toks fun _ _=>⟨t,rfl⟩)
 ·obtain ⟨x,rfl,h⟩:=ha.one;exact bytesL_S hh h
 ·obtain ⟨x,rfl,h⟩:=ha.one;exact enum_S h
 ·obtain ⟨x,rfl,h⟩:=ha.one;exact list_S h
 ·obtain ⟨x,rfl,h⟩:=ha.one;exact range1_S h
 ·obtain ⟨x,y,z,rfl,h1,h2,h3⟩:=ha.three;exact Sim.need fun hn=>range3_S h1 h2 h3 (of_decide_eq_true hn)
 ·exact Sim.fail
end
end
section
open PyProof.Rows.LSm
set_option maxHeartbeats 2000000
theorem At.bind{α β γ δ:Type}{Λ:Lev}{φ:List Addr}{s:S}{r:Shared}{R:List Addr->α->β->Prop}{R':List Addr->γ->δ->Prop}{m:M α}{f:α->M γ}{t:Sem β}{g:β->Sem δ}(h:Sim Λ φ R m t)(st:StL Λ φ s r)
  (k:∀ φ' a b s' r',Ext φ φ'->m s=some (.ok a,s')->StL Λ φ' s' r'->R φ' a b->At Λ φ' s' r' R' (f a) (g b)):At Λ φ s r R' (m >>=f) (t >>=g):=by
 refine ⟨fun Q E pe nn ok exc=>wpAny_bind (h.run φ s r _ E (Ext.refl _) st pe (bind_some nn) (fun a s' ea φ' b r' x' st' hb=>?_) fun c s' ec=>exc c s' (ba_ ec))⟩;refine (k φ' a b s' r' x' ea st' hb).go Q E pe ?_ (fun a2 s2 e2 φ2 b2 r2 x2=>ok a2 s2 (by rw [bo_ ea];exact e2) φ2 b2 r2 (x'.trans x2)) (fun c s2 e2 φ2 b2 r2 x2=>exc c s2 (by rw [bo_ ea];exact e2) φ2 b2 r2 (x'.trans x2));rw [bo_ ea] at nn;exact nn
theorem Sim.holdBind{α β γ:Type}{Λ:Lev}{φ:List Addr}{R:List Addr->α->β->Prop}{m:M α}{vs:List Value}{t:Sem γ}{f:γ->Sem β}(h:Sim Λ φ R m (t >>=f)):Sim Λ φ R m (PySem.holding vs t >>=f):=
 ⟨fun φ s r Q E x st pe nn ok exc=>by
  have:=h.run φ s r Q E x st pe nn ok exc;intro Γ p hΓ;have h2:=this Γ p hΓ;rw [Sem.wp_bind'] at h2 ⊢;rw [Sem.wp_holding];exact h2⟩
theorem At.first{α β γ:Type}{Λ:Lev}{φ φ':List Addr}{s s':S}{r r':Shared}{R:List Addr->γ->β->Prop}{m:M α}{f:α->M γ}{a:α}{t u:Sem β}(ea:m s=some (.ok a,s'))(x':Ext φ φ')(h:At Λ φ' s' r' R (f a) t)
  (k:∀ (Q:β->Shared->Prop) (E:Value->Shared->Prop),wpAny (model Λ.prog Λ.G.w) Λ.A t Q E r'->wpAny (model Λ.prog Λ.G.w) Λ.A u Q E r):At Λ φ s r R (m >>=f) u:=by
 refine ⟨fun Q E pe nn ok exc=>k Q E (h.go Q E pe ?_ (fun a2 s2 e2 φ2 b2 r2 x2=>ok a2 s2 (by rw [bo_ ea];exact e2) φ2 b2 r2 (x'.trans x2)) (fun c s2 e2 φ2 b2 r2 x2=>exc c s2 (by rw [bo_ ea];exact e2) φ2 b2 r2 (x'.trans x2)))⟩;rw [bo_ ea] at nn;exact nn
theorem At.skipT{α β γ:Type}{Λ:Lev}{φ:List Addr}{s:S}{r:Shared}{R:List Addr->α->β->Prop}{m:M α}{u:Sem γ}{f:γ->Sem β}{c:γ}(h:At Λ φ s r R m (f c))(hu:∀ {A:Around} {E:Value->Shared->Prop} {Q:γ->Shared->Prop},Q c r->wpAny (model Λ.prog Λ.G.w) A u Q E r):At Λ φ s r R m (u >>=f):=
 ⟨fun Q E pe nn ok exc=>wpAny_bind (hu (h.go Q E pe nn ok exc))⟩
section
variable {Λ:Lev} {φ φ₀:List Addr} {K:Frag} {F:Fns} {ρ:Ev}
theorem Sim.release{α β:Type}{R:List Addr->α->β->Prop}{m:M α}{vs ks:List Value}{f:Unit->Sem β}(h:Sim Λ φ₀ R m (f ())):Sim Λ φ₀ R m (release vs ks >>=f):=
 Sim.skip (fun q=>wpAny_release (q ())) fun _=>h
theorem truthy_S{v:V}{x:Value}(h:VR φ₀ v x):Sim Λ φ₀ (fun _ a b=>a=b) (tb_ v) (truthy x):=by
 unfold tb_;split
 ·cases h;exact Sim.pureT fun r Q E k=>truthy_none (k _ r.toks fun _ _=>rfl)
 ·cases h;exact Sim.pureT fun r Q E k=>wpAny_truthy_bool (k _ r.toks fun _ _=>rfl)
 ·exact Sim.fail
variable (W:Wd Λ.G K) (So:Sound Λ.prog Λ.G F) (e:EvR Λ φ₀ ρ)
include So e
theorem eo_(x:Expr)(ex:Ext φ₀ φ):Sim Λ φ VR (F.ev x ρ) (eval x Λ.env):=So.ev Λ ρ φ x rfl rfl (e.mono ex)
theorem tr_of(x:Expr)(ex:Ext φ₀ φ):Sim Λ φ (fun _ a b=>a=b) (F.tr x ρ) (isTrue x Λ.env (eval x Λ.env)):=So.tr Λ ρ φ x rfl rfl (e.mono ex)
theorem bin_E(l r:Expr)(op:Operator)(pos:Pos):Sim Λ φ₀ VR (F.ev l ρ >>=fun a=>F.ev r ρ >>=fun b=>binM op a b) (eval (.BinOp l op r pos) Λ.env):=by
 show Sim Λ φ₀ VR _ (eval l Λ.env >>=fun a=>holding [a] (eval r Λ.env) >>=fun b=>standAt pos >>=fun _=>operate [a,b] (binaryOp op a b));refine Sim.bind (eo_ So e l (Ext.refl _)) fun φ a x ex ha=>Sim.bind (Sim.holding (eo_ So e r ex)) fun φ' b y ex' hb=>Sim.at (Sim.operate (bin_S op (ha.mono ex') hb))
theorem un_E(op:UnaryOp)(x:Expr)(pos:Pos):Sim Λ φ₀ VR (unM F op x ρ) (eval (.UnaryOp op x pos) Λ.env):=by
 show Sim Λ φ₀ VR _ (eval x Λ.env >>=fun v=>standAt pos >>=fun _=>holding [v] (unaryOp op v));unfold unM;split
 ·refine Sim.bind (eo_ So e x (Ext.refl _)) fun φ a y ex ha=>Sim.at (Sim.holding ?_);refine ⟨fun φ' s r Q E x' st pe nn ok exc=>not_of ?_⟩;have h:=(truthy_S (Λ:=Λ) ha).run φ' s r (fun c s'=>Q (.bool (!c)) s') E x' st pe (bind_some nn);refine h (fun k s' ek φ'' b r' x'' st' hb=>?_) (fun c s' ek=>?_)
  ·subst hb;exact ok (.bool (!k)) s' (by rw [bo_ ek];rfl) φ'' _ r' x'' st' rfl
  ·exact exc c s' (ba_ ek)
 ·refine Sim.bind (eo_ So e x (Ext.refl _)) fun φ a y ex ha=>Sim.at (Sim.holding ?_);split
  ·obtain ⟨t,rfl⟩:=ha;exact Sim.pureT fun r Q E k=>PyProof.Rows.neg_int (k _ _ fun _ _=>⟨_,rfl⟩)
  ·exact Sim.fail
 ·exact Sim.fail
theorem if_E(t b o:Expr)(pos:Pos):Sim Λ φ₀ VR (F.tr t ρ >>=fun c=>if c then F.ev b ρ else F.ev o ρ) (eval (.IfExp t b o pos) Λ.env):=by
 show Sim Λ φ₀ VR _ (isTrue t Λ.env (eval t Λ.env) >>=fun c=>if c then eval b Λ.env else eval o Λ.env);refine Sim.bind (tr_of So e t (Ext.refl _)) fun φ a y ex ha=>?_;subst ha;cases a with
 | true=>exact eo_ So e b ex
 | false=>exact eo_ So e o ex
theorem bool_E(op:BoolOp)(pos:Pos):∀ (vs:List Expr) {φ:List Addr},Ext φ₀ φ->Sim Λ φ VR (boolM F ρ op vs) (boolOp pos op (evalEach vs Λ.env))
 | [],_,_=>Sim.fail
 | [x],_,ex=>eo_ So e x ex
 | x::y::r,φ,ex=>by
  show Sim Λ φ VR (F.ev x ρ >>=fun v=>tb_ v >>=fun t=>match op,t with | .And,false=>Pure.pure v | .Or,true=>Pure.pure v | _,_=>boolM F ρ op (y::r))
   (eval x Λ.env >>=fun v=>standAt pos >>=fun _=>holding [v] (truthy v) >>=fun t=>match op,t with | .And,false | .Or,true=>Pure.pure v | _,_=>boolOp pos op (evalEach (y::r) Λ.env))
  refine Sim.bind (eo_ So e x ex) fun φ1 a v ex1 ha=>Sim.at (Sim.bind (Sim.holding (truthy_S ha)) fun φ2 k k' ex2 hk=>?_);subst hk;have rest:=bool_E op pos (y::r) ((ex.trans ex1).trans ex2);have here:Sim Λ φ2 VR (Pure.pure a) (Pure.pure v):=Sim.pure fun φ' ex'=>(ha.mono ex2).mono ex';cases op <;> cases k <;> first | exact here | exact rest
theorem allTr_E(op:BoolOp):∀ (vs:List Expr) {φ:List Addr},Ext φ₀ φ->Sim Λ φ (fun _ a b=>a=b) (allTrM F ρ op vs) (allTrue op vs Λ.env)
 | [],_,_=>Sim.pure fun _ _=>rfl
 | x::r,φ,ex=>by
  show Sim Λ φ _ (F.tr x ρ >>=fun t=>match op,t with | .And,false=>Pure.pure false | .Or,true=>Pure.pure true | _,_=>allTrM F ρ op r)
   (isTrue x Λ.env (eval x Λ.env) >>=fun t=>match op,t with | .And,false=>Pure.pure false | .Or,true=>Pure.pure true | _,_=>allTrue op r Λ.env)
  refine Sim.bind (tr_of So e x ex) fun φ1 a v ex1 ha=>?_;subst ha;have rest:=allTr_E op r (ex.trans ex1);cases op <;> cases a <;> first | exact Sim.pure fun _ _=>rfl | exact rest
omit So e in
theorem behind_of{op:CmpOp}{x:Expr}(h:nb_ x=true):behindInMarks op x=false:=by cases x <;> first | rfl | cases h
omit So e in
theorem me_:∀ (ops:List CmpOp) (xs:List Expr) (ts:List (Sem Value)),xs.all nb_=true->markedEach ops xs ts=ts
 | [op],[x],[t],h=>by
  rw [List.all_cons,Bool.and_eq_true] at h;show [markedBehindIn op x t]=_;rw [markedBehindIn_of_false (behind_of h.1)]
 | [],_,_,_=>by simp [markedEach]
 | [_],[],_,_=>by simp [markedEach]
 | [_],[_],[],_=>by simp [markedEach]
 | [_],[_],_::_::_,_=>by simp [markedEach]
 | [op],x::y::xs,[],h=>by simp [markedEach]
 | [op],x::y::xs,t::ts,h=>by
  rw [List.all_cons,Bool.and_eq_true] at h;show t::markedEach [] (y::xs) ts=_;rw [me_ [] (y::xs) ts h.2]
 | o1::o2::os,[],ts,_=>by simp [markedEach]
 | o1::o2::os,x::xs,[],_=>by simp [markedEach]
 | o1::o2::os,x::xs,t::ts,h=>by
  rw [List.all_cons,Bool.and_eq_true] at h;show t::markedEach (o2::os) xs ts=_;rw [me_ (o2::os) xs ts h.2]
theorem chain_E(pos:Pos):∀ (ops:List CmpOp) (xs:List Expr) {φ:List Addr} {a:V} {x:Value},Ext φ₀ φ->VR φ a x->Sim Λ φ BoolR (chainM F ρ a ops xs) (compareChain pos x ops (evalEach xs Λ.env))
 | [op],[y],φ,a,x,ex,ha=>by
  show Sim Λ φ BoolR (F.ev y ρ >>=fun r=>cmpM op a r) (holding [x] (eval y Λ.env) >>=fun rv=>standAt pos >>=fun _=>operate [x,rv] (compareOp op x rv));refine Sim.bind (Sim.holding (eo_ So e y ex)) fun φ1 b v ex1 hb=>Sim.at (Sim.operate (cmp_S op ?_ (ha.mono ex1) hb));exact Nat.lt_of_le_of_lt (by omega) e.a.units
 | op::o2::os,y::ys,φ,a,x,ex,ha=>by
  have hu:Λ.A.units < cLine:=Nat.lt_of_le_of_lt (by omega) e.a.units;show Sim Λ φ BoolR (F.ev y ρ >>=fun r=>cmpM op a r >>=fun k=>if k then chainM F ρ r (o2::os) ys else Pure.pure false)
   (holding [x] (eval y Λ.env) >>=fun rv=>standAt pos >>=fun _=>holding [x,rv] (compareOp op x rv) >>=fun c=>release [x,rv] [c] >>=fun _=>holding [c,rv] (truthy c) >>=fun t=>if t then compareChain pos rv (o2::os) (evalEach ys Λ.env) else Pure.pure c)
  refine Sim.bind (Sim.holding (eo_ So e y ex)) fun φ1 b v ex1 hb=>Sim.at (Sim.bind (Sim.holding (cmp_S op hu (ha.mono ex1) hb)) fun φ2 k c ex2 hk=>Sim.release ?_);cases hk;refine ⟨fun φ3 s r Q E ex3 st pe nn ok exc=>wpAny_bind (wpAny_holding (wpAny_truthy_bool ?_))⟩;cases k with
  | true=>exact (chain_E pos (o2::os) ys ((ex.trans ex1).trans ex2) (hb.mono ex2)).run φ3 s r Q E ex3 st pe nn ok exc
  | false=>exact (Sim.pure fun _ _=>rfl:Sim Λ φ2 BoolR (Pure.pure false) (Pure.pure (Value.bool false))).run φ3 s r Q E ex3 st pe nn ok exc
 | [],_,_,_,_,_,_=>Sim.fail
 | [_],[],_,_,_,_,_=>Sim.fail
 | [op],y::y2::ys,φ,a,x,ex,ha=>by
  have hu:Λ.A.units < cLine:=Nat.lt_of_le_of_lt (by omega) e.a.units;show Sim Λ φ BoolR (F.ev y ρ >>=fun r=>cmpM op a r >>=fun k=>if k then chainM F ρ r [] (y2::ys) else Pure.pure false)
   (holding [x] (eval y Λ.env) >>=fun rv=>standAt pos >>=fun _=>holding [x,rv] (compareOp op x rv) >>=fun c=>release [x,rv] [c] >>=fun _=>holding [c,rv] (truthy c) >>=fun t=>if t then compareChain pos rv [] (evalEach (y2::ys) Λ.env) else Pure.pure c)
  refine Sim.bind (Sim.holding (eo_ So e y ex)) fun φ1 b v ex1 hb=>Sim.at (Sim.bind (Sim.holding (cmp_S op hu (ha.mono ex1) hb)) fun φ2 k c ex2 hk=>Sim.release ?_);cases hk;refine ⟨fun φ3 s r Q E ex3 st pe nn ok exc=>wpAny_bind (wpAny_holding (wpAny_truthy_bool ?_))⟩;cases k with
  | true=>exact absurd rfl nn
  | false=>exact (Sim.pure fun _ _=>rfl:Sim Λ φ2 BoolR (Pure.pure false) (Pure.pure (Value.bool false))).run φ3 s r Q E ex3 st pe nn ok exc
 | _::_::_,[],_,_,_,_,_=>Sim.fail
theorem testChain_E(pos:Pos):∀ (ops:List CmpOp) (xs:List Expr) {φ:List Addr} {a:V} {x:Value},Ext φ₀ φ->VR φ a x->Sim Λ φ (fun _ a b=>a=b) (chainM F ρ a ops xs) (testChain pos x ops (evalEach xs Λ.env))
 | [op],[y],φ,a,x,ex,ha=>by
  have hu:Λ.A.units < cLine:=Nat.lt_of_le_of_lt (by omega) e.a.units;show Sim Λ φ _ (F.ev y ρ >>=fun r=>cmpM op a r) (holding [x] (eval y Λ.env) >>=fun rv=>standAt pos >>=fun _=>operate [x,rv] (compareOp op x rv) >>=fun c=>holding [c] (truthy c));refine Sim.bind (Sim.holding (eo_ So e y ex)) fun φ1 b v ex1 hb=>Sim.at ?_;refine ⟨fun φ3 s r Q E ex3 st pe nn ok exc=>wpAny_bind ((Sim.operate (cmp_S op hu (ha.mono ex1) hb)).run φ3 s r _ E ex3 st pe nn (fun k s' ek φ' c r' x' st' hc=>?_) exc)⟩;cases hc;exact wpAny_holding (wpAny_truthy_bool (ok k s' ek φ' k r' x' st' rfl))
 | op::o2::os,y::ys,φ,a,x,ex,ha=>by
  have hu:Λ.A.units < cLine:=Nat.lt_of_le_of_lt (by omega) e.a.units;show Sim Λ φ _ (F.ev y ρ >>=fun r=>cmpM op a r >>=fun k=>if k then chainM F ρ r (o2::os) ys else Pure.pure false)
   (holding [x] (eval y Λ.env) >>=fun rv=>standAt pos >>=fun _=>holding [x,rv] (compareOp op x rv) >>=fun c=>release [x,rv] [c] >>=fun _=>holding [c,rv] (truthy c) >>=fun t=>if t then testChain pos rv (o2::os) (evalEach ys Λ.env) else Pure.pure false)
  refine Sim.bind (Sim.holding (eo_ So e y ex)) fun φ1 b v ex1 hb=>Sim.at (Sim.bind (Sim.holding (cmp_S op hu (ha.mono ex1) hb)) fun φ2 k c ex2 hk=>Sim.release ?_);cases hk;refine ⟨fun φ3 s r Q E ex3 st pe nn ok exc=>wpAny_bind (wpAny_holding (wpAny_truthy_bool ?_))⟩;cases k with
  | true=>exact (testChain_E pos (o2::os) ys ((ex.trans ex1).trans ex2) (hb.mono ex2)).run φ3 s r Q E ex3 st pe nn ok exc
  | false=>exact (Sim.pure fun _ _=>rfl:Sim Λ φ2 (fun _ a b=>a=b) (Pure.pure false) (Pure.pure false)).run φ3 s r Q E ex3 st pe nn ok exc
 | [],_,_,_,_,_,_=>Sim.fail
 | [_],[],_,_,_,_,_=>Sim.fail
 | [op],y::y2::ys,φ,a,x,ex,ha=>by
  have hu:Λ.A.units < cLine:=Nat.lt_of_le_of_lt (by omega) e.a.units;show Sim Λ φ _ (F.ev y ρ >>=fun r=>cmpM op a r >>=fun k=>if k then chainM F ρ r [] (y2::ys) else Pure.pure false)
   (holding [x] (eval y Λ.env) >>=fun rv=>standAt pos >>=fun _=>holding [x,rv] (compareOp op x rv) >>=fun c=>release [x,rv] [c] >>=fun _=>holding [c,rv] (truthy c) >>=fun t=>if t then testChain pos rv [] (evalEach (y2::ys) Λ.env) else Pure.pure false)
  refine Sim.bind (Sim.holding (eo_ So e y ex)) fun φ1 b v ex1 hb=>Sim.at (Sim.bind (Sim.holding (cmp_S op hu (ha.mono ex1) hb)) fun φ2 k c ex2 hk=>Sim.release ?_);cases hk;refine ⟨fun φ3 s r Q E ex3 st pe nn ok exc=>wpAny_bind (wpAny_holding (wpAny_truthy_bool ?_))⟩;cases k with
  | true=>exact absurd rfl nn
  | false=>exact (Sim.pure fun _ _=>rfl:Sim Λ φ2 (fun _ a b=>a=b) (Pure.pure false) (Pure.pure false)).run φ3 s r Q E ex3 st pe nn ok exc
 | _::_::_,[],_,_,_,_,_=>Sim.fail
theorem cmp_E(l:Expr)(ops:List CmpOp)(rs:List Expr)(pos:Pos):Sim Λ φ₀ VR (Mine.need (rs.all nb_) >>=fun _=>F.ev l ρ >>=fun a=>chainM F ρ a ops rs >>=fun k=>Pure.pure (.bool k)) (eval (.Compare l ops rs pos) Λ.env):=by
 refine Sim.need fun hn=>?_;show Sim Λ φ₀ VR _ (eval l Λ.env >>=fun a=>compareChain pos a ops (markedEach ops rs (evalEach rs Λ.env)));rw [me_ ops rs _ hn];refine Sim.bind (eo_ So e l (Ext.refl _)) fun φ a x ex ha=>?_;refine ⟨fun φ3 s r Q E ex3 st pe nn ok exc=>?_⟩;refine (chain_E So e pos ops rs ex ha).run φ3 s r Q E ex3 st pe (bind_some nn) (fun k s' ek φ' c r' x' st' hc=>?_) fun c s' ec=>exc c s' (ba_ ec);cases hc;exact ok (.bool k) s' (by rw [bo_ ek];rfl) φ' _ r' x' st' rfl
omit So e in
theorem sl_{x:Expr}{r:List Expr}{env:Env}(h:∀ y p,x≠ .Starred y p):starEach (x::r) env=(false,eval x env)::starEach r env:=by
 cases x <;> first | rfl | exact absurd rfl (h _ _)
theorem evs_E(pos:Pos):∀ (xs:List Expr) {φ:List Addr},Ext φ₀ φ->Sim Λ φ VsR (evs F xs ρ) (spliced (backTo pos (starEach xs Λ.env)))
 | [],_,_=>Sim.pure fun _ _=>trivial
 | x::r,φ,ex=>by
  by_cases h:∃ y p,x= .Starred y p
  ·obtain ⟨y,p,rfl⟩:=h;exact Sim.fail
  ·have h:∀ y p,x≠ .Starred y p:=fun y p q=>h ⟨y,p,q⟩;have e1:evs F (x::r) ρ=(F.ev x ρ >>=fun v=>evs F r ρ >>=fun l=>Pure.pure (v::l)):=by
    cases x <;> first | rfl | exact absurd rfl (h _ _)
   rw [e1,sl_ h];show Sim Λ φ VsR _ (eval x Λ.env >>=fun v=>Pure.pure [v] >>=fun here=>holding here (spliced (backTo pos (starEach r Λ.env))) >>=fun l=>Pure.pure (here++l));refine Sim.bind (eo_ So e x ex) fun φ1 a v ex1 ha=>?_;rw [pure_bind];refine Sim.bind (Sim.holding (evs_E pos r (ex.trans ex1))) fun φ2 l l' ex2 hl=>Sim.pure fun φ3 ex3=>⟨(ha.mono ex2).mono ex3,hl.mono ex3⟩
end
section
variable {Λ:Lev} {φ φ₀:List Addr} {K:Frag} {F:Fns} {ρ:Ev}
theorem evs_length{F:Fns}{ρ:Ev}:∀ {xs:List Expr} {vs:List V} {s s':S},evs F xs ρ s=some (.ok vs,s')->vs.length=xs.length
 | [],vs,s,s',h=>by cases h;rfl
 | x::r,vs,s,s',h=>by
  by_cases hx:∃ y p,x= .Starred y p
  ·obtain ⟨y,p,rfl⟩:=hx;cases h
  ·have hx:∀ y p,x≠ .Starred y p:=fun y p q=>hx ⟨y,p,q⟩;have e1:evs F (x::r) ρ=(F.ev x ρ >>=fun v=>evs F r ρ >>=fun l=>Pure.pure (v::l)):=by
    cases x <;> first | rfl | exact absurd rfl (hx _ _)
   rw [e1] at h;obtain ⟨v,s1,h1,h2⟩:=bd_ h;obtain ⟨l,s2,h3,h4⟩:=bd_ h2;cases h4;simp [evs_length h3]
variable (So:Sound Λ.prog Λ.G F) (e:EvR Λ φ₀ ρ)
include So e
theorem list_E(xs:List Expr)(pos:Pos):Sim Λ φ₀ VR (Mine.need (decide (xs.length<=1000)) >>=fun _=>evs F xs ρ >>=fun l=>alloc (.list l) >>=fun n=>Pure.pure (.ref n)) (eval (.List xs pos) Λ.env):=by
 refine Sim.need fun hn=>?_;have hn:=of_decide_eq_true hn;show Sim Λ φ₀ VR _ (standAt pos >>=fun _=>spliced (backTo pos (starEach xs Λ.env)) >>=fun l=>PySem.newList l);refine Sim.at ⟨fun φ s r Q E ex st pe nn ok exc=>wpAny_bind ((evs_E So e pos xs (Ext.refl _)).run φ s r _ E ex st pe (bind_some nn) (fun vs s' ev φ' l r' x' st' hl=>?_) fun c s' ec=>exc c s' (ba_ ec))⟩;have hlen:l.length<=1000:=by rw [<-hl.length,evs_length ev];exact hn
 refine (At.newV (R:=VR) st' (.list vs) {cls:= .type "list",data:= .seq l.toArray} (.ref r'.heap.objs.size) r'.toks rfl ⟨⟨rfl,rfl,rfl⟩,l,0,rfl,hl.mono (Ext.one _ _)⟩ (nr_ st') fun Q E k=>wpAny_newList k (Nat.le_trans hlen (Nat.le_trans (by decide) sb_))).go Q E pe ?_ (fun a s2 ea φ2 b r2 x2=>ok a s2 (by rw [bo_ ev];exact ea) φ2 b r2 (x'.trans x2)) (fun c s2 ec φ2 b r2 x2=>exc c s2 (by rw [bo_ ev];exact ec) φ2 b r2 (x'.trans x2));rw [bo_ ev] at nn;exact nn
theorem tup_E(xs:List Expr)(cx:Nat)(pos:Pos):Sim Λ φ₀ VR (Mine.need (decide (xs.length<=1000)) >>=fun _=>evs F xs ρ >>=fun l=>alloc (.tup l) >>=fun n=>Pure.pure (.ref n)) (eval (.Tuple xs cx pos) Λ.env):=by
 refine Sim.need fun hn=>?_;have hn:=of_decide_eq_true hn;show Sim Λ φ₀ VR _ (standAt pos >>=fun _=>spliced (backTo pos (starEach xs Λ.env)) >>=fun l=>PySem.newTuple l);refine Sim.at (Sim.of_at fun φ s r ex st=>At.bind (evs_E So e pos xs ex) st fun φ' vs l s' r' x' ev st' hl=>?_);have hlen:l.length<=1000:=by rw [<-hl.length,evs_length ev];exact hn
 exact At.newV st' (.tup vs) {cls:= .type "tuple",data:= .seq l.toArray} (.ref r'.heap.objs.size) r'.toks rfl ⟨rfl,l,0,rfl,hl.mono (Ext.one _ _)⟩ (nr_ st') fun Q E k=>wpAny_newTuple k (Nat.le_trans hlen (Nat.le_trans (by decide) sb_))
omit So e in
theorem base_plain{o:Expr}{name:Str}{env:Env}{whole:Sem Value}(h:pf_ o=true):attributeBase o name env whole=whole:=by
 unfold attributeBase;split
 ·cases h
 ·rfl
theorem optE_E(x:Option Expr){φ:List Addr}(ex:Ext φ₀ φ):Sim Λ φ VR (optE F x ρ) (valueOrNone (evalOpt x Λ.env)):=by
 cases x with
 | none=>exact Sim.pure fun _ _=>rfl
 | some y=>exact eo_ So e y ex
omit So e in
theorem subPlain{o i:Expr}{pos:Pos}{env:Env}:eval (.Subscript o i pos) env=(eval o env >>=fun ov=>holding [ov] (eval i env) >>=fun iv=>standAt pos >>=fun _=>subscriptTail o i ov iv):=rfl
theorem sub_E(o i:Expr)(pos:Pos):Sim Λ φ₀ VR (subE F o i ρ) (eval (.Subscript o i pos) Λ.env):=by
 rw [subPlain];have plain:Sim Λ φ₀ VR (F.ev o ρ >>=fun ov=>F.ev i ρ >>=fun iv=>itemM ov iv) (eval o Λ.env >>=fun ov=>holding [ov] (eval i Λ.env) >>=fun iv=>standAt pos >>=fun _=>subscriptTail o i ov iv):=
  Sim.bind (eo_ So e o (Ext.refl _)) fun φ a x ex ha=>Sim.bind (Sim.holding (eo_ So e i ex)) fun φ' b y ex' hb=>Sim.at (item_S (ha.mono ex') hb o i)
 unfold subE;split
 ·rename_i lo hi st p;show Sim Λ φ₀ VR _ (eval o Λ.env >>=fun ov=>holding [ov] (valueOrNone (evalOpt lo Λ.env) >>=fun l=>holding [l] (valueOrNone (evalOpt hi Λ.env)) >>=fun u=>holding [l,u] (valueOrNone (evalOpt st Λ.env)) >>=fun s=>newFields "slice" [l,u,s]) >>=fun iv=>standAt pos >>=fun _=>subscriptTail o (.Slice lo hi st p) ov iv);refine Sim.bind (eo_ So e o (Ext.refl _)) fun φ1 a x ex1 ha=>Sim.holdBind (Sim.assoc ?_);refine Sim.bind (optE_E So e lo ex1) fun φ2 l y ex2 hl=>Sim.assoc (Sim.holdBind ?_);refine Sim.bind (optE_E So e hi (ex1.trans ex2)) fun φ3 u z ex3 hu=>Sim.assoc (Sim.holdBind ?_);refine Sim.bind (optE_E So e st ((ex1.trans ex2).trans ex3)) fun φ4 t w ex4 ht=>?_;exact slice_S (((ha.mono ex2).mono ex3).mono ex4) ((hl.mono ex3).mono ex4) (hu.mono ex4) ht o (.Slice lo hi st p) pos
 ·exact plain
theorem attr_E(W:Wd Λ.G K)(o:Expr)(name:Str)(pos:Pos):Sim Λ φ₀ VR (Mine.need (pf_ o) >>=fun _=>F.ev o ρ >>=fun ov=>getAttrM K ov name) (eval (.Attribute o name pos) Λ.env):=by
 refine Sim.need fun hn=>?_;show Sim Λ φ₀ VR _ (attributeBase o name Λ.env (eval o Λ.env) >>=fun ov=>standAt pos.atName >>=fun _=>holding [ov] (getAttr ov name true) >>=fun r=>letTemporaryGo o ov r >>=fun _=>Pure.pure r);rw [base_plain hn];refine Sim.bind (eo_ So e o (Ext.refl _)) fun φ a x ex ha=>Sim.at ?_;refine ⟨fun φ s r Q E x' st pe nn ok exc=>wpAny_bind (wpAny_holding ((getAttr_S W ha name true).run φ s r _ E x' st pe nn (fun b s' eb φ' y r' x'' st' hb=>?_) exc))⟩;exact wpAny_bind (wpAny_letTemporaryGo (wpAny_pure (ok b s' eb φ' y r' x'' st' hb)))
end
end
section
open PyProof.Rows.LSm
set_option maxHeartbeats 2000000
section
variable {Λ:Lev} {φ φ₀:List Addr} {K:Frag} {F:Fns} {ρ:Ev} {s:S} {r:Shared}
theorem called_keep(W:Wd Λ.G K)(st:StL Λ φ s r){f:V}{x:Value}(hf:VR φ f x){u:Unit}{s':S}(h:cj_ K f s=some (.ok u,s')):s'=s/\∃ k,(k=Keeper.frame\/k=Keeper.machine\/k=Keeper.boundFrame)/\Looks (model Λ.prog Λ.G.w) r.heap (keeperOf x) k:=by
 cases f <;> simp only [cj_] at h <;> try cases h
 ·obtain ⟨a,ea,rfl⟩:=hf;obtain ⟨o,s1,h1,h2⟩:=bd_ h;obtain ⟨h1,rfl⟩:=geto_ok h1;cases o <;> try cases h2
  obtain ⟨ob,g,q,cl,pm,c,ct,rfl,_⟩:=st.at h1 (by simp) ea;exact ⟨rfl,.frame,.inl rfl,(Looks.ld (part:=none) g).andThen .now⟩
 ·cases hf;obtain ⟨h1,rfl⟩:=need_ok h;exact ⟨rfl,keeps_K h1 _ (W.X.keeps st.base)⟩
 ·cases hf;exact ⟨rfl,.machine,.inr (.inl rfl),Looks.of_pure rfl⟩
 ·cases hf;exact ⟨rfl,.machine,.inr (.inl rfl),Looks.of_pure rfl⟩
theorem calledM_res{f:V}{s:S}{res:Res Unit}{s':S}(h:cj_ K f s=some (res,s')):∃ u,res= .ok u:=by
 cases f <;> simp only [cj_] at h <;> try cases h
 ·change M.bind _ _ s=_ at h;unfold M.bind geto at h;split at h
  ·cases h
  ·rename_i o s1 e;cases o <;> try cases h
   exact ⟨_,rfl⟩
  ·rename_i c s1 e;split at e <;> cases e
 ·unfold need at h;split at h <;> cases h;exact ⟨_,rfl⟩
 ·exact ⟨_,rfl⟩
 ·exact ⟨_,rfl⟩
theorem evalArgs_any{M:Model}{A:Around}{E:Value->Shared->Prop}{s:Shared}{f:Value}{pos:Pos}{xs:List Expr}{env:Env}{Q:Args->Shared->Prop}(hn:xs.all na_=true)(h:wpAny M A (spliced (backTo pos (starEach xs env))) (fun vs s'=>Q ⟨vs,[]⟩ s') E s):
  wpAny M A (evalArgs f true (backTo pos (starEach xs env)) []) Q E s:=by
 cases xs with
 | nil=>
  intro Γ p hΓ;exact evalArgs_nil3 (show Q ⟨[],[]⟩ s from h Γ p hΓ) Γ p hΓ
 | cons x r=>
  rw [List.all_cons,Bool.and_eq_true] at hn;rw [sl_ (by intro y p e;rw [e] at hn;cases hn.1)] at h ⊢;exact evalArgs_plain h
theorem bp_{pos:Pos}:∀ {xs:List Expr} {env:Env},xs.all na_=true->(backTo pos (starEach xs env)).any (·.1)=false/\(backTo pos (starEach xs env)).all (fun p=>!p.1)=true
 | [],_,_=>⟨rfl,rfl⟩
 | x::r,env,hn=>by
  rw [List.all_cons,Bool.and_eq_true] at hn;rw [sl_ (by intro y p e;rw [e] at hn;cases hn.1)];obtain ⟨a,b⟩:=bp_ (pos:=pos) (env:=env) hn.2;exact ⟨by show (false || _)=false;rw [Bool.false_or];exact a,by show (true && _)=true;rw [Bool.true_and];exact b⟩
variable (W:Wd Λ.G K) (So:Sound Λ.prog Λ.G F) (e:EvR Λ φ₀ ρ)
include W So e
theorem callWith_E(pos:Pos){f:V}{x:Value}{us:List V}{ys:List Value}(args:List Expr)(hn:args.all na_=true){φ:List Addr}(ex:Ext φ₀ φ)(hf:VR φ f x)(hu:VsR φ us ys):
  Sim Λ φ VR (evs F args ρ >>=fun vs=>cj_ K f >>=fun _=>F.call f (us++vs) ρ.d) (callWith pos x ys (backTo pos (starEach args Λ.env)) []):=by
 refine ⟨fun φ1 s r Q E ex1 st pe nn ok exc=>?_⟩;have pl:=bp_ (pos:=pos) (env:=Λ.env) hn;refine callWith_of (P:=fun h=>∃ k,(k=Keeper.frame\/k=Keeper.machine\/k=Keeper.boundFrame)/\Looks (model Λ.prog Λ.G.w) h (keeperOf x) k) (by rw [pl.1];rfl) (fun _ h=>h) (evalArgs_any hn ?_);refine (evs_E So e pos args (ex.trans ex1)).run φ1 s r _ E (Ext.refl _) st pe (bind_some nn) (fun vs s' ev φ2 zs r' x2 st' hz=>?_) fun c s' ec=>exc c s' (ba_ ec);rw [bo_ ev] at nn;cases hc:cj_ K f s' with
 | none=>rw [bb_ hc] at nn;exact absurd rfl nn
 | some p=>
  obtain ⟨res,s1⟩:=p;obtain ⟨u,rfl⟩:=calledM_res hc;obtain ⟨rfl,kp⟩:=called_keep W st' ((hf.mono ex1).mono x2) hc;rw [bo_ hc] at nn;refine ⟨kp,(So.call Λ φ2 f x (us++vs) (ys++zs) ρ.d rfl rfl e.a ((hf.mono ex1).mono x2) (((hu.mono ex1).mono x2).append hz)).run φ2 s1 r' Q E (Ext.refl _) st' pe nn (fun a s2 e2 φ3 b r2 x3=>ok a s2 (by rw [bo_ ev,bo_ hc];exact e2) φ3 b r2 (x2.trans x3)) (fun c s2 e2 φ3 b r2 x3=>exc c s2 (by rw [bo_ ev,bo_ hc];exact e2) φ3 b r2 (x2.trans x3))⟩
theorem call_E(f:Expr)(args:List Expr)(kws:List Keyword)(pos:Pos):Sim Λ φ₀ VR (callE K F f args kws pos ρ) (eval (.Call f args kws pos) Λ.env):=by
 unfold callE;refine Sim.need fun hn=>?_;simp only [Bool.and_eq_true,List.isEmpty_iff,decide_eq_true_eq] at hn;obtain ⟨⟨rfl,hlen⟩,hn⟩:=hn;have plain:eval (.Call f args [] pos) Λ.env=(eval f Λ.env >>=fun x=>callWith pos x [] (backTo pos (starEach args Λ.env)) [])->Sim Λ φ₀ VR (F.ev f ρ >>=fun fv=>evs F args ρ >>=fun vs=>cj_ K fv >>=fun _=>F.call fv vs ρ.d) (eval (.Call f args [] pos) Λ.env):=by
  intro q;rw [q];exact Sim.bind (eo_ So e f (Ext.refl _)) fun φ a x ex ha=>callWith_E W So e pos (us:= []) (ys:= []) args hn ex ha trivial
 cases f with
 | Attribute o name apos=>
  clear plain;refine Sim.need fun hb=>?_;simp only [Bool.and_eq_true,beq_iff_eq] at hb;show Sim Λ φ₀ VR _ (attributeBase o name Λ.env (eval o Λ.env) >>=fun ov=>standAt apos.atName >>=fun _=>methodCall o name apos pos Λ.env ov (args.length+0) (backTo pos (starEach args Λ.env)) []);rw [base_plain hb.1];refine Sim.bind (eo_ So e o (Ext.refl _)) fun φ a x ex ha=>Sim.at ?_;have pl:=bp_ (pos:=pos) (env:=Λ.env) hn;have few:methodCallForm (args.length+0) (backTo pos (starEach args Λ.env)) []=true:=by
   unfold methodCallForm;rw [pl.2];simp;omega
  have hp:methodCallPos true o Λ.env apos pos=pure pos:=by
   unfold methodCallPos;rw [if_pos (by simp [hb.2])]
  unfold methodCall;rw [few,hp];show Sim Λ φ VR _ (holding [x] (getMethod x name _) >>=fun fx=>pure pos >>=fun p=>callWith p fx.1 fx.2 (backTo pos (starEach args Λ.env)) []);refine Sim.bind (Sim.holding (method_S W ha name _)) fun φ1 fv fx ex1 hm=>?_;rw [pure_bind];exact callWith_E W So e pos args hn (ex.trans ex1) hm.1 hm.2
 | _=>exact plain rfl
end
end
section
open PyProof.Rows.LSm
set_option maxHeartbeats 2000000
theorem triples_push:∀ {l:List Value} {a b:Int} {t u:Tok} {c:Value},TriplesOk l->TriplesOk (l++ [.int a t,.int b u,c])
 | [],_,_,_,_,_,_=>trivial
 | .int _ _:: .int _ _::_::rest,_,_,_,_,_,h=>triples_push (l:=rest) h
theorem among_push{pos:Pos}{cv:Value}:∀ {l:List Value} {a b:Int} {t u:Tok} {c:Value},TriplesOk l->codeAmong pos (l++ [.int a t,.int b u,c])=some cv->codeAmong pos l=some cv\/cv=c
 | [],a,b,_,_,c,_,h=>by
  simp only [List.nil_append,codeAmong] at h;split at h
  ·exact .inr (Option.some.inj h).symm
  ·cases h
 | .int x _:: .int y _::d::rest,_,_,_,_,_,ok,h=>by
  simp only [List.cons_append,codeAmong] at h ⊢;split
  ·rename_i e;rw [if_pos e] at h;exact .inl h
  ·rename_i e;rw [if_neg e] at h;exact among_push (l:=rest) ok h
theorem triples_snd{l:List Value}{v:Value}(h:TriplesOk l)(e:l[1]? =some v):∃ a t,v= .int a t:=by
 match l,h with
 | [],_=>cases e
 | .int _ _:: .int b u::_::_,_=>exact ⟨b,u,(Option.some.inj e).symm⟩
section
variable {Λ:Lev} {φ φ₀:List Addr} {K:Frag} {F:Fns} {ρ:Ev} {s:S} {r:Shared}
theorem close_fold(env:Env):∀ (ns:List (Str×NameKind)) {acc cells:List (Str×Nat)} {accR:List (Str×Addr)} {s s':S},CellsR φ ρ.cells env.cells->CellsR φ acc accR->cf_ ρ ns acc s=some (.ok cells,s')->
  s'=s/\∃ clos,CellsR φ cells clos/\(forIn ns accR fun (p:Str×NameKind) (cs:List (Str×Addr))=>(do if p.2== .free then let c<-cellOf env p.1;pure (ForInStep.yield ((p.1,c)::cs)) else pure (ForInStep.yield cs):Sem (ForInStep (List (Str×Addr)))))=(pure clos:Sem _)
 | [],acc,cells,accR,s,s',_,ha,h=>by
  cases h;exact ⟨rfl,accR,ha,by simp⟩
 | (x,k)::ns,acc,cells,accR,s,s',hc,ha,h=>by
  unfold cf_ at h;by_cases hk:k= .free
  ·rw [if_pos hk] at h;obtain ⟨n,s1,h1,h2⟩:=bd_ h;obtain ⟨e1,rfl⟩:=opt_ok h1;obtain ⟨a,ea,eφ⟩:=hc.look e1;obtain ⟨rfl,clos,hcl,q⟩:=close_fold env ns (acc:=(x,n)::acc) (accR:=(x,a)::accR) hc ⟨rfl,eφ,ha⟩ h2;refine ⟨rfl,clos,hcl,?_⟩;rw [List.forIn_cons];have:cellOf env x=pure a:=by unfold cellOf;rw [ea]
   simp only [hk,beq_self_eq_true,if_true,this,pure_bind];exact q
  ·rw [if_neg hk] at h;obtain ⟨rfl,clos,hcl,q⟩:=close_fold env ns (acc:=acc) (accR:=accR) hc ha h;refine ⟨rfl,clos,hcl,?_⟩;rw [List.forIn_cons];have:(k==NameKind.free)=false:=by simpa using hk
   simp only [this,Bool.false_eq_true,if_false,pure_bind];exact q
theorem close_of{env:Env}{scope:Scope}{cells:List (Str×Nat)}{s s':S}(hc:CellsR φ ρ.cells env.cells)(h:cf_ ρ scope.names [] s=some (.ok cells,s')):
  s'=s/\∃ clos,CellsR φ cells clos/\closureFor scope env=pure clos:=by
 obtain ⟨a,clos,b,q⟩:=close_fold env scope.names (acc:= []) (accR:= []) hc trivial h;refine ⟨a,clos,b,?_⟩;unfold closureFor;rw [<-q];simp
theorem tabs_new{cs:List (Addr×Addr×Str)}{xs:List (Addr×Obj)}{c P c':Addr}{q:Str}{ps:Array Value}{pos:Pos}{oc:Obj}(t:TabsR cs xs)(one:∀ p∈cs,∀ q∈cs,p.2.1=q.2.1->p=q)(hm:(c,P,q)∈cs)(hP:(P,tabObj ps)∈xs)(hu:∀ o,(P,o)∈xs->o=tabObj ps)
  (tri:TriplesOk ps.toList) (am:∀ pos cv,codeAmong pos ps.toList=some cv->∃ c',cv= .ref c'/\CodeE xs c' q) (hq:∃ vs t,oc.data= .fields vs/\vs[1]? =some (.str q t)):
  let xs':=(P,tabObj (ps++ #[rawInt pos.line,rawInt pos.col,.ref c']))::(c',oc)::xs.filter (fun p=>p.1 !=P)
  TabsR cs xs'/\∀ c q,CodeE xs c q->CodeE xs' c q:=by
 intro xs';have hold:∀ c q,CodeE xs c q->CodeE xs' c q:=by
  rintro c1 q1 ⟨oc1,vs1,t1,m1,d1,e1⟩;refine ⟨oc1,vs1,t1,.tail _ (.tail _ (List.mem_filter.mpr ⟨m1,?_⟩)),d1,e1⟩;by_cases h:c1=P
  ·subst h;have:=hu oc1 m1;subst this;cases d1;rw [<-Array.getElem?_toList] at e1;obtain ⟨a,u,z⟩:=triples_snd tri e1;cases z
  ·simpa using h
 refine ⟨fun p hp=>?_,hold⟩;obtain ⟨ps1,m1,t1,a1⟩:=t p hp;by_cases h:p.2.1=P
 ·have:=one p hp (c,P,q) hm h;subst this;refine ⟨ps++ #[rawInt pos.line,rawInt pos.col,.ref c'],.head _,?_,fun pos1 cv h1=>?_⟩
  ·rw [Array.toList_append];exact triples_push tri
  ·rw [Array.toList_append] at h1;rcases among_push tri h1 with h2 | rfl
   ·obtain ⟨c2,rfl,h3⟩:=am pos1 cv h2;exact ⟨c2,rfl,hold _ _ h3⟩
   ·obtain ⟨vs,tq,d,e⟩:=hq;exact ⟨c',rfl,oc,vs,tq,.tail _ (.head _),d,e⟩
 ·refine ⟨ps1,.tail _ (.tail _ (List.mem_filter.mpr ⟨m1,by simpa using h⟩)),t1,fun pos1 cv h1=>?_⟩;obtain ⟨c2,rfl,h3⟩:=a1 pos1 cv h1;exact ⟨c2,rfl,hold _ _ h3⟩
theorem lamObj_inj{q q':Str}{b b':Expr}{sc sc':Scope}{cl cl':List (Str×Addr)}{pm pm':Value}{c c':Addr}{ct ct':Value}(h:lamObj q b sc cl pm c ct=lamObj q' b' sc' cl' pm' c' ct'):q=q'/\c=c':=by
 have:=congrArg (fun o:Obj=>match o.data with | .func f=>(f.qualname,f.code) | _=>(q,Value.none)) h;simp only [Prod.mk.injEq,Value.ref.injEq] at this;exact this
theorem St.lamAlloc{G:Ground}{C:Addr}{kp:Kept}{φ:List Addr}{s:S}{r:Shared}(x:St G C kp φ s r){h':Heap}{tk:Tok}{P c':Addr}{xs xs':List (Addr×Obj)}{q:Str}{body:Expr}{scope:Scope}{clos:List (Str×Addr)}{cells:List (Str×Nat)}{pm ctv:Value}
  (hP:∀ n,Live s n->φ[n]? ≠some P) (hPC:P≠C) (hPk:∀ p∈kp,p.1≠P) (hPG:G.base.get? P=none) (hs:Heap.ExtBut P r.heap h') (hsz:r.heap.objs.size<=h'.objs.size) (tb:G.tabs xs') (lm:LamsIn φ s.h r.heap xs) (hin:∀ c q,CodeE xs c q->CodeE xs' c q)
  (hx:∀ q∈xs',h'.get? q.1=some q.2/\q.1≠C/\(∀ p∈kp,p.1≠q.1)/\G.base.get? q.1=none/\∀ n,Live s n->φ[n]? ≠some q.1) (hc:CodeE xs' c' q) (hcl:CellsR φ cells clos):
  St G C kp (φ++ [h'.objs.size]) {s with h:=s.h++ [.lam body scope cells]} {r with heap:=h'.push (lamObj q body scope clos pm c' ctv),toks:=tk}:=by
 have lm':LamsIn φ s.h h' xs':=fun n body scope cells a ob ea eφ g=>by
  obtain ⟨⟨ob0,g0,_⟩,_⟩:=x.objs n _ a ea (by simp) eφ;have:a≠P:=fun z=>hP n ⟨_,ea,by simp⟩ (z▸eφ);rw [hs a ob0 this g0] at g;cases g;exact fun q1 b1 s1 cl1 pm1 c1 ct1 e1=>hin _ _ (lm n body scope cells a _ ea eφ g0 q1 b1 s1 cl1 pm1 c1 ct1 e1)
 have x1:St G C kp φ s {r with heap:=h',toks:=tk}:=by
  refine {base:=fun b o e=>hs b o (fun z=>by rw [z,hPG] at e;cases e) (x.base b o e),ns:=?_,kept:=fun q hq=>⟨(x.kept q hq).1.extBut hs (hPk q hq),(x.kept q hq).2⟩,low:=x.low,len:=x.len,objs:=?_,inj:=x.inj,fresh:=x.fresh,more:=⟨xs',tb,hx,lm'⟩,gens:=x.gens,os:=x.os}
  ·obtain ⟨m,a,b⟩:=x.ns;exact ⟨m,a.extBut hs (Ne.symm hPC),b⟩
  ·intro n o a e hd ea;obtain ⟨⟨ob,p,q⟩,t⟩:=x.objs n o a e hd ea;exact ⟨⟨ob,hs a ob (fun z=>hP n ⟨o,e,hd⟩ (z▸ea)) p,q⟩,t⟩
 have x2:=x1.keeps (h':=h'.push (lamObj q body scope clos pm c' ctv)) (tk:=tk) (d:=r.drawn) fun b o e=>Heap.get?_push_of_some _ e;refine x1.allocCore x2 Heap.fresh_none (Heap.get?_push_size _ rfl) ⟨q,clos,pm,c',ctv,rfl,hcl.mono (Ext.one _ _)⟩ (Nat.ne_of_gt (Nat.lt_of_lt_of_le x.big hsz)) ?_;refine ⟨xs',tb,fun p hp=>let ⟨a,b⟩:=hx p hp;⟨a,Heap.get?_push_of_some _ a,b⟩,?_,fun _=>?_⟩
 ·exact x1.lams lm' fun a ob _ g=>Heap.get?_push_of_some _ g
 ·intro q1 b1 s1 cl1 pm1 c1 ct1 e1;obtain ⟨rfl,rfl⟩:=lamObj_inj e1;exact hc
theorem closeM_res:∀ {ns:List (Str×NameKind)} {acc:List (Str×Nat)} {s:S} {C:Addr} {s':S},cf_ ρ ns acc s≠some (.exc C,s')
 | [],_,_,_,_=>fun h=>by cases h
 | (x,k)::ns,acc,s,C,s'=>fun h=>by
  unfold cf_ at h;by_cases hk:k= .free
  ·rw [if_pos hk] at h;rcases bf_ h with h | ⟨a,s1,h1,h2⟩
   ·unfold cellM opt at h;cases hx:ρ.cells.lookup x <;> rw [hx] at h <;> cases h
   ·exact closeM_res h2
  ·rw [if_neg hk] at h;exact closeM_res h
variable (W:Wd Λ.G K) (So:Sound Λ.prog Λ.G F) (e:EvR Λ φ₀ ρ)
include W e
theorem lam_E(args:Arguments)(body:Expr)(scope:Scope)(pos:Pos):Sim Λ φ₀ VR (lamE args body scope ρ) (eval (.Lambda args body scope pos) Λ.env):=by
 unfold lamE;split
 ·refine Sim.need fun hl=>Sim.of_at fun φ s r ex st=>⟨fun Q E pe nn ok exc=>kla_eval rfl ?_⟩;obtain ⟨⟨c,P,q⟩,hl⟩:=Option.isSome_iff_exists.mp hl;obtain ⟨hcode,hqual,hmem⟩:=e.lq _ hl;dsimp only at hcode hqual;cases hc:cf_ ρ scope.names [] s with
  | none=>exact absurd (bb_ hc) nn
  | some p=>
  obtain ⟨res,s1⟩:=p;cases res with
  | exc C=>exact absurd hc closeM_res
  | ok cells=>
  obtain ⟨rfl,clos,hcl,hclos⟩:=close_of ((e.mono ex).cells) hc;have run:(cf_ ρ scope.names [] >>=fun cells=>Mine.alloc (.lam body scope cells) >>=fun n=>Pure.pure (V.ref n)) s1=some (.ok (V.ref s1.h.length),{s1 with h:=s1.h++ [.lam body scope cells]}):=by rw [bo_ hc];rfl
  obtain ⟨p,loose,mean,mg,mb,T⟩:=W.T;obtain ⟨xs,tb,hx,lm⟩:=st.more;obtain ⟨ps,hPm,tri,am⟩:=tb _ hmem;dsimp only at hPm am;have hP:=hx _ hPm;have C:=(W.codes _ hmem).keeps st.base;have hgs:=T.g.keeps st.base;obtain ⟨bm,ob,b1,b2,b3,b4,b5,b6⟩:=T.bmain;have hgP:mainGlobals≠P:=fun z=>by
   obtain ⟨o,es,ep,e,hd,_⟩:=hgs;rw [z,hP.1] at e;cases e;cases hd
  have hbP:bm≠P:=fun z=>by
   have e:=st.base _ _ b3;rw [z,hP.1] at e;cases e;cases b4
  have hbG:bm≠mainGlobals:=fun z=>by
   obtain ⟨o,es,ep,e,hd,_⟩:=T.g;rw [z,e] at b3;cases b3;rw [hd] at b6;cases b6
  have hB:r.heap.BuiltinsAt mg P:=⟨bm,ob,b1,b2,hbG,hbP,st.base _ _ b3,b4,b5,b6⟩;have hPn:=hP.2.2.2.2;cases hf:codeAmong pos ps.toList with
  | some cv=>
   obtain ⟨c',rfl,hce⟩:=am pos cv hf;refine kla_makeFunctionHit hclos e.glob hgs hcode C hP.1 tri hf hB fun ctv h' tk k1 hsz=>?_;refine ok _ _ run (φ++ [h'.objs.size]) _ _ (Ext.one _ _) ?_ ⟨_,by rw [<-st.len];simp,rfl⟩;rw [hqual];exact st.lamAlloc hPn hP.2.1 hP.2.2.1 hP.2.2.2.1 (fun b o _ g=>k1 b o g) hsz tb lm (fun _ _ h=>h) (fun q hq=>⟨k1 _ _ (hx q hq).1,(hx q hq).2⟩) hce hcl
  | none=>
   refine kla_makeFunction hclos e.glob hgs hcode C hP.1 tri hf hgP hB fun c' ctv h' tk hs hge hlt hrec htb=>?_;refine ok _ _ run (φ++ [h'.objs.size]) _ _ (Ext.one _ _) ?_ ⟨_,by rw [<-st.len];simp,rfl⟩;rw [hqual] at hrec ⊢;obtain ⟨c2,oc,vs,tq,e2,hoc,hd,hv⟩:=hrec;cases e2;obtain ⟨tb',hin⟩:=tabs_new (c':=c') (oc:=oc) (pos:=pos) tb W.one hmem hPm (fun o ho=>Option.some.inj ((hx _ ho).1.symm.trans hP.1)) tri am ⟨vs,tq,hd,hv⟩;have fresh:∀ {b o},r.heap.get? b=some o->b≠c':=fun g z=>Nat.not_lt.mpr hge (z▸Heap.lt_size g);refine st.lamAlloc hPn hP.2.1 hP.2.2.1 hP.2.2.2.1 hs (Nat.le_of_lt (Nat.lt_of_le_of_lt hge hlt)) tb' lm hin ?_ ⟨oc,vs,tq,.tail _ (.head _),hd,hv⟩ hcl;intro p hp;rcases List.mem_cons.mp hp with rfl | hp
   ·exact ⟨htb,hP.2⟩
   ·rcases List.mem_cons.mp hp with rfl | hp
    ·obtain ⟨oC,eC⟩:=st.ns_some;refine ⟨hoc,(fresh eC).symm,fun p hp=>let ⟨o,eo⟩:=st.kept_some hp;fresh eo,?_,fun n ln en=>?_⟩
     ·cases z:Λ.G.base.get? c' with
      | none=>rfl
      | some o=>exact absurd rfl (fresh (st.base _ _ z))
     ·obtain ⟨o,eo,dd⟩:=ln;obtain ⟨ob,g,_⟩:=st.at eo dd en;exact absurd rfl (fresh g)
    ·obtain ⟨hp,hne⟩:=List.mem_filter.mp hp;have hne:p.1≠P:=by simpa using hne
     exact ⟨hs _ _ hne (hx _ hp).1,(hx _ hp).2⟩
 ·exact Sim.fail
end
end
section
open PyProof.Rows.LSm
set_option maxHeartbeats 2000000
section
variable {prog:Program} {w:World} {A:Around} {E:Value->Shared->Prop} {s:Shared}
theorem draw_list{it l:Addr}{items:Array Value}(hne:l≠it):∀ (n i:Nat) (s:Shared) (Q:List Value->Shared->Prop),s.heap.IsListIter it l i->s.heap.IsList l items->i+n<=items.size->
  (∀ h',h'.IsListIter it l (i+n)->Heap.SameBut it s.heap h'->Q ((items.toList.drop i).take n) {s with heap:=h'})->wpAny (model prog w) A (draw (.ref it) n) Q E s
 | 0,i,s,Q,hit,_,_,hQ=>by
  show wpAny _ _ (pure []) Q E s;exact wpAny_pure (by simpa using hQ s.heap hit (Heap.SameBut.refl ..))
 | n+1,i,s,Q,hit,ht,hle,hQ=>by
  have hlt:i < items.size:=by omega
  show wpAny _ _ (pyNext (.ref it) >>=_) Q E s;refine wpAny_bind (wpAny_pyNext_list_item hit ht (x:=items[i]) (by simp [hlt]) fun h₁ hit₁ hs₁=>?_);have ht1:h₁.IsList l items:=by obtain ⟨o,a,b,c⟩:=ht;exact ⟨o,hs₁.extBut l o hne a,b,c⟩
  refine wpAny_bind (wpAny_holding (draw_list hne n (i+1) _ _ hit₁ ht1 (by omega) fun h₂ hit₂ hs₂=>wpAny_pure ?_));have hd:items.toList.drop i=items[i]::items.toList.drop (i+1):=by simp [List.drop_eq_getElem_cons,hlt]
  have:=hQ h₂ (by rw [show i+(n+1)=i+1+n by omega];exact hit₂) (hs₁.trans hs₂);rw [hd,List.take_succ_cons] at this;exact this
theorem unpackItems_list{t:Addr}{items:Array Value}{Q:List Value->Shared->Prop}(hh:A.handled=none)(ht:s.heap.IsList t items)
  (hQ:∀ h',Heap.ExtBut s.heap.objs.size s.heap h'->Q items.toList {s with heap:=h'}):wpAny (model prog w) A (unpackItems (.ref t) items.size none) Q E s:=by
 have hlt:t≠s.heap.objs.size:=by obtain ⟨o,ho,_⟩:=ht;exact Nat.ne_of_lt (Heap.lt_size ho)
 unfold unpackItems;refine wpAny_bind ?_;unfold notIterableAtAll;refine wpAny_bind (wpAny_specialOf ht.typeIs PySem.slot_list_iter.lookup ?_);refine wpAny_pure ?_;simp only [Bool.false_eq_true,if_false];refine wpAny_bind (wpAny_holding (wpAny_pyIter_list ht ?_));have ht0:(s.heap.push {cls:= .type "list_iterator",data:= .fields #[.ref t,.int 0 0]}).IsList t items:=by obtain ⟨o,a,b⟩:=ht;exact ⟨o,Heap.get?_push_of_some _ a,b⟩
 refine wpAny_bind (wpAny_holding (draw_list hlt items.size 0 _ _ ⟨_,Heap.get?_push_size _ rfl,rfl,rfl⟩ ht0 (by omega) fun h₁ hit₁ hs₁=>?_));have hall:List.take items.size (List.drop 0 items.toList)=items.toList:=by
  rw [List.drop_zero];exact List.take_of_length_le (by simp)
 rw [hall];rw [if_neg (by simp)];have ht₁:h₁.IsList t items:=by obtain ⟨o,a,b⟩:=ht0;exact ⟨o,hs₁.extBut t o hlt a,b⟩
 refine wpAny_bind (wpAny_holding (wpAny_pyNext_list_end hh hit₁ ht₁ (by simp) fun h₂ he₂=>?_));simp only [Option.isSome_none,Bool.false_eq_true,if_false];exact wpAny_pure (hQ h₂ fun b o hb e=>he₂ b o hb (hs₁.extBut b o hb (Heap.get?_push_of_some _ e)))
end
abbrev TrueR{α β:Type}(_:List Addr)(_:α)(_:β):Prop:=True
section
variable {Λ:Lev} {φ φ₀:List Addr} {K:Frag} {F:Fns} {ρ:Ev} {s:S} {r:Shared}
theorem At.holdBind{α β γ:Type}{R:List Addr->α->β->Prop}{m:M α}{vs:List Value}{t:Sem γ}{f:γ->Sem β}(h:At Λ φ s r R m (t >>=f)):At Λ φ s r R m (PySem.holding vs t >>=f):=
 ⟨fun Q E pe nn ok exc=>by
  have:=h.go Q E pe nn ok exc;intro Γ p hΓ;have h2:=this Γ p hΓ;rw [Sem.wp_bind'] at h2 ⊢;rw [Sem.wp_holding];exact h2⟩
theorem At.items{α β:Type}{R:List Addr->α->β->Prop}(hh:Λ.A.handled=none){v:V}{y:Value}{n:Nat}{b:List V->Bool}{f:List V->M α}{g:List Value->Sem β}(st:StL Λ φ s r)(hv:VR φ v y)(hb:∀ vs,b vs=true->vs.length=n)
  (k:∀ vs l r',VsR φ vs l->vs.length=n->StL Λ φ s r'->At Λ φ s r' R (f vs) (g l)):At Λ φ s r R (itemsM v >>=fun vs=>Mine.need (b vs) >>=fun _=>f vs) (unpackItems y n none >>=g):=by
 cases v with
 | ref m=>
  obtain ⟨a,ea,rfl⟩:=hv;refine ⟨fun Q E pe nn ok exc=>?_⟩;cases ho:s.h[m]? with
  | none=>exact absurd (bb_ (show (Mine.geto m >>=_) s=none from bb_ (by unfold Mine.geto;rw [ho]))) nn
  | some o=>
  have hold:∀ {vs:List V} {l:List Value},itemsM (.ref m) s=some (.ok vs,s)->VsR φ vs l->(l.length=n->∀ (Q:List Value->Shared->Prop),(∀ h',Heap.ExtBut r.heap.objs.size r.heap h'->Q l {r with heap:=h'})->wpAny (model Λ.prog Λ.G.w) Λ.A (unpackItems (.ref a) n none) Q E r)->wpAny (model Λ.prog Λ.G.w) Λ.A (unpackItems (.ref a) n none >>=g) Q E r:=by
   intro vs l hi hl un;have e1:∀ f':List V->M α,(itemsM (.ref m) >>=f') s=f' vs s:=fun f'=>bo_ hi;rw [e1] at nn ok exc;cases hbv:b vs with
   | false=>rw [hbv] at nn;exact absurd rfl nn
   | true=>
   rw [hbv] at nn ok exc;have hn:=hb vs hbv;refine wpAny_bind (un (hl.length▸hn) _ fun h' hs'=>?_);exact (k vs l _ hl hn (st.keeps (tk:=r.toks) (d:=r.drawn) fun b o e=>hs' b o (Nat.ne_of_lt (Heap.lt_size e)) e)).go Q E pe nn ok exc
  have run:itemsM (.ref m) s=(match o with | .list vs=>Pure.pure vs | .tup vs=>Pure.pure vs | _=>Mine.fail:M (List V)) s:=by
   show (Mine.geto m >>=_) s=_;rw [bo_ (a:=o) (s₁:=s) (by unfold Mine.geto;rw [ho])];cases o <;> rfl
  cases o with
  | list vs=>
   obtain ⟨ob,g1,⟨c1,z1⟩,xs,n1,d1,r1⟩:=st.at ho (by simp) ea;exact hold run r1 fun hn Q hQ=>by subst hn;exact unpackItems_list (items:=xs.toArray) hh ⟨ob,g1,c1,n1,d1⟩ hQ
  | tup vs=>
   obtain ⟨ob,g1,c1,xs,n1,d1,r1⟩:=st.at ho (by simp) ea;exact hold run r1 fun hn Q hQ=>by subst hn;exact unpackItems_tuple (items:=xs.toArray) hh ⟨ob,g1,c1,n1,d1⟩ hQ
  | _=>exact absurd (bb_ run) nn
 | _=>exact ⟨fun _ _ _ nn _ _=>absurd rfl nn⟩
theorem store0_S(hs:Λ.env.scope=ρ.scope)(hkd:ρ.scope.kind= .function)(hc:CellsR φ₀ ρ.cells Λ.env.cells)(x:Str){v:V}{y:Value}(hv:VR φ₀ v y):Sim Λ φ₀ TrueR (si_ ρ x v) (storeName Λ.env x y):=by
 refine Sim.of_at fun φ s r ex st=>?_;have hv:=hv.mono ex;have hk:Λ.env.scope.kind= .function:=by rw [hs];exact hkd
 unfold si_;split
 ·rename_i hx;have hx':Λ.env.kindOf x=some .local:=by unfold Env.kindOf;rw [hs];exact hx
  obtain ⟨m,hm,hr⟩:=st.ns;refine At.done (a:=()) (s':={s with l:=putA x v s.l}) rfl fun Q E k=>wpAny_storeName_local hx' hm (fun h' hn hs=>k φ () _ (Ext.refl φ) (st.loc hv hs.extBut hm hn) trivial) ?_;rw [hk];rfl
 ·rename_i hx;have hx':Λ.env.kindOf x=some .cell:=by unfold Env.kindOf;rw [hs];exact hx
  unfold cellM;refine At.opt fun n hn=>At.geto fun o ho=>?_;obtain ⟨c,hcl,hφ⟩:=(hc.mono ex).look hn;split
  ·obtain ⟨ob,g,w,d,hr⟩:=st.at ho (by simp) hφ;have hlen:=(List.getElem?_eq_some_iff.mp ho).1;refine At.done (a:=()) (s':={s with h:=s.h.set n (.cell (some v))}) (by unfold seto;rw [if_pos hlen]) fun Q E k=>wpAny_storeName_cell hk hx' hcl ⟨ob,g,d⟩ fun h' hc hs=>?_;obtain ⟨ob',g',d'⟩:=hc;exact k φ () _ (Ext.refl φ) (st.upd (tk:=r.toks) ho (by simp) hφ (fun b o hb e=>hs.extBut b o hb e) (.inr ⟨ob',g',some y,d',hv⟩)) trivial
  ·exact At.fail
 ·exact At.fail
theorem store_S(e:EvR Λ φ₀ ρ)(x:Str){v:V}{y:Value}(hv:VR φ₀ v y):Sim Λ φ₀ TrueR (si_ ρ x v) (bindName Λ.env x y):=
 ⟨fun φ s r Q E ex st pe nn ok exc=>wpAny_bindName ((store0_S e.scope e.kind e.cells x hv).run φ s r Q E ex st pe nn ok exc)⟩
theorem Sim.bindTail{α β γ:Type}{R:List Addr->α->Unit->Prop}{m:M α}{t:Sem β}{f:β->Sem γ}{g:β->γ->Sem Unit}(h:Sim Λ φ₀ R m (t >>=fun b=>f b >>=fun _=>Pure.pure ()))(hg:∀ b c {A:Around} {E:Value->Shared->Prop} {s:Shared} {Q:Unit->Shared->Prop},Q () s->wpAny (model Λ.prog Λ.G.w) A (g b c) Q E s):
  Sim Λ φ₀ R m (t >>=fun b=>f b >>=g b):=by
 refine ⟨fun φ s r Q E x st pe nn ok exc=>?_⟩;have:=h.run φ s r Q E x st pe nn ok exc;intro Γ p hΓ;have h2:=this Γ p hΓ;rw [Sem.wp_bind'] at h2 ⊢;refine Sem.wp_mono _ _ _ ?_ (fun _ _ _ h=>h) _ _ h2;intro b p' s' h3;rw [Sem.wp_bind'] at h3 ⊢;refine Sem.wp_mono _ _ _ ?_ (fun _ _ _ h=>h) _ _ h3;intro c p'' s'' h4;exact hg b c h4 Γ p'' hΓ
theorem Sim.toUnit{α:Type}{R:List Addr->α->Unit->Prop}{m:M α}{t:Sem Unit}(h:Sim Λ φ₀ R m t):Sim Λ φ₀ R m (t >>=fun _=>Pure.pure ()):=Sim.bindPure h
theorem Sim.thenRelease{α:Type}{m:M α}{t:Sem Unit}{vs ks:List Value}(h:Sim Λ φ₀ TrueR m t):Sim Λ φ₀ TrueR m (t >>=fun _=>PySem.release vs ks):=
 ⟨fun φ s r Q E x st pe nn ok exc=>wpAny_bind (h.run φ s r _ E x st pe nn (fun a s' e φ' b r' x' st' hr=>wpAny_release (ok a s' e φ' () r' x' st' trivial)) exc)⟩
theorem each_cons{env:Env}{t:Expr}{r:List Expr}(h:na_ t=true):assignEach (t::r) env=(false,assign t env)::assignEach r env:=by cases t <;> first | rfl | cases h
theorem each_plain{env:Env}:∀ {elts:List Expr},elts.all na_=true->(assignEach elts env).findIdx? (·.1)=none/\(assignEach elts env).map (·.2)=elts.map (fun t=>assign t env)/\(assignEach elts env).length=elts.length
 | [],_=>⟨rfl,rfl,rfl⟩
 | t::r,h=>by
  rw [List.all_cons,Bool.and_eq_true] at h;obtain ⟨a,b,c⟩:=each_plain (env:=env) h.2;rw [each_cons h.1];refine ⟨by simp [List.findIdx?_cons,a],by simp [b],by simp [c]⟩
section
variable (W:Wd Λ.G K) (So:Sound Λ.prog Λ.G F) (e:EvR Λ φ₀ ρ)
include W So e
omit W in
theorem assignPlain_S(o i:Expr)(pos:Pos){φ:List Addr}{v:V}{y:Value}(ex:Ext φ₀ φ)(hv:VR φ v y):Sim Λ φ TrueR (F.ev o ρ >>=fun ov=>F.ev i ρ >>=fun iv=>sk_ ov iv v) (assign (.Subscript o i pos) Λ.env y):=by
 rw [arm_assign_Subscript];exact Sim.bind (Sim.holding (eo_ So e o ex)) fun φ1 a x ex1 ha=>Sim.bind (Sim.holding (eo_ So e i (ex.trans ex1))) fun φ2 b z ex2 hb=>Sim.at (Sim.thenRelease (Sim.holding (setItem_S (ha.mono ex2) hb ((hv.mono ex1).mono ex2))))
omit W in
theorem assignCut_S(o:Expr)(lo hi:Option Expr)(p pos:Pos){φ:List Addr}{v:V}{y:Value}(ex:Ext φ₀ φ)(hv:VR φ v y):Sim Λ φ TrueR (F.ev o ρ >>=fun ov=>optE F lo ρ >>=fun l=>optE F hi ρ >>=fun u=>setCutM ov l u v) (assign (.Subscript o (.Slice lo hi none p) pos) Λ.env y):=by
 rw [arm_assign_Subscript];show Sim Λ φ TrueR _ (PySem.holding [y] (eval o Λ.env) >>=fun ov=>PySem.holding [y,ov] (valueOrNone (evalOpt lo Λ.env) >>=fun l=>PySem.holding [l] (valueOrNone (evalOpt hi Λ.env)) >>=fun u=>PySem.holding [l,u] (valueOrNone (evalOpt none Λ.env)) >>=fun s=>newFields "slice" [l,u,s]) >>=fun iv=>standAt pos >>=fun _=>PySem.holding [y,ov,iv] (setItem ov iv y) >>=fun _=>PySem.release [iv,y,ov] []);refine Sim.bind (Sim.holding (eo_ So e o ex)) fun φ1 a x ex1 ha=>Sim.holdBind (Sim.assoc ?_);refine Sim.bind (optE_E So e lo (ex.trans ex1)) fun φ2 l b ex2 hl=>Sim.assoc (Sim.holdBind ?_);refine Sim.bind (optE_E So e hi ((ex.trans ex1).trans ex2)) fun φ3 u z ex3 hu=>Sim.assoc (Sim.holdBind ?_);show Sim Λ φ3 TrueR _ (newFields "slice" [b,z,Value.none] >>=fun iv=>standAt pos >>=fun _=>PySem.holding [y,x,iv] (setItem x iv y) >>=fun _=>PySem.release [iv,y,x] []);have h:=setCut_S (Λ:=Λ) (pos:=pos) (hs:=fun iv=> [y,x,iv]) ((ha.mono ex2).mono ex3) (hl.mono ex3) hu (((hv.mono ex1).mono ex2).mono ex3);have h2:Sim Λ φ3 TrueR (setCutM a l u v) (newFields "slice" [b,z,Value.none] >>=fun iv=>(standAt pos >>=fun _=>PySem.holding [y,x,iv] (setItem x iv y)) >>=fun _=>Pure.pure ()):=by
  have h2:=Sim.toUnit h;simpa only [LawfulMonad.bind_assoc] using h2
 have:=Sim.bindTail (g:=fun iv _=>PySem.release [iv,y,x] []) h2 (fun _ _ {_ _ _ _} q=>wpAny_release q);simpa only [LawfulMonad.bind_assoc] using this
theorem assign1_S(t:Expr){φ:List Addr}{v:V}{y:Value}(ex:Ext φ₀ φ)(hv:VR φ v y):Sim Λ φ TrueR (assign1M K F t ρ v) (assign t Λ.env y):=by
 unfold assign1M;split
 ·rename_i x pos;rw [arm_assign_Name];exact Sim.at (store_S (e.mono ex) x hv)
 ·rename_i o attr pos;rw [arm_assign_Attribute];exact Sim.bind (Sim.holding (eo_ So e o ex)) fun φ1 a x ex1 ha=>Sim.at (Sim.thenRelease (Sim.holding (setAttr_S W ha (hv.mono ex1) attr)))
 ·split
  ·exact assignCut_S So e _ _ _ _ _ ex hv
  ·exact Sim.fail
  ·exact assignPlain_S So e _ _ _ ex hv
 ·exact Sim.fail
theorem assigns_S:∀ (ts:List Expr) {φ:List Addr} {vs:List V} {ys:List Value},Ext φ₀ φ->VsR φ vs ys->Sim Λ φ TrueR (ab_ K F ts ρ vs) (assignInOrder (ts.map fun t=>assign t Λ.env) ys)
 | [],φ,[],[],_,_=>Sim.pure fun _ _=>trivial
 | t::ts,φ,v::vs,y::ys,ex,⟨h1,h2⟩=>by
  show Sim Λ φ TrueR (assign1M K F t ρ v >>=fun _=>ab_ K F ts ρ vs) (PySem.holding ys (assign t Λ.env y) >>=fun _=>assignInOrder (ts.map fun t=>assign t Λ.env) ys);exact Sim.bind (Sim.holding (assign1_S W So e t ex h1)) fun φ1 _ _ ex1 _=>assigns_S ts (ex.trans ex1) (h2.mono ex1)
 | [],_,_::_,_,_,_=>Sim.fail
 | _::_,_,[],_,_,_=>Sim.fail
 | _,_,[],_::_,_,h=>h.elim
 | _,_,_::_,[],_,h=>h.elim
theorem assign_S(t:Expr){φ:List Addr}{v:V}{y:Value}(ex:Ext φ₀ φ)(hv:VR φ v y):Sim Λ φ TrueR (aa_ K F t ρ v) (assign t Λ.env y):=by
 unfold aa_;split
 ·rename_i elts k pos;rw [arm_assign_Tuple];unfold unpack;refine Sim.at (Sim.of_at fun φ1 s r ex1 st=>?_);cases hn:elts.all na_ with
  | false=>
   refine ⟨fun _ _ _ nn _ _=>absurd ?_ nn⟩;have:∀ m:M (List V),(m >>=fun vs=>Mine.need (decide (vs.length=elts.length) && false) >>=fun _=>ab_ K F elts ρ vs)=(m >>=fun vs=>(Mine.fail:M Unit)):=by
    intro m;congr 1;funext vs;rw [Bool.and_false];rfl
   rw [this];cases v <;> try rfl
   unfold itemsM;rename_i n;change M.bind _ _ s=_;unfold M.bind;split
   ·rfl
   ·rfl
   ·rename_i C s1 q;exfalso;rcases bf_ q with h | ⟨a,s1,h1,h2⟩
    ·unfold Mine.geto at h;split at h <;> cases h
    ·cases a <;> cases h2
  | true=>
   obtain ⟨p1,p2,p3⟩:=each_plain (env:=Λ.env) hn;rw [p1,p2,p3];refine At.holdBind (At.items e.a.handled st (hv.mono ex1) (fun vs h=>?_) fun vs l r' hl hlen st'=>?_)
   ·rw [Bool.and_true] at h;exact of_decide_eq_true h
   ·exact At.of (assigns_S W So e elts (ex.trans ex1) hl) (Ext.refl _) st'
 ·exact assign1_S W So e _ ex hv
end
end
end
section
open PyProof.Rows.LSm
set_option maxHeartbeats 2000000
def isIt:O->Prop
 | .itL .. | .itT .. | .itD .. | .itR .. | .itS .. | .itE ..=>True
 | _=>False
section
variable {Λ:Lev} {φ φ₀:List Addr} {K:Frag} {F:Fns} {ρ:Ev} {s s':S} {r:Shared}
theorem Sim.okRun{α β:Type}{R:List Addr->α->β->Prop}{m:M α}{t:Sem β}{a:α}(h:Sim Λ φ₀ R m t)(x:Ext φ₀ φ)(st:StL Λ φ s r)(hm:m s=some (.ok a,s')){Q:β->Shared->Prop}
  (k:∀ φ' b r',Ext φ φ'->StL Λ φ' s' r'->R φ' a b->Q b r'):wpAny (model Λ.prog Λ.G.w) Λ.A t Q (fun _ _=>False) r:=
 h.run φ s r Q _ x st PassesOwn.never (by rw [hm];simp) (fun a' s2 e φ' b r' x' st' hr=>by rw [hm] at e;cases e;exact k φ' b r' x' st' hr) (fun c s2 e=>by rw [hm] at e;cases e)
theorem own_at{t:Expr}{it:Nat}{v:V}{a:Addr}{y:Value}{u:Unit}(st:StL Λ φ s r)(ea:φ[it]? =some a)(hy:VR φ v y)(h:ownM t it v s=some (.ok u,s')):
  ∀ {A:Around} {Q:Unit->Shared->Prop} {E:Value->Shared->Prop},(∀ r',StL Λ φ s' r'->Q () r')->wpAny (model Λ.prog Λ.G.w) A (letOwnedTupleGo t (.ref a) y) Q E r:=by
 unfold ownM at h;split at h
 ·obtain ⟨o,s1,h1,h2⟩:=bd_ h;obtain ⟨h1,rfl⟩:=geto_ok h1;split at h2
  ·cases h2;obtain ⟨ob,g,c,la,el,d⟩:=st.at h1 (by simp) ea;intro A Q E q;unfold letOwnedTupleGo;cases y <;> first | exact wpAny_pure (q _ st) | skip
   refine wpAny_bind (wpAny_load g ?_);simp only [c,d];exact wpAny_pure (q _ st)
  ·rename_i n i k hg;obtain ⟨ob,g,ai,x,own,e1,⟨b,eb,rfl⟩,rfl⟩:=st.at h1 (by simp) ea;have hlen:=(List.getElem?_eq_some_iff.mp h1).1;cases hk:decide (v= .ref k) with
   | false=>rw [hk] at h2;cases h2
   | true=>
    rw [hk] at h2;have hv:=of_decide_eq_true hk;subst hv;obtain ⟨b',eb',rfl⟩:=hy;rw [eb] at eb';cases eb';have h3:seto it (.itE n i none) s1=some (.ok u,s'):=h2;unfold seto at h3;rw [if_pos hlen] at h3;cases h3;intro A Q E q;refine wpAny_letOwnedTupleGo_enum g fun h' he' hs'=>q _ ?_;exact st.upd (tk:=r.toks) h1 (by simp) ea (fun b ob hb e=>hs'.extBut b ob hb e) (.inr ⟨_,he',ai,_,_,e1,rfl,rfl⟩)
  ·cases h2
 ·cases h
 ·cases h;intro A Q E q;unfold letOwnedTupleGo;rename_i n1 n2;split
  ·exact absurd rfl (n1 _ _ _)
  ·exact absurd rfl (n2 _ _)
  ·exact wpAny_pure (q _ st)
variable (W:Wd Λ.G K) (So:Sound Λ.prog Λ.G F) (e:EvR Λ φ₀ ρ)
include So e
theorem tests_at{ifs:List Expr}{ok:Bool}(ex:Ext φ₀ φ)(st:StL Λ φ s r)(h:tc_ F ρ ifs s=some (.ok ok,s')){Q:Bool->Shared->Prop}(k:∀ φ' r',Ext φ φ'->StL Λ φ' s' r'->Q ok r'):
  wpAny (model Λ.prog Λ.G.w) Λ.A (forIn ifs true fun c r=>if r=true then do let ok<-isTrue c Λ.env (eval c Λ.env);pure (ForInStep.yield ok) else pure (ForInStep.yield r)) Q (fun _ _=>False) r:=by
 unfold tc_ at h;split at h
 ·cases h;exact wpAny_tests_nil (k φ r (Ext.refl _) st)
 ·exact wpAny_tests_one ((tr_of So e _ ex).okRun (Ext.refl _) st h fun φ' b r' x' st' hb=>by cases hb;exact k φ' r' x' st')
 ·cases h
include W
theorem co_S{t elt i:Expr}{ifs:List Expr}{sc:Scope}{pos:Pos}{it acc:Nat}{ai aa:Addr}(ei:φ₀[it]? =some ai)(ea:φ₀[acc]? =some aa):
  SimK Λ φ₀ (coM K F t elt ifs it acc ρ) (.compLoop (.ListComp elt [⟨t,i,ifs,0⟩] sc pos) 0 (.ref ai) (.ref aa) Λ.env):=by
 intro φ s s' r R ex st hm ok;unfold coM at hm;obtain ⟨o,s1,h1,h2⟩:=bd_ hm;have ei:=ex.get ei;have ea:=ex.get ea;have never:∀ {α:Type} {t:Sem α} {Q:α->Shared->Prop} {r:Shared} {E:Value->Shared->Prop},wpAny (model Λ.prog Λ.G.w) Λ.A t Q (fun _ _=>False) r->wpAny (model Λ.prog Λ.G.w) Λ.A t Q E r:=fun h=>wpAny_mono h (fun _ _ h=>h) fun _ _ h=>h.elim;refine codeAny_of_tree ?_;show wpAny _ Λ.A ((compTurn (.ListComp elt [⟨t,i,ifs,0⟩] sc pos) 0 (.ref ai) (.ref aa) Λ.env).onRaise (fun x=>do noteFrame x Λ.env;theTreesLotGoes x)) _ _ r;refine wpAny_noted (never ?_);rw [compTurn_list];refine wpAny_bind (wpAny_standAt (wpAny_bind ((next_S e.a.handled ei).okRun (Ext.refl _) st h1 fun φ1 o' r1 x1 st1 ho=>?_)));cases o with
 | none=>
  cases o' with
  | some _=>exact ho.elim
  | none=>cases h2;exact wpAny_pure (ok φ1 r1 x1 st1)
 | some v=>
  cases o' with
  | none=>exact ho.elim
  | some y=>
  obtain ⟨u1,s2,h3,h4⟩:=bd_ h2;have own:=fun {Q E}=>own_at st1 (x1.get ei) ho h3 (A:=Λ.A) (Q:=Q) (E:=E);obtain ⟨u2,s3,h5,h6⟩:=bd_ h4;obtain ⟨okb,s4,h7,h8⟩:=bd_ h6;refine wpAny_bind (own fun r1' st1=>(wpAny_bind ((assign_S W So e t (ex.trans x1) ho).okRun (Ext.refl _) st1 h5 fun φ2 _ r2 x2 st2 _=>wpAny_bind (tests_at So e ((ex.trans x1).trans x2) st2 h7 fun φ3 r3 x3 st3=>?_))));have x13:=(x1.trans x2).trans x3;have again:∀ {φ4:List Addr} {s5:S} {r4:Shared},Ext φ φ4->StL Λ φ4 s5 r4->F.co t elt ifs it acc ρ s5=some (.ok (),s')->codeAny (model Λ.prog Λ.G.w) Λ.A (.compLoop (.ListComp elt [⟨t,i,ifs,0⟩] sc pos) 0 (.ref ai) (.ref aa) Λ.env) R r4:=fun x4 st4 hco=>
   (So.co Λ ρ _ t i elt ifs sc pos it acc ai aa rfl rfl (e.mono (ex.trans x4)) (x4.get ei) (x4.get ea)) _ _ s' _ R (Ext.refl _) st4 hco fun φ' r' x'=>ok φ' r' (x4.trans x')
  cases okb with
  | false=>exact wpAny_pure ⟨rfl,again x13 st3 h8⟩
  | true=>
   obtain ⟨x,s5,h9,h10⟩:=bd_ h8;obtain ⟨u3,s6,h11,h12⟩:=bd_ h10;simp only [if_true];refine wpAny_bind (wpAny_bind ((eo_ So e elt (ex.trans x13)).okRun (Ext.refl _) st3 h9 fun φ4 y4 r4 x4 st4 hy=>wpAny_bind ((append_S (Λ:=Λ) (φ₀:=φ4) ⟨aa,(x13.trans x4).get ea,rfl⟩ hy).okRun (Ext.refl _) st4 h11 fun φ5 _ r5 x5 st5 _=>wpAny_pure (wpAny_pure ⟨rfl,again ((x13.trans x4).trans x5) st5 h12⟩))))
omit So e W in
theorem iterM_is{v:V}{it:Nat}(h:id_ v s=some (.ok it,s')):∃ o,s'.h[it]? =some o/\o≠ .dead/\isIt o:=by
 have new:∀ {o:O} {n:Nat} {s₁ s₂:S},Mine.alloc o s₁=some (.ok n,s₂)->s₂.h[n]? =some o:=fun h=>by
  cases h;simp
 unfold id_ at h;split at h
 ·obtain ⟨o,s1,h1,h2⟩:=bd_ h;obtain ⟨h1,rfl⟩:=geto_ok h1;split at h2
  ·exact ⟨_,new h2,by simp,trivial⟩
  ·exact ⟨_,new h2,by simp,trivial⟩
  ·obtain ⟨_,s2,h3,h4⟩:=bd_ h2;exact ⟨_,new h4,by simp,trivial⟩
  ·obtain ⟨_,s2,h3,h4⟩:=bd_ h2;exact ⟨_,new h4,by simp,trivial⟩
  ·cases h2;exact ⟨_,h1,by simp,trivial⟩
  ·cases h2
 ·exact ⟨_,new h,by simp,trivial⟩
 ·cases h
omit So e W in
theorem self_iter{it:Nat}{a:Addr}{o:O}(st:StL Λ φ s r)(ho:s.h[it]? =some o)(ea:φ[it]? =some a)(hd:o≠ .dead)(hk:isIt o){A:Around}{Q:Value->Shared->Prop}{E:Value->Shared->Prop}(h:Q (.ref a) r):
  wpAny (model Λ.prog Λ.G.w) A (pyIter (.ref a)) Q E r:=by
 have t:=st.at ho hd ea;cases o <;> try exact hk.elim
 ·obtain ⟨ob,g,c,la,el,d⟩:=t;exact wpAny_pyIter_listiter ⟨ob,g,c,d⟩ h
 ·obtain ⟨ob,g,c,la,el,d⟩:=t;exact wpAny_pyIter_tupleiter ⟨ob,g,c,d⟩ h
 ·obtain ⟨ob,g,c,la,el,d⟩:=t;exact wpAny_pyIter_keyiter ⟨ob,g,c,d⟩ h
 ·obtain ⟨ob,g,rfl⟩:=t;exact wpAny_pyIter_rangeiter g h
 ·rename_i x i;obtain ⟨ob,g,t,c,d⟩:=t;cases hx:x.cps.all (· < 128) with
  | true=>rw [show strIterType x="str_ascii_iterator" by unfold strIterType;rw [hx];rfl] at c;exact wpAny_pyIter_striter_ascii ⟨ob,g,c,d⟩ h
  | false=>rw [show strIterType x="str_iterator" by unfold strIterType;rw [hx];rfl] at c;exact wpAny_pyIter_striter_wide ⟨ob,g,c,d⟩ h
 ·obtain ⟨ob,g,ai,x,own,e1,o1,rfl⟩:=t;exact iter_enum g h
omit So e W in
theorem St.leaveBut{G:Ground}{C L:Addr}{kp:Kept}{m:Str->Option Value}{φ':List Addr}{s':S}{r':Shared}{l:List (Str×V)}{h':Heap}(x:St G L ((C,m)::kp) φ' s' r')(hl:LocR φ' l m)(hk:∀ q∈kp,q.1≠C)(hs:Heap.ExtBut L r'.heap h'):St G C kp φ' {s' with l:=l} {r' with heap:=h'}:=by
 have y:=x.leave hl hk;refine {base:=fun b o e=>hs b o (fun z=>by rw [z,x.fresh.1] at e;cases e) (x.base b o e),ns:=⟨m,(x.kept (C,m) (.head _)).1.extBut hs (x.kept (C,m) (.head _)).2.1,hl⟩,kept:=fun q hq=>⟨(x.kept q (.tail _ hq)).1.extBut hs (x.kept q (.tail _ hq)).2.1,(y.kept q hq).2⟩,low:=y.low,len:=y.len,objs:=?_,inj:=y.inj,fresh:=y.fresh,more:=?_,gens:=y.gens,os:=y.os}
 ·intro n o a e hd ea;obtain ⟨⟨ob,p,q⟩,t⟩:=y.objs n o a e hd ea;exact ⟨⟨ob,hs a ob (x.objs n o a e hd ea).2.1 p,q⟩,t⟩
 ·obtain ⟨xs,t,q,lm⟩:=x.more;exact ⟨xs,t,fun p hp=>let ⟨q1,q2,q3,q4,q5⟩:=q p hp;⟨hs _ _ q2 q1,Ne.symm (q3 (C,m) (.head _)),fun z hz=>q3 z (.tail _ hz),q4,q5⟩,x.lams lm fun a ob hb g=>hs a ob hb g⟩
theorem comp_E(elt:Expr)(gens:List Comprehension)(scope:Scope)(pos:Pos):Sim Λ φ₀ VR (compE F elt gens scope ρ) (eval (.ListComp elt gens scope pos) Λ.env):=by
 unfold compE;split
 case h_2=>exact Sim.fail
 rename_i t i ifs;refine Sim.need fun hn=>⟨fun φ s r Q E ex st pe nn ok exc=>?_⟩;rw [Bool.and_eq_true] at hn;obtain ⟨hc,hset⟩:=hn;unfold compOk at hc;rw [Bool.and_eq_true,List.all_eq_true] at hc;obtain ⟨hkind,hnames⟩:=hc;have hkind:scope.kind= .function:=by simpa using hkind
 have hcell:∀ x∈scope.names,x.2≠ .cell:=fun x hx=>by
  have:=hnames x hx;rw [Bool.and_eq_true] at this;simpa using this.1
 have hloc:∀ x∈scope.names,x.2= .local->scope.names.lookup x.1=some .local:=fun x hx hl=>by
  have:=hnames x hx;rw [Bool.and_eq_true,hl] at this;simpa using this.2
 rw [eval_ListComp];cases hcl:cf_ ρ scope.names [] s with
 | none=>exact absurd (bb_ hcl) nn
 | some p=>
 obtain ⟨res,s0⟩:=p;cases res with
 | exc C=>exact absurd hcl closeM_res
 | ok cells=>
 obtain ⟨rfl,clos,hcr,hclos⟩:=close_of ((e.mono ex).cells) hcl;have bd:=bo_ (f:=fun cells=>F.ev i ρ >>=fun x=>id_ x >>=fun it=>Mine.alloc (.list []) >>=fun acc=>calm (within [] (F.co t elt ifs it acc {scope:=cb_ ρ scope,cells,d:=ρ.d})) >>=fun _=>Pure.pure (V.ref acc)) hcl;have nn:(F.ev i ρ >>=fun x=>id_ x >>=fun it=>Mine.alloc (.list []) >>=fun acc=>calm (within [] (F.co t elt ifs it acc {scope:=cb_ ρ scope,cells,d:=ρ.d})) >>=fun _=>Pure.pure (V.ref acc)) s0≠none:=by rw [<-bd];exact nn
 have ok:=ok;have exc:=exc;have body:∀ {x:V} {it:Nat} {s1 s2:S},F.ev i ρ s0=some (.ok x,s1)->id_ x s1=some (.ok it,s2)->∃ s5:S,F.co t elt ifs it s2.h.length {scope:=cb_ ρ scope,cells,d:=ρ.d} {s2 with h:=s2.h++ [.list []],l:= []}=some (.ok (),s5)/\
   (F.ev i ρ >>=fun x=>id_ x >>=fun it=>Mine.alloc (.list []) >>=fun acc=>calm (within [] (F.co t elt ifs it acc {scope:=cb_ ρ scope,cells,d:=ρ.d})) >>=fun _=>Pure.pure (V.ref acc)) s0=some (.ok (.ref s2.h.length),{s5 with l:=s2.l}):=by
  intro x it s1 s2 h1 h2;have a1:=nn;rw [bo_ h1,bo_ h2,bo_ (a:=s2.h.length) (s₁:={s2 with h:=s2.h++ [.list []]}) rfl] at a1;have a2:=bind_some a1;cases hco:F.co t elt ifs it s2.h.length {scope:=cb_ ρ scope,cells,d:=ρ.d} {s2 with h:=s2.h++ [.list []],l:= []} with
  | none=>refine absurd ?_ a2;unfold calm within;simp only;rw [hco]
  | some p=>
  obtain ⟨res,s5⟩:=p;cases res with
  | exc C=>refine absurd ?_ a2;unfold calm within;simp only;rw [hco]
  | ok u=>
  have a3:calm (within [] (F.co t elt ifs it s2.h.length {scope:=cb_ ρ scope,cells,d:=ρ.d})) {s2 with h:=s2.h++ [.list []]}=some (.ok (),{s5 with l:=s2.l}):=by unfold calm within;simp only;rw [hco]
  exact ⟨s5,rfl,by rw [bo_ h1,bo_ h2,bo_ (a:=s2.h.length) (s₁:={s2 with h:=s2.h++ [.list []]}) rfl,bo_ a3];rfl⟩
 refine wpAny_comprehension_free (g:=⟨t,i,ifs,0⟩) (gs:= []) rfl (fun x=>?_) hclos hkind hloc ?_
 ·cases i <;> first | rfl | cases hset
 refine (eo_ So e i ex).run φ s0 r _ E (Ext.refl _) st pe (bind_some nn) (fun x s1 h1 φ1 y r1 x1 st1 hy=>?_) (fun c s1 h1 φ1 y r1 x1 fl=>exc c s1 (bd.trans (ba_ h1)) φ1 y r1 x1 fl);have nn1:=nn;rw [bo_ h1] at nn1;refine (iter_S hy).run φ1 s1 r1 _ E (Ext.refl _) st1 pe (bind_some nn1) (fun it s2 h2 φ2 z r2 x2 st2 hz=>?_) (fun c s2 h2 φ2 y r2 x2 fl=>exc c s2 (by rw [bd,bo_ h1];exact ba_ h2) φ2 y r2 (x1.trans x2) fl);obtain ⟨s5,hco,hrun⟩:=body h1 h2;obtain ⟨ai,eai,rfl⟩:=hz;refine wpAny_newList ?_ (Nat.zero_le _);have st3:StL Λ (φ2++ [r2.heap.objs.size]) {s2 with h:=s2.h++ [.list []]} {r2 with heap:=r2.heap.push {cls:= .type "list",data:= .seq #[]}}:=
  st2.alloc (tk:=r2.toks) (fun b o e=>Heap.get?_push_of_some _ e) Heap.fresh_none (Heap.get?_push_size _ rfl) ⟨⟨rfl,rfl,rfl⟩,[],0,rfl,trivial⟩ (Nat.ne_of_gt st2.big)
 refine wpAny_newFunctionEnv hcell (fun x hx=>by cases hx) (fun h' hns hsb=>?_) hkind;obtain ⟨m,hm,hlo⟩:=st3.ns;have x3:Ext φ φ2:=x1.trans x2;have x4:=x3.trans (Ext.one φ2 r2.heap.objs.size);have hk:∀ b o,(r2.heap.push {cls:= .type "list",data:= .seq #[]}).get? b=some o->h'.get? b=some o:=fun b o g=>hsb.extBut b o (Nat.ne_of_lt (Heap.lt_size g)) (Heap.get?_push_of_some _ g);have st4:=st3.enter (tk:=r2.toks+0) hm hk Heap.fresh_none hns (Nat.lt_of_lt_of_le st2.big (by rw [Heap.size_push];omega)) [] (fun y v h=>by cases h);have hk0:Λ.env.scope.kind= .function:=by rw [e.scope];exact e.kind
 have e4:EvR {Λ with env:=compEnvC scope clos (r2.heap.push {cls:= .type "list",data:= .seq #[]}).objs.size Λ.env,kp:=(Λ.env.locals,m)::Λ.kp} (φ2++ [r2.heap.objs.size]) {scope:=cb_ ρ scope,cells,d:=ρ.d}:=by
  refine {a:={frames:=e.a.frames,handled:=e.a.handled,depth:=e.a.depth,units:=e.a.units,cover:=fun env he=>?_},scope:=?_,kind:=hkind,cells:=hcr.mono x4,glob:=e.glob,blt:=e.blt,head:=fun h=>(nomatch h),lq:=fun q h=>by cases h}
  ·obtain ⟨a,L,b,c⟩:=e.a.cover env he;refine ⟨a,L,b,.inr ?_⟩;rcases c with rfl | ⟨q,hq,rfl⟩
   ·exact ⟨_,.head _,rfl⟩
   ·exact ⟨q,.tail _ hq,rfl⟩
  ·show relabel scope Λ.env=cb_ ρ scope;unfold relabel cb_;rw [hk0];unfold Env.kindOf;rw [e.scope];simp only [beq_self_eq_true,Bool.and_true]
 have key:∀ r',StL {Λ with env:=compEnvC scope clos (r2.heap.push {cls:= .type "list",data:= .seq #[]}).objs.size Λ.env,kp:=(Λ.env.locals,m)::Λ.kp} (φ2++ [r2.heap.objs.size]) {s2 with h:=s2.h++ [.list []],l:= []} r'->
   codeAny (model Λ.prog Λ.G.w) Λ.A (.compLoop (.ListComp elt [⟨t,i,ifs,0⟩] scope pos) 0 (.ref ai) (.ref r2.heap.objs.size) (compEnvC scope clos (r2.heap.push {cls:= .type "list",data:= .seq #[]}).objs.size Λ.env))
    (compPost (model Λ.prog Λ.G.w) Λ.A E none Q (.ref r2.heap.objs.size) (r2.heap.push {cls:= .type "list",data:= .seq #[]}).objs.size) r':=fun r' st5=>by
  refine So.co {Λ with env:=compEnvC scope clos (r2.heap.push {cls:= .type "list",data:= .seq #[]}).objs.size Λ.env,kp:=(Λ.env.locals,m)::Λ.kp} _ _ t i elt ifs scope pos it s2.h.length ai r2.heap.objs.size rfl rfl e4 (old_ref eai) (by rw [<-st2.len];simp) _ _ s5 r' _ (Ext.refl _) st5 hco fun φ5 r5 x5 st6=>?_;obtain ⟨m6,hm6,_⟩:=st6.ns;refine ⟨m6,hm6,fun h6 hs6=>?_⟩;refine ok (V.ref s2.h.length) _ (by rw [bd];exact hrun) φ5 _ _ (x4.trans x5) (st6.leaveBut (hlo.mono x5) (fun q hq=>(st3.kept q hq).2.1) hs6.extBut) ⟨_,x5.get (by rw [<-st2.len];simp),rfl⟩
 refine codeAny_compStart_list (key _ st4) ?_;obtain ⟨o,ho,hd,hk⟩:=iterM_is h2;refine self_iter (Λ:={Λ with env:=compEnvC scope clos (r2.heap.push {cls:= .type "list",data:= .seq #[]}).objs.size Λ.env,kp:=(Λ.env.locals,m)::Λ.kp}) st4 (o:=o) (it:=it) ?_ (old_ref eai) hd hk (key _ st4);exact (List.getElem?_append_left (List.getElem?_eq_some_iff.mp ho).1).trans ho
end
end
section
open PyProof.Rows.LSm
set_option maxHeartbeats 2000000
theorem M.assoc{α β γ:Type}(m:M α)(f:α->M β)(g:β->M γ):(m >>=f) >>=g=m >>=fun a=>f a >>=g:=by
 funext s;show M.bind (M.bind m f) g s=M.bind m (fun a=>M.bind (f a) g) s;unfold M.bind;cases m s with
 | none=>rfl
 | some p=>
  obtain ⟨a,s1⟩:=p;cases a <;> rfl
section
variable {Λ:Lev} {φ φ₀:List Addr} {K:Frag} {F:Fns} {ρ:Ev} {s s':S} {r:Shared}
theorem swap_eq{ts:List Expr}{v:Expr}{env:Env}(h:env.scope=ρ.scope):swappedStores ts v env=swappedStores ts v (stubEnv ρ):=by
 unfold swappedStores Env.kindOf Env.blockKind stubEnv;rw [h]
theorem noComp_none{x:Expr}{l:Nat}{env:Env}(h:noComp x=true)(t:Option Expr):swapsWith x t l env=pure false:=by
 unfold swapsWith;cases x <;> first | rfl | cases h
theorem swapOf_eq{ts:List Expr}{v:Expr}{o:Option (List Str)}{env:Env}(hs:env.scope=ρ.scope)(h:swapOf ts v ρ=some o):swappedStores ts v env=pure o:=by
 rw [swap_eq hs];unfold swapOf at h;split at h
 ·rename_i q;cases h;exact q
 ·cases h
variable (W:Wd Λ.G K) (So:Sound Λ.prog Λ.G F) (e:EvR Λ φ₀ ρ)
include e
theorem stores_S:∀ (xs:List Str) {φ:List Addr} {vs:List V} {ys:List Value},Ext φ₀ φ->VsR φ vs ys->Sim Λ φ TrueR (sr_ ρ xs vs) (assignInOrder (xs.map fun n=>bindName Λ.env n) ys)
 | [],φ,[],[],_,_=>Sim.pure fun _ _=>trivial
 | x::xs,φ,v::vs,y::ys,ex,⟨h1,h2⟩=>by
  show Sim Λ φ TrueR (si_ ρ x v >>=fun _=>sr_ ρ xs vs) (PySem.holding ys (bindName Λ.env x y) >>=fun _=>assignInOrder (xs.map fun n=>bindName Λ.env n) ys);exact Sim.bind (Sim.holding (store_S (e.mono ex) x h1)) fun φ1 _ _ ex1 _=>stores_S xs (ex.trans ex1) (h2.mono ex1)
 | [],_,_::_,_,_,_=>Sim.fail
 | _::_,_,[],_,_,_=>Sim.fail
 | _,_,[],_::_,_,h=>h.elim
 | _,_,_::_,[],_,h=>h.elim
omit e in
theorem VsR.reverse{φ:List Addr}:∀ {vs:List V} {ys:List Value},VsR φ vs ys->VsR φ vs.reverse ys.reverse
 | [],[],_=>trivial
 | v::vs,y::ys,⟨a,b⟩=>by
  rw [List.reverse_cons,List.reverse_cons];exact b.reverse.append ⟨a,trivial⟩
 | [],_::_,h=>h.elim
 | _::_,[],h=>h.elim
include W So
theorem assignStm_S(t x:Expr)(pos:Pos):Sim Λ φ₀ FlowR (eb_ K F (.Assign [t] x pos) ρ) (exec (.Assign [t] x pos) Λ.env):=by
 unfold eb_;refine Sim.need fun hn=>?_;rw [exec_Assign_arm];refine Sim.at ?_;show Sim Λ φ₀ FlowR _ (swapsWith x (some t) pos.line Λ.env >>=fun b=>if b then (evalThenUse x Λ.env (fun v=>assignAll v ((assignEach [t] Λ.env).map (·.2))) >>=fun _=>Pure.pure PySem.Flow.next) else eval x Λ.env >>=fun v=>swappedStores [t] x Λ.env >>=fun q=>assignStores Λ.env v q ((assignEach [t] Λ.env).map (·.2)));rw [noComp_none hn];show Sim Λ φ₀ FlowR _ (eval x Λ.env >>=fun v=>swappedStores [t] x Λ.env >>=fun q=>assignStores Λ.env v q ((assignEach [t] Λ.env).map (·.2)));refine Sim.bind (eo_ So e x (Ext.refl _)) fun φ1 v y ex hv=>?_;split
 ·rename_i names hw;rw [swapOf_eq e.scope hw];show Sim Λ φ1 FlowR _ (rule "assign.swapped-stores" >>=fun _=>unpackItems y names.length none >>=fun items=>assignInOrder (names.reverse.map fun n=>bindName Λ.env n) items.reverse >>=fun _=>Pure.pure PySem.Flow.next);refine Sim.skip (fun q=>wpAny_rule (q ())) fun _=>Sim.of_at fun φ2 s r ex2 st=>?_;refine At.items e.a.handled st (hv.mono ex2) (fun vs h=>of_decide_eq_true h) fun vs l r' hl hlen st'=>?_;refine At.bind (stores_S e names.reverse (ex.trans ex2) hl.reverse) st' fun φ3 _ _ s3 r3 _ _ st3 _=>?_;exact At.of (Sim.pure fun _ _=> .next) (Ext.refl _) st3
 ·rename_i hw;rw [swapOf_eq e.scope hw];show Sim Λ φ1 FlowR _ (assignAll y ((assignEach [t] Λ.env).map (·.2)) >>=fun _=>Pure.pure PySem.Flow.next);by_cases hs:na_ t=true
  ·rw [each_cons hs];show Sim Λ φ1 FlowR _ (assign t Λ.env y >>=fun _=>Pure.pure PySem.Flow.next);exact Sim.bind (assign_S W So e t ex hv) fun _ _ _ _ _=>Sim.pure fun _ _=> .next
  ·cases t <;> first | exact absurd rfl hs | skip
   exact ⟨fun _ _ _ _ _ _ _ _ nn _ _=>absurd rfl nn⟩
 ·exact Sim.fail
omit W in
theorem delete_S(o i:Expr)(p pos:Pos):Sim Λ φ₀ FlowR (eb_ K F (.Delete [.Subscript o i p] pos) ρ) (exec (.Delete [.Subscript o i p] pos) Λ.env):=by
 unfold eb_;rw [arm_exec_Delete];refine Sim.at ?_;show Sim Λ φ₀ FlowR _ ((delete (.Subscript o i p) Λ.env >>=fun _=>Pure.pure ()) >>=fun _=>Pure.pure PySem.Flow.next);have h:Sim Λ φ₀ TrueR (F.ev o ρ >>=fun ov=>F.ev i ρ >>=fun iv=>dc_ ov iv) (delete (.Subscript o i p) Λ.env):=by
  show Sim Λ φ₀ TrueR _ (eval o Λ.env >>=fun ov=>PySem.holding [ov] (eval i Λ.env) >>=fun iv=>standAt p >>=fun _=>PySem.holding [ov,iv] (delItem ov iv) >>=fun _=>PySem.release [ov,iv] []);exact Sim.bind (eo_ So e o (Ext.refl _)) fun φ1 a x ex1 ha=>Sim.bind (Sim.holding (eo_ So e i ex1)) fun φ2 b z ex2 hb=>Sim.at (Sim.thenRelease (Sim.holding (delItem_S (ha.mono ex2) hb)))
 have h2:Sim Λ φ₀ FlowR ((F.ev o ρ >>=fun ov=>F.ev i ρ >>=fun iv=>dc_ ov iv) >>=fun _=>Pure.pure .next) ((delete (.Subscript o i p) Λ.env >>=fun _=>Pure.pure ()) >>=fun _=>Pure.pure PySem.Flow.next):=Sim.bind (Sim.bindPure h) fun _ _ _ _ _=>Sim.pure fun _ _=> .next;refine Sim.of_eq h2 ?_ rfl;show (F.ev o ρ >>=fun ov=>F.ev i ρ >>=fun iv=>dc_ ov iv >>=fun _=>Pure.pure Mine.Flow.next)=_;rw [M.assoc];congr 1;funext ov;rw [M.assoc]
omit W in
theorem expr_S(x:Expr)(pos:Pos):Sim Λ φ₀ FlowR (eb_ K F (.Expr x pos) ρ) (exec (.Expr x pos) Λ.env):=by
 unfold eb_;refine Sim.need fun hn=>⟨fun φ s r Q E ex st pe nn ok exc=>?_⟩;have hi:interactive Λ.env=false:=by unfold interactive;rw [e.scope,e.kind];rfl
 refine wpAny_Expr_any ((eo_ So e x ex).run φ s r _ E (Ext.refl _) st pe (bind_some nn) (fun v s1 h1 φ1 y r1 x1 st1 hv=>?_) fun c s1 h1=>exc c s1 (ba_ h1)) hi (noComp_none hn none);exact ok .next s1 (by rw [bo_ h1];rfl) φ1 _ r1 x1 st1 .next
omit W in
theorem return_S(x:Expr)(pos:Pos):Sim Λ φ₀ FlowR (eb_ K F (.Return (some x) pos) ρ) (exec (.Return (some x) pos) Λ.env):=by
 unfold eb_;show Sim Λ φ₀ FlowR _ (standAt pos >>=fun _=>eval x Λ.env >>=fun v=>Pure.pure (PySem.Flow.ret v));exact Sim.at (Sim.bind (eo_ So e x (Ext.refl _)) fun φ1 v y ex hv=>Sim.pure fun φ ex'=> .ret (hv.mono ex'))
omit W in
theorem if_S(t:Expr)(b o:List Stmt)(pos:Pos):Sim Λ φ₀ FlowR (eb_ K F (.If t b o pos) ρ) (exec (.If t b o pos) Λ.env):=by
 unfold eb_;rw [arm_exec_If];refine Sim.at (Sim.bind (tr_of So e t (Ext.refl _)) fun φ1 k k' ex hk=>?_);subst hk;cases k with
 | true=>exact So.exs Λ ρ φ1 b rfl rfl (e.mono ex)
 | false=>exact So.exs Λ ρ φ1 o rfl rfl (e.mono ex)
omit W in
theorem while_S(t:Expr)(b:List Stmt)(pos:Pos):Sim Λ φ₀ FlowR (eb_ K F (.While t b [] pos) ρ) (exec (.While t b [] pos) Λ.env):=
 ⟨fun φ s r Q E ex st pe nn ok exc=>wpAny_While (So.wh Λ ρ φ₀ t b rfl rfl e φ s r Q E ex st pe nn ok exc)⟩
omit W in
theorem for_S(t i:Expr)(b:List Stmt)(pos:Pos):Sim Λ φ₀ FlowR (eb_ K F (.For t i b [] pos) ρ) (exec (.For t i b [] pos) Λ.env):=by
 unfold eb_;refine Sim.need fun hn=>⟨fun φ s r Q E ex st pe nn ok exc=>wpAny_For ?_ (fun x=>by cases i <;> first | rfl | cases hn)⟩;refine (eo_ So e i ex).run φ s r _ E (Ext.refl _) st pe (bind_some nn) (fun x s1 h1 φ1 y r1 x1 st1 hy=>?_) (fun c s1 h1=>exc c s1 (ba_ h1));have q1:=bo_ (f:=fun x=>id_ x >>=fun it=>F.fo t it b ρ) h1;have nn1:=nn;rw [q1] at nn1;refine (iter_S hy).run φ1 s1 r1 _ E (Ext.refl _) st1 pe (bind_some nn1) (fun it s2 h2 φ2 z r2 x2 st2 hz=>?_) (fun c s2 h2 φ2 y r2 x2 fl=>exc c s2 (by rw [q1];exact ba_ h2) φ2 y r2 (x1.trans x2) fl);obtain ⟨ai,eai,rfl⟩:=hz;have q2:=bo_ (f:=fun it=>F.fo t it b ρ) h2;rw [q2] at nn1;exact So.fo Λ ρ φ2 t b it ai rfl rfl (e.mono (ex.trans (x1.trans x2))) eai φ2 s2 r2 Q E (Ext.refl _) st2 pe nn1 (fun a s3 h3 φ3 b r3 x3=>ok a s3 (by rw [q1,q2];exact h3) φ3 b r3 ((x1.trans x2).trans x3)) (fun c s3 h3 φ3 b r3 x3=>exc c s3 (by rw [q1,q2];exact h3) φ3 b r3 ((x1.trans x2).trans x3))
omit W in
theorem wh_S(t:Expr)(b:List Stmt):SimC Λ φ₀ FlowR (whM F t b ρ) (.whileLoop t b [] Λ.env):=by
 intro φ s r Q E ex st pe nn ok exc;unfold whM at nn ok exc;refine whl_turn (k:=0) pe ?_;refine (tr_of So e t ex).run φ s r _ E (Ext.refl _) st pe (bind_some nn) (fun k s1 h1 φ1 k' r1 x1 st1 hk=>?_) (fun c s1 h1=>exc c s1 (ba_ h1));cases hk;rw [bo_ h1] at nn ok exc;cases k with
 | false=>exact WhlIf.no rfl (wpAny_pure (ok _ _ rfl φ1 _ r1 x1 st1 .next))
 | true=>
  simp only [if_true] at nn ok exc;refine WhlIf.yes rfl ?_;refine (So.exs Λ ρ φ1 b rfl rfl (e.mono (ex.trans x1))).run φ1 s1 r1 _ E (Ext.refl _) st1 pe (bind_some nn) (fun f s2 h2 φ2 f' r2 x2 st2 hf=>?_) (fun c s2 h2 φ2 y r2 x2=>exc c s2 (ba_ h2) φ2 y r2 (x1.trans x2));rw [bo_ h2] at nn ok exc;cases hf with
  | next=>exact So.wh Λ ρ φ2 t b rfl rfl (e.mono (ex.trans (x1.trans x2))) φ2 s2 r2 Q E (Ext.refl _) st2 pe nn (fun a s3 h3 φ3 b r3 x3=>ok a s3 h3 φ3 b r3 ((x1.trans x2).trans x3)) (fun c s3 h3 φ3 b r3 x3=>exc c s3 h3 φ3 b r3 ((x1.trans x2).trans x3))
  | ret hv=>exact ok _ _ rfl φ2 _ r2 (x1.trans x2) st2 (.ret hv)
omit W So e in
theorem ownM_res{t:Expr}{it:Nat}{v:V}{s:S}{C:Addr}{s':S}:ownM t it v s≠some (.exc C,s'):=fun h=>by
 unfold ownM at h;split at h
 ·rcases bf_ h with h | ⟨a,s1,h1,h2⟩
  ·unfold Mine.geto at h;split at h <;> cases h
  ·split at h2
   ·cases h2
   ·rename_i n i k;rcases bf_ h2 with h3 | ⟨a,s2,h3,h4⟩
    ·cases hk:decide (v= .ref k) <;> rw [hk] at h3 <;> cases h3
    ·unfold seto at h4;split at h4 <;> cases h4
   ·cases h2
 ·cases h
 ·cases h
theorem fo_S(t:Expr)(b:List Stmt){it:Nat}{a:Addr}(ea:φ₀[it]? =some a):SimC Λ φ₀ FlowR (foM K F t it b ρ) (.forLoop t (.ref a) b [] Λ.env):=by
 intro φ s r Q E ex st pe nn ok exc;unfold foM at nn ok exc;refine codeAny_of_tree ?_;show wpAny _ Λ.A ((forTurn t (.ref a) b [] Λ.env).onRaise (fun x=>do noteFrame x Λ.env;theTreesLotGoes x)) _ _ r;refine wpAny_noted (wpAny_mono (Q:=fun fin s'=>match fin with | .done f=>Q f s' | .again c'=>c'.quiet=true/\codeAny (model Λ.prog Λ.G.w) Λ.A c' (fun res s'=>match res with | .ok f=>Q f s' | .error e=>cameBackBy (model Λ.prog Λ.G.w) Λ.A Λ.env E e s') s') ?_ (fun _ _ h=>h) pe);unfold forTurn;refine wpAny_bind (wpAny_standAt (wpAny_bind (wpAny_onRaise (wpAny_mono (Q:=fun o s'=>wpAny (model Λ.prog Λ.G.w) Λ.A _ _ E s') ((next_S e.a.handled (ex.get ea)).run φ s r _ E (Ext.refl _) st pe (bind_some nn) (fun o s1 h1 φ1 o' r1 x1 st1 ho=>?_) (fun c s1 h1=>exc c s1 (ba_ h1))) (fun _ _ h=>h) fun _ _ h=>wpAny_standAt h))))
 ·rw [bo_ h1] at nn ok exc;cases o with
  | none=>
   cases o' with
   | some _=>exact ho.elim
   | none=>exact wpAny_pure ⟨rfl,codeAny_of_tree (by
     show wpAny _ Λ.A (_ >>=_) _ _ r1;exact wpAny_bind (wpAny_onRaise (wpAny_pure (wpAny_pure (ok _ _ rfl φ1 _ r1 x1 st1 .next)))))⟩
  | some v=>
   cases o' with
   | none=>exact ho.elim
   | some y=>
   cases h3:ownM t it v s1 with
   | none=>exact absurd (bb_ h3) nn
   | some p=>
   obtain ⟨res,s2⟩:=p;cases res with
   | exc C=>exact absurd h3 ownM_res
   | ok u=>
   dsimp only at nn ok exc;have own:=fun {Q E}=>own_at st1 (x1.get (ex.get ea)) ho h3 (A:=Λ.A) (Q:=Q) (E:=E);rw [bo_ h3] at nn ok exc;refine wpAny_bind (own fun r1' st1=>(wpAny_bind ?_));refine (assign_S W So e t (ex.trans x1) ho).run φ1 s2 r1' _ E (Ext.refl _) st1 pe (bind_some nn) (fun u2 s3 h4 φ2 _ r2 x2 st2 _=>?_) (fun c s3 h4 φ2 y r2 x2=>exc c s3 (ba_ h4) φ2 y r2 (x1.trans x2));rw [bo_ h4] at nn ok exc;refine wpAny_bind ((So.exs Λ ρ φ2 b rfl rfl (e.mono (ex.trans (x1.trans x2)))).run φ2 s3 r2 _ E (Ext.refl _) st2 pe (bind_some nn) (fun f s4 h5 φ3 f' r3 x3 st3 hf=>?_) (fun c s4 h5 φ3 y r3 x3=>exc c s4 (ba_ h5) φ3 y r3 ((x1.trans x2).trans x3)));rw [bo_ h5] at nn ok exc;have x13:=(x1.trans x2).trans x3;cases hf with
   | next=>exact wpAny_pure ⟨rfl,So.fo Λ ρ φ3 t b it a rfl rfl (e.mono (ex.trans x13)) (x13.get (ex.get ea)) φ3 s4 r3 Q E (Ext.refl _) st3 pe nn (fun a s3 h3 φ4 b r4 x4=>ok a s3 h3 φ4 b r4 (x13.trans x4)) (fun c s3 h3 φ4 b r4 x4=>exc c s3 h3 φ4 b r4 (x13.trans x4))⟩
   | ret hv=>exact wpAny_pure (ok _ _ rfl φ3 _ r3 x13 st3 (.ret hv))
end
end
section
open PyProof.Rows.LSm
set_option maxHeartbeats 2000000
theorem zip_some:∀ {ns:List Str} {xs:List Value} {k:Nat} {n:Str},n∈ns.take k->k<=xs.length->((ns.zip xs).lookup n).isSome=true
 | [],_,_,_,h,_=>by simp at h
 | _::_,_,0,_,h,_=>by simp at h
 | _::_,[],_+1,_,_,hl=>by simp at hl
 | m::ns,x::xs,k+1,n,h,hl=>by
  rw [List.zip_cons_cons,List.lookup_cons];cases hb:n==m with
  | true=>rfl
  | false=>
   rw [List.take_succ_cons,List.mem_cons] at h;rcases h with rfl | h
   ·simp at hb
   ·exact zip_some h (by simpa using hl)
theorem zip_none:∀ {ns:List Str} {xs:List Value} {n:Str},ns.Nodup->n∈ns.drop xs.length->(ns.zip xs).lookup n=none
 | [],_,_,_,h=>by simp at h
 | _::_,[],_,_,_=>rfl
 | m::ns,x::xs,n,hd,h=>by
  rw [List.nodup_cons] at hd;rw [List.zip_cons_cons,List.lookup_cons];have h':n∈ns.drop xs.length:=by simpa using h
  have:(n==m)=false:=by simpa using fun e:n=m=>hd.1 (e▸List.mem_of_mem_drop h')
  rw [this];exact zip_none hd.2 h'
theorem filterMap_same{α β:Type}{f g:α->Option β}:∀ {l:List α},(∀ a∈l,f a=g a)->l.filterMap f=l.filterMap g
 | [],_=>rfl
 | a::l,h=>by
  rw [List.filterMap_cons,List.filterMap_cons,h a (.head _),filterMap_same fun b hb=>h b (.tail _ hb)]
theorem take_zip:∀ {ns:List Str} {xs:List Value},(ns.take xs.length).zip xs=ns.zip xs
 | [],_=>by simp
 | _::_,[]=>by simp
 | _::ns,_::xs=>by simp [take_zip (ns:=ns) (xs:=xs)]
theorem zip_pick:∀ {ns:List Str} {ys:List Value},ns.Nodup->ns.length=ys.length->ns.filterMap (fun n=>((ns.zip ys).lookup n).map fun v=>(n,v))=ns.zip ys
 | [],[],_,_=>rfl
 | [],_::_,_,h=>by simp at h
 | _::_,[],_,h=>by simp at h
 | m::ns,y::ys,hd,hl=>by
  rw [List.nodup_cons] at hd;have ih:=zip_pick hd.2 (ys:=ys) (by simpa using hl);rw [List.zip_cons_cons,List.filterMap_cons,List.lookup_cons];simp only [beq_self_eq_true,Option.map_some];congr 1;refine Eq.trans (filterMap_same fun n hn=>?_) ih;rw [List.lookup_cons];have:(n==m)=false:=by simpa using fun e:n=m=>hd.1 (e▸hn)
  rw [this]
theorem fill_none(f:Str×Value->List (Str×Value)->Sem (ForInStep (List (Str×Value))))(hf:∀ p b,f p b=pure (ForInStep.yield (if (b.lookup p.1).isNone then b++ [(p.1,p.2)] else b))):∀ (l:List (Str×Value)) {b:List (Str×Value)},(∀ p∈l,(b.lookup p.1).isSome=true)->forIn l b f=(pure b:Sem _)
 | [],b,_=>by simp
 | p::l,b,h=>by
  rw [List.forIn_cons,hf];have:=h p (.head _);rw [if_neg (by cases hq:List.lookup p.1 b <;> simp_all),pure_bind];exact fill_none f hf l fun q hq=>h q (.tail _ hq)
theorem fill_all(f:Str×Value->List (Str×Value)->Sem (ForInStep (List (Str×Value))))(hf:∀ p b,f p b=pure (ForInStep.yield (if (b.lookup p.1).isNone then b++ [(p.1,p.2)] else b))):∀ (l:List (Str×Value)) {b:List (Str×Value)},(l.map (·.1)).Nodup->(∀ p∈l,b.lookup p.1=none)->forIn l b f=(pure (b++l):Sem _)
 | [],b,_,_=>by simp
 | p::l,b,hd,h=>by
  rw [List.map_cons,List.nodup_cons] at hd;rw [List.forIn_cons,hf];rw [if_pos (by rw [h p (.head _)];rfl),pure_bind];have:=fill_all f hf l (b:=b++ [(p.1,p.2)]) hd.2 fun q hq=>by
   rw [List.lookup_append,h q (.tail _ hq)];have:(q.1==p.1)=false:=by simpa using fun e:q.1=p.1=>hd.1 (e▸List.mem_map_of_mem hq)
   simp only [List.lookup_cons,this,List.lookup_nil];rfl
  exact this.trans (by rw [List.append_assoc];rfl)
theorem bind_run{M:Model}{A:Around}{E:Value->Shared->Prop}{s:Shared}{Q:List (Str×Value)->Shared->Prop}{fd:FuncData}{xs ds:List Value}(hp:pg_ fd.params=true)(hd:(fd.params.args.map (·.arg)).Nodup)
  (hs:∀ {Q:Option (Array Value)->Shared->Prop},(∀ o,(Option.getD o #[]).toList=ds->Q o s)->wpAny M A (seqItems? fd.defaults) Q E s)
  (hl:(xs.length=fd.params.args.length/\ds.length<=xs.length)\/xs.length+ds.length=fd.params.args.length)
  (h:Q ((fd.params.args.map (·.arg)).zip (if xs.length=fd.params.args.length then xs else xs++ds)) s):wpAny M A (bindArgs fd ⟨xs,[]⟩) Q E s:=by
 unfold pg_ at hp;simp only [Bool.and_eq_true,List.isEmpty_iff,Option.isNone_iff_eq_none] at hp;obtain ⟨⟨⟨h1,h2⟩,h3⟩,h4⟩:=hp;unfold bindArgs;simp only [h1,h2,h3,h4,List.map_nil,List.nil_append,List.append_nil,List.forIn_nil,pure_bind];refine wpAny_bind (hs fun o ho=>?_);rw [ho];have hnl:(fd.params.args.map (·.arg)).length=fd.params.args.length:=List.length_map _;generalize hns:fd.params.args.map (·.arg)=ns at*;have hdl:ds.drop (ds.length - ns.length)=ds:=by
  have:ds.length - ns.length=0:=by omega
  rw [this,List.drop_zero]
 rw [hdl];rw [if_neg (by simp;omega)];have hmiss:List.filter (fun n=>(List.lookup n (ns.zip xs)).isNone) (List.take (ns.length - ds.length) ns)= []:=by
  rw [List.filter_eq_nil_iff];intro n hn;have:=zip_some (xs:=xs) hn (by omega);cases hq:List.lookup n (ns.zip xs) <;> simp_all
 rw [hmiss];rw [if_neg (by simp)];have loop:∀ (f:Str×Value->List (Str×Value)->Sem (ForInStep (List (Str×Value)))) (hf:∀ p b,f p b=pure (ForInStep.yield (if (b.lookup p.1).isNone then b++ [(p.1,p.2)] else b))),
   forIn ((ns.drop (ns.length - ds.length)).zip ds) (ns.zip xs) f=(pure (ns.zip (if xs.length=fd.params.args.length then xs else xs++ds)):Sem _):=by
  intro f hf;by_cases hx:xs.length=fd.params.args.length
  ·rw [if_pos hx];refine fill_none f hf _ fun p hp=>?_;have:p.1∈ns:=List.mem_of_mem_drop (List.of_mem_zip (a:=p.1) (b:=p.2) hp).1;exact zip_some (k:=ns.length) (by rw [List.take_length];exact this) (by omega)
  ·rw [if_neg hx];have hx2:xs.length+ds.length=fd.params.args.length:=by rcases hl with h | h;exact absurd h.1 hx;exact h
   have hk:ns.length - ds.length=xs.length:=by omega
   rw [hk];have hz:ns.zip (xs++ds)=ns.zip xs++(ns.drop xs.length).zip ds:=by
    conv=>lhs;rw [<-List.take_append_drop xs.length ns]
    rw [List.zip_append (by rw [List.length_take];omega)];congr 1;exact take_zip
   rw [hz];refine fill_all f hf _ ?_ fun p hp=>zip_none hd (List.of_mem_zip (a:=p.1) (b:=p.2) hp).1;rw [List.map_fst_zip (by rw [List.length_drop];omega)];exact hd.sublist (List.drop_sublist _ _)
 rw [loop _ (fun p b=>by split <;> rfl),pure_bind];rw [if_neg (by simp)];rw [zip_pick hd (by split <;> simp_all)];exact wpAny_pure h
end
section
open PyProof.Rows.LSm
set_option maxHeartbeats 2000000
structure Still(G:Ground)(C:Addr)(kp:Kept)(φ:List Addr)(s:S)(r:Shared)(B:Heap):Prop where
 base:G.base.StaysIn B
 objs:∀ (n:Nat) (o:O) (a:Addr),s.h[n]? =some o->o≠ .dead->φ[n]? =some a->B.get? a=r.heap.get? a
 more:∃ xs,G.tabs xs/\(∀ q∈xs,B.get? q.1=some q.2/\r.heap.get? q.1=some q.2/\q.1≠C/\(∀ p∈kp,p.1≠q.1)/\G.base.get? q.1=none/\∀ n,Live s n->φ[n]? ≠some q.1)/\LamsIn φ s.h B xs
theorem St.slots{G:Ground}{C:Addr}{kp:Kept}{φ:List Addr}{s:S}{r:Shared}{B h':Heap}(x:St G C kp φ s r)(y:Still G C kp φ s r B)(hB:B.StaysIn h')(hu:r.heap.UpToSlots h'):St G C kp φ s {r with heap:=h'}/\Still G C kp φ s {r with heap:=h'} B:=by
 have ob:∀ (n:Nat) (o:O) (a:Addr),s.h[n]? =some o->o≠ .dead->φ[n]? =some a->h'.get? a=r.heap.get? a:=fun n o a e hd ea=>by
  obtain ⟨⟨o1,g,_⟩,_⟩:=x.objs n o a e hd ea;rw [g];exact hB a o1 ((y.objs n o a e hd ea).trans g)
 obtain ⟨xs,tb,q,lm⟩:=y.more;refine ⟨{base:=fun b o e=>hB b o (y.base b o e),ns:=?_,kept:=fun p hp=>⟨hu.ns (x.kept p hp).1,(x.kept p hp).2⟩,low:=x.low,len:=x.len,objs:=?_,inj:=x.inj,fresh:=x.fresh,more:=?_,gens:=x.gens,os:=x.os},?_⟩
 ·obtain ⟨m,a,b⟩:=x.ns;exact ⟨m,hu.ns a,b⟩
 ·intro n o a e hd ea;obtain ⟨⟨o1,g,z⟩,t⟩:=x.objs n o a e hd ea;exact ⟨⟨o1,(ob n o a e hd ea).trans g,z⟩,t⟩
 ·refine ⟨xs,tb,fun p hp=>let ⟨q1,q2⟩:=q p hp;⟨hB _ _ q1,q2.2⟩,fun n body scope cells a o1 e ea g=>?_⟩;have hd:O.lam body scope cells≠ .dead:=by simp
  exact lm n body scope cells a o1 e ea ((y.objs n _ a e hd ea).trans ((ob n _ a e hd ea).symm.trans g))
 ·exact ⟨y.base,fun n o a e hd ea=>(y.objs n o a e hd ea).trans (ob n o a e hd ea).symm,xs,tb,fun p hp=>let ⟨q1,q2⟩:=q p hp;⟨q1,hB _ _ q1,q2.2⟩,lm⟩
theorem Still.leave{G:Ground}{C L:Addr}{kp:Kept}{m:Str->Option Value}{φ:List Addr}{s:S}{r:Shared}{B:Heap}{l:List (Str×V)}(y:Still G L ((C,m)::kp) φ s r B):Still G C kp φ {s with l:=l} r B where
 base:=y.base
 objs:=y.objs
 more:=let ⟨xs,tb,q,lm⟩:=y.more
  ⟨xs,tb,fun p hp=>let ⟨q0,q1,_,q3,q4,q5⟩:=q p hp;⟨q0,q1,Ne.symm (q3 (C,m) (.head _)),fun z hz=>q3 z (.tail _ hz),q4,q5⟩,lm⟩
theorem Flies.still{Λ:Lev}{φ:List Addr}{s:S}{c e:Addr}{r:Shared}(x:Flies Λ φ s c e r):∃ B a0,Heap.StaysIn B r.heap/\B.get? e=none/\r.heap.FunFrames B Λ.envs/\Still Λ.G Λ.env.locals Λ.kp φ s r B/\
  ((∃ ob vs,r.heap.get? e=some ob/\ob.cls= .ref c/\ob.data= .fields vs/\vs[0]? =some a0/\vs[1]? =some .none)\/r.heap.TracedW B e (.ref c) a0):=by
 obtain ⟨B,a0,h1,h2,h3,h4,h5,h6,h7⟩:=x.fly;exact ⟨B,a0,h1,h2,h3,⟨h4,h5,h6⟩,h7⟩
theorem Flies.of{Λ:Lev}{φ:List Addr}{s:S}{c e:Addr}{r:Shared}{B:Heap}{a0:Value}(st:St Λ.G Λ.env.locals Λ.kp φ s r)(h1:Heap.StaysIn B r.heap)(h2:B.get? e=none)(h3:r.heap.FunFrames B Λ.envs)(y:Still Λ.G Λ.env.locals Λ.kp φ s r B)
  (h7:(∃ ob vs,r.heap.get? e=some ob/\ob.cls= .ref c/\ob.data= .fields vs/\vs[0]? =some a0/\vs[1]? =some .none)\/r.heap.TracedW B e (.ref c) a0):Flies Λ φ s c e r:=⟨st,B,a0,h1,h2,h3,y.base,y.objs,y.more,h7⟩
abbrev Lev.call(Λ:Lev)(A:Around)(env:Env)(m:Str->Option Value):Lev:={Λ with A,env,kp:=(Λ.env.locals,m)::Λ.kp,envs:=env::Λ.envs}
theorem Flies.leaves{Λ:Lev}{A:Around}{env:Env}{m:Str->Option Value}{φ:List Addr}{s:S}{c e:Addr}{r:Shared}{l:List (Str×V)}{L:Addr}{M:Model}{Q:Unit->Shared->Prop}{E:Value->Shared->Prop}
  (x:Flies (Λ.call A env m) φ s c e r) (hl:LocR φ l m) (hk:∀ q∈Λ.kp,q.1≠Λ.env.locals) (hfr:A.frames=some (env::Λ.envs)) (hf:env.frame=some L) (h:∀ r',Flies Λ φ {s with l:=l} c e r'->Q () r'):wpAny M A (leaving env (.ref e)) Q E r:=by
 obtain ⟨B,a0,h1,h2,h3,y,h7⟩:=x.still;have fin:∀ h',B.StaysIn h'->h'.FunFrames B Λ.envs->h'.TracedW B e (.ref c) a0->r.heap.UpToSlots h'->Q () {r with heap:=h'}:=fun h' k1 k2 k3 k4=>by
  obtain ⟨st,y'⟩:=x.st.slots y k1 k4;exact h _ (Flies.of (st.leave hl hk) k1 h2 k2 y'.leave (.inr k3))
 rcases h7 with ⟨ob,vs,g,hc,hd,h0,hn⟩ | ht
 ·refine wpAny_leaving_firstW hfr h3 hf g h1 h2 hd hn h0 fun h' hL=>?_;obtain ⟨k1,⟨_,_,k2⟩,k3,k4⟩:=hL;exact fin h' k1 k2 (hc▸k3) k4
 ·exact wpAny_leaves_onW hfr hf ⟨h1,h2,h3,ht⟩ fun h' hF hu=>fin h' hF.1 hF.2.2.1 hF.2.2.2 hu
end
section
open PyProof.Rows.LSm
set_option maxHeartbeats 2000000
theorem valsOf_R(φ:List Addr):∀ {vs:List Value} {us:List V},valsOf vs=some us->VsR φ us vs
 | [],us,h=>by cases h;trivial
 | v::r,us,h=>by
  unfold valsOf at h;split at h
  ·rename_i u us' h1 h2;cases h;exact ⟨valOf_R h1 φ,valsOf_R φ h2⟩
  ·cases h
theorem bind_any{K:Frag}{φ:List Addr}{s:Shared}{fd:FuncData}{args vs:List V}{xs:List Value}(X:K.In s.heap)(hp:pg_ fd.params=true)(hd:(fd.params.args.map (·.arg)).Nodup)(hf:ff_ K fd args=some vs)(hx:VsR φ args xs):
  ∃ ys,VsR φ vs ys/\∀ {M:Model} {A:Around} {E:Value->Shared->Prop} {Q:List (Str×Value)->Shared->Prop},Q ((fd.params.args.map (·.arg)).zip ys) s->wpAny M A (bindArgs fd ⟨xs,[]⟩) Q E s:=by
 unfold ff_ at hf;split at hf
 ·rename_i ds hds;obtain ⟨zs,hz,hseq⟩:∃ zs,VsR φ ds zs/\∀ {M:Model} {A:Around} {E:Value->Shared->Prop} {Q:Option (Array Value)->Shared->Prop},(∀ o,(Option.getD o #[]).toList=zs->Q o s)->wpAny M A (seqItems? fd.defaults) Q E s:=by
   unfold dfltsOf at hds;split at hds
   ·rename_i hdf;cases hds;refine ⟨[],trivial,fun {M A E Q} h=>?_⟩;rw [hdf];exact wpAny_pure (h none rfl)
   ·rename_i t hdf;rw [hdf];split at hds
    ·rename_i o1 v n o2 hk;refine ⟨_,valsOf_R φ hds,fun {M A E Q} h=>?_⟩;exact wpAny_seqItems (X _ _ hk) rfl (h _ rfl)
    ·cases hds
   ·cases hds
  have l1:=hx.length;have l2:=hz.length;by_cases h1:args.length=fd.params.args.length/\ds.length<=args.length
  ·rw [if_pos h1] at hf;cases hf;refine ⟨xs,hx,fun {M A E Q} q=>bind_run hp hd hseq (.inl ⟨by omega,by omega⟩) ?_⟩;rw [if_pos (by omega)];exact q
  ·rw [if_neg h1] at hf;by_cases h2:args.length+ds.length=fd.params.args.length
   ·rw [if_pos h2] at hf;cases hf;refine ⟨xs++zs,hx.append hz,fun {M A E Q} q=>bind_run hp hd hseq (.inr (by omega)) ?_⟩;split
    ·rename_i h3;have:zs= []:=List.eq_nil_of_length_eq_zero (by omega);subst this;rw [List.append_nil] at q;exact q
    ·exact q
   ·rw [if_neg h2] at hf;cases hf
 ·cases hf
section
variable {G:Ground} {prog:Program} {C:Addr} {kp:Kept} {s s':S} {r:Shared} {φ:List Addr}
theorem cells_run{M:Model}{A:Around}{E:Value->Shared->Prop}{Q:List (Str×Addr)->Shared->Prop}(f:Str×NameKind->List (Str×Addr)->Sem (ForInStep (List (Str×Addr))))
  (hf:∀ name kind cells,f (name,kind) cells=if kind== .cell then (do let a<-PySem.alloc {cls:= .type "cell",data:= .cell none};pure (.yield ((name,a)::cells))) else pure (.yield cells)):
  ∀ (names:List (Str×NameKind)) {φ:List Addr} {acc cells:List (Str×Nat)} {accR:List (Str×Addr)} {s:S} {r:Shared},St G C kp φ s r->CellsR φ acc accR->ch_ names acc s=some (.ok cells,s')->
   (∀ φ' cellsR r',Ext φ φ'->CellsR φ' cells cellsR->St G C kp φ' s' r'->(∀ b o,r.heap.get? b=some o->r'.heap.get? b=some o)->Q cellsR r')->wpAny M A (forIn names accR f) Q E r
 | [],φ,acc,cells,accR,s,r,st,ha,h,k=>by
  cases h;rw [List.forIn_nil];exact wpAny_pure (k φ accR r (Ext.refl _) ha st fun _ _ e=>e)
 | (x,kd)::ns,φ,acc,cells,accR,s,r,st,ha,h,k=>by
  rw [List.forIn_cons,hf];unfold ch_ at h;by_cases hk:(kd==NameKind.cell)=true
  ·rw [if_pos hk] at h ⊢;rw [bo_ (a:=s.h.length) (s₁:={s with h:=s.h++ [.cell none]}) rfl] at h;refine wpAny_bind (wpAny_bind (wpAny_alloc (wpAny_pure ?_)));have st1:St G C kp (φ++ [r.heap.objs.size]) {s with h:=s.h++ [.cell none]} {r with heap:=r.heap.push {cls:= .type "cell",data:= .cell none}}:=
    st.alloc (tk:=r.toks) (fun b o e=>Heap.get?_push_of_some _ e) Heap.fresh_none (Heap.get?_push_size _ rfl) ⟨none,rfl,trivial⟩ (Nat.ne_of_gt st.big)
   exact cells_run f hf ns (acc:=(x,s.h.length)::acc) st1 ⟨rfl,by rw [<-st.len];simp,ha.mono (Ext.one _ _)⟩ h fun φ' cr r' x hc st' kk=>k φ' cr r' ((Ext.one _ _).trans x) hc st' fun b o e=>kk b o (Heap.get?_push_of_some _ e)
  ·rw [if_neg hk] at h ⊢;exact wpAny_bind (wpAny_pure (cells_run f hf ns st ha h k))
theorem binds_run{Λ:Lev}{ρ:Ev}{E:Value->Shared->Prop}{Q:PUnit->Shared->Prop}(hs:Λ.env.scope=ρ.scope)(hkd:ρ.scope.kind= .function)(f:Str×Value->PUnit->Sem (ForInStep PUnit))(hf:∀ n v u,f (n,v) u=(do storeName Λ.env n v;pure (.yield ⟨⟩))):
  ∀ (ns:List Str) {φ:List Addr} {vs:List V} {ys:List Value} {s:S} {r:Shared},StL Λ φ s r->CellsR φ ρ.cells Λ.env.cells->VsR φ vs ys->bc_ ρ (ns.zip vs) s=some (.ok (),s')->
   (∀ φ' r',Ext φ φ'->StL Λ φ' s' r'->Q ⟨⟩ r')->wpAny (model Λ.prog Λ.G.w) Λ.A (forIn (ns.zip ys) ⟨⟩ f) Q E r
 | [],φ,vs,ys,s,r,st,hc,hv,h,k=>by
  cases h;exact wpAny_pure (k φ r (Ext.refl _) st)
 | _::_,φ,[],[],s,r,st,hc,hv,h,k=>by
  cases h;exact wpAny_pure (k φ r (Ext.refl _) st)
 | n::ns,φ,v::vs,y::ys,s,r,st,hc,⟨h1,h2⟩,h,k=>by
  rw [List.zip_cons_cons,List.forIn_cons,hf];obtain ⟨u,s1,h3,h4⟩:=bd_ (show (si_ ρ n v >>=fun _=>bc_ ρ (ns.zip vs)) s=_ from h);refine wpAny_bind (wpAny_bind (wpAny_noRaise ((store0_S hs hkd hc n h1).okRun (Ext.refl _) st h3 fun φ1 _ r1 x1 st1 _=>wpAny_pure ?_)));exact wpAny_mono (binds_run (E:=fun _ _=>False) hs hkd f hf ns st1 (hc.mono x1) (h2.mono x1) h4 fun φ' r' x'=>k φ' r' (x1.trans x')) (fun _ _ h=>h) fun _ _ h=>h.elim
 | _::_,_,[],_::_,_,_,_,_,h,_,_=>h.elim
 | _::_,_,_::_,[],_,_,_,_,h,_,_=>h.elim
theorem env_run{Λ:Lev}{ρ:Ev}{A:Around}{E:Value->Shared->Prop}{Q:Env->Shared->Prop}{scope:Scope}{ns:List Str}{vs:List V}{ys:List Value}{cells:List (Str×Nat)}{s1 s2:S}{globals builtins:Addr}{qual:Str}{func:Option Addr}{code:Value}
  (st:StL Λ φ s r) (hr:ρ.scope=scope) (hρ:ρ.cells=cells) (hkd:scope.kind= .function) (hv:VsR φ vs ys) (h1:ch_ scope.names [] {s with l:= []}=some (.ok cells,s1)) (h2:bc_ ρ (ns.zip vs) s1=some (.ok (),s2))
  (k:∀ m φ' clos r',Ext φ φ'->CellsR φ' cells clos->LocR φ s.l m->St Λ.G r.heap.objs.size ((Λ.env.locals,m)::Λ.kp) φ' s2 r'->Q (newEnv scope r.heap.objs.size globals clos qual func code none builtins) r'):
  wpAny (model Λ.prog Λ.G.w) A (newFunctionEnv scope globals [] (ns.zip ys) qual func code none builtins) Q E r:=by
 obtain ⟨m,hm,hlo⟩:=st.ns;simp only [newFunctionEnv,Option.isSome_none,Bool.false_eq_true,if_false];refine wpAny_bind (wpAny_alloc ?_);have st0:St Λ.G r.heap.objs.size ((Λ.env.locals,m)::Λ.kp) φ {s with l:= []} {r with heap:=r.heap.push {cls:= .type "frame",data:= .dict #[]}}:=
  st.enter (tk:=r.toks) hm (fun b o g=>Heap.get?_push_of_some _ g) Heap.fresh_none (Heap.Ns.new r.heap (.type "frame")) st.big [] (fun _ _ h=>by cases h)
 refine wpAny_bind (cells_run _ (fun name kind cells=>by cases hkc:kind==NameKind.cell <;> simp [hkc]) scope.names st0 (acc:= []) trivial h1 fun φ1 clos r1 x1 hc st1 kk=>?_);refine wpAny_bind ?_;subst hr hρ;refine binds_run (Λ:={Λ with A:=A,env:=newEnv ρ.scope r.heap.objs.size globals clos qual func code none builtins,kp:=(Λ.env.locals,m)::Λ.kp}) rfl hkd _ (fun _ _ _=>rfl) ns st1 hc (hv.mono x1) h2 fun φ2 r2 x2 st2=>wpAny_pure ?_;exact k m φ2 clos r2 (x1.trans x2) (hc.mono x2) hlo st2
theorem OkA.call{Λ:Lev}{env:Env}{m:Str->Option Value}{L:Addr}{d:Nat}(h:OkA Λ (d+1))(hk:env.scope.kind≠ .module)(hf:env.frame=some L)(hL:env.locals=L):OkA (Λ.call (Λ.A.deeper env) env m) d where
 frames:=Around.frames_deeper h.frames
 handled:=h.handled
 depth:=by have:=h.depth;show Λ.A.depth+1+3*d+20 < _;omega
 units:=by have:=h.units;show Λ.A.units+3+40*d+100 < _;omega
 cover:=fun env' he=>by
  rcases List.mem_cons.mp he with rfl | he
  ·exact ⟨hk,L,hf,.inl hL.symm⟩
  ·obtain ⟨a,L',b,c⟩:=h.cover env' he;refine ⟨a,L',b,.inr ?_⟩;rcases c with rfl | ⟨q,hq,rfl⟩
   ·exact ⟨_,.head _,rfl⟩
   ·exact ⟨q,.tail _ hq,rfl⟩
theorem cellsM_res:∀ {ns:List (Str×NameKind)} {acc:List (Str×Nat)} {s:S} {C:Addr} {s':S},ch_ ns acc s≠some (.exc C,s')
 | [],_,_,_,_=>fun h=>by cases h
 | (x,k)::ns,acc,s,C,s'=>fun h=>by
  unfold ch_ at h;by_cases hk:(k==NameKind.cell)=true
  ·rw [if_pos hk] at h;rcases bf_ h with h | ⟨a,s1,h1,h2⟩
   ·cases h
   ·exact cellsM_res h2
  ·rw [if_neg hk] at h;exact cellsM_res h
theorem storeM_res{ρ:Ev}{x:Str}{v:V}{s:S}{C:Addr}{s':S}:si_ ρ x v s≠some (.exc C,s'):=fun h=>by
 unfold si_ at h;generalize ρ.scope.names.lookup x=k at h;rcases k with _ | k
 ·cases h
 ·cases k <;> first | cases h | skip
  rcases bf_ h with h | ⟨n,s1,h1,h2⟩
  ·unfold cellM opt at h;cases hx:ρ.cells.lookup x <;> rw [hx] at h <;> cases h
  ·rcases bf_ h2 with h | ⟨o,s2,h3,h4⟩
   ·unfold Mine.geto at h;split at h <;> cases h
   ·cases o <;> first | cases h4 | skip
    change (if _ then _ else _)=_ at h4;split at h4 <;> cases h4
theorem bindsM_res{ρ:Ev}:∀ {bs:List (Str×V)} {s:S} {C:Addr} {s':S},bc_ ρ bs s≠some (.exc C,s')
 | [],_,_,_=>fun h=>by cases h
 | (x,v)::r,s,C,s'=>fun h=>by
  rcases bf_ (show (si_ ρ x v >>=fun _=>bc_ ρ r) s=_ from h) with h | ⟨a,s1,h1,h2⟩
  ·exact storeM_res h
  ·exact bindsM_res h2
theorem within_eq{α:Type}{l:List (Str×V)}{m:M α}{s:S}:within l m s=match m {s with l:=l} with | none=>none | some (r,s')=>some (r,{s' with l:=s.l}):=rfl
def SimV(Λ:Lev)(φ₀:List Addr)(m:M V)(c:Code):Prop:=
 ∀ (φ:List Addr) (s:S) (r:Shared) (R:Result->Shared->Prop),Ext φ₀ φ->StL Λ φ s r->m s≠none->
  (∀ v s',m s=some (.ok v,s')->∀ φ' b r',Ext φ φ'->StL Λ φ' s' r'->VR φ' v b->R (.ok (.ret b)) r')->
  (∀ c s',m s=some (.exc c,s')->∀ φ' e r',Ext φ φ'->Flies Λ φ' s' c e r'->R (.error (.ref e)) r')->codeAny (model Λ.prog Λ.G.w) Λ.A c R r
theorem SimV.sim{Λ:Lev}{φ₀:List Addr}{m:M V}{f:Value}{xs:List Value}(h:SimV Λ φ₀ m (.call f ⟨xs,[]⟩)):Sim Λ φ₀ VR m (call f xs):=
 ⟨fun φ s r Q E ex st _ nn ok exc=>wpAny_call (h φ s r _ ex st nn ok exc)⟩
theorem callFd_S{Λ:Lev}{φ₀:List Addr}{K:Frag}{F:Fns}{a:Addr}{fo:Obj}{fd:FuncData}{args:List V}{xs:List Value}{d:Nat}(W:Wd Λ.G K)(So:Sound Λ.prog Λ.G F)(h:OkA Λ (d+1))(ha:K.lookup a=some fo)(hd:fo.data= .func fd)(hx:VsR φ₀ args xs):
  SimV Λ φ₀ (ck_ K Λ.G.cs F fd args d) (.call (.ref a) ⟨xs,[]⟩):=by
 unfold ck_;split
 ·rename_i body vs hb hvs;intro φ s r R ex st nn okk exc;cases ok:fdOk K fd with
  | false=>rw [ok] at nn;exact absurd rfl nn
  | true=>
  rw [ok,bo_ (a:=()) (s₁:=s) rfl] at nn okk exc;unfold fdOk at ok;simp only [Bool.and_eq_true,Bool.not_eq_true',beq_iff_eq,List.isEmpty_iff,decide_eq_true_eq] at ok;obtain ⟨⟨⟨⟨⟨⟨⟨⟨o1,o2⟩,o3⟩,o4⟩,o5⟩,o6⟩,o7⟩,o8⟩,o9⟩:=ok;have o6:fd.scope.kind= .function:=by simpa using o6
  obtain ⟨p,loose,mean,mg,mb,T⟩:=W.T;have X:=W.X.keeps st.base;obtain ⟨ys,hy,hbind⟩:=bind_any X o1 o2 hvs (hx.mono ex);have hroom:Λ.A.depth < recursionLimit:=by have:=h.depth;omega
  rw [within_eq] at nn;cases h1:ch_ fd.scope.names [] {s with l:= []} with
  | none=>refine absurd ?_ nn;rw [bb_ h1]
  | some q=>
  obtain ⟨res,s1⟩:=q;cases res with
  | exc c=>exact absurd h1 cellsM_res
  | ok cells=>
  rw [bo_ h1] at nn;cases h2:bc_ {scope:=fd.scope,cells,d,lq:=lqOf Λ.G.cs fd,stm:=true} ((fd.params.args.map (·.arg)).zip vs) s1 with
  | none=>refine absurd ?_ nn;rw [bb_ h2]
  | some q=>
  obtain ⟨res,s2⟩:=q;cases res with
  | exc c=>exact absurd h2 bindsM_res
  | ok u=>
  rw [bo_ h2] at nn;have run:∀ (res:Res V) (s3:S),(F.exs body {scope:=fd.scope,cells,d,lq:=lqOf Λ.G.cs fd,stm:=true} >>=fun f=>match f with | .next=>Pure.pure V.none | .ret v=>Pure.pure v) s2=some (res,s3)->
    within [] (ch_ fd.scope.names [] >>=fun cells=>bc_ {scope:=fd.scope,cells,d,lq:=lqOf Λ.G.cs fd,stm:=true} ((fd.params.args.map (·.arg)).zip vs) >>=fun _=>F.exs body {scope:=fd.scope,cells,d,lq:=lqOf Λ.G.cs fd,stm:=true} >>=fun f=>match f with | .next=>Pure.pure V.none | .ret v=>Pure.pure v) s=some (res,{s3 with l:=s.l}):=fun res s3 h3=>by
   rw [within_eq,bo_ h1,bo_ h2,h3]
  refine codeAny_call_function hroom (X _ _ ha) hd o4 o5 hb (codeRec_of X o9) (hbind ?_);rw [o3];refine env_run (ρ:={scope:=fd.scope,cells,d,lq:=lqOf Λ.G.cs fd,stm:=true}) st rfl rfl o6 hy h1 h2 fun m φ1 clos r1 x1 hc hlo st1=>⟨(T.nolimit).keeps st1.base,codeAny_func ?_⟩;generalize hL:r.heap.objs.size=L at*;generalize henv:newEnv fd.scope L fd.globals clos (fd.qualname++".<locals>.") (some a) fd.code none fd.builtins=env at*;have e1:env.scope=fd.scope:=by rw [<-henv];rfl
  have e2:env.locals=L:=by rw [<-henv];rfl
  have e3:env.frame=some L:=by rw [<-henv];rfl
  have OA:OkA (Λ.call (Λ.A.deeper env) env m) d:=h.call (by rw [e1,o6];decide) e3 e2;have ER:EvR (Λ.call (Λ.A.deeper env) env m) φ1 {scope:=fd.scope,cells,d,lq:=lqOf Λ.G.cs fd,stm:=true}:=by
   refine {a:=OA,scope:=e1,kind:=o6,cells:=by rw [<-henv];exact hc,glob:=by rw [<-henv];exact o7,blt:=by rw [<-henv];exact o8,head:=fun _=>⟨Λ.envs,L,rfl,e3⟩,lq:=fun q hq=>?_};unfold lqOf at hq;dsimp only at hq;split at hq
   ·rename_i c hcd;have m1:=List.find?_some hq;obtain ⟨m2,m3⟩:=of_decide_eq_true m1;refine ⟨by rw [<-henv];exact hcd.trans (by rw [m2]),by rw [<-henv];exact m3.symm,List.mem_of_find?_eq_some hq⟩
   ·cases hq
  have hkp:∀ q∈Λ.kp,q.1≠Λ.env.locals:=fun q hq=>(st.kept q hq).2.1;have st1':StL (Λ.call (Λ.A.deeper env) env m) φ1 s2 r1:=by show St Λ.G env.locals _ φ1 s2 r1;rw [e2];exact st1
  refine (So.exs (Λ.call (Λ.A.deeper env) env m) _ φ1 body rfl rfl ER).run φ1 s2 r1 _ _ (Ext.refl _) st1' PassesOwn.leaving (bind_some (fun z=>nn (by rw [z]))) (fun f s3 h3 φ2 f' r2 x2 st2 hf=>?_) (fun c s3 h3 φ2 e r2 x2 fl=>?_)
  ·have back:=fun (v:V)=>st2.leave (l:=s.l) ((hlo.mono x1).mono x2) hkp;cases hf with
   | next=>exact okk _ _ (run (.ok .none) s3 (by rw [bo_ h3];rfl)) φ2 _ r2 (x1.trans x2) (back .none) rfl
   | ret hv=>exact okk _ _ (run (.ok _) s3 (by rw [bo_ h3];rfl)) φ2 _ r2 (x1.trans x2) (back .none) hv
  ·exact fl.leaves (Λ:=Λ) ((hlo.mono x1).mono x2) hkp OA.frames e3 fun r3 fl'=>exc _ _ (run (.exc c) s3 (ba_ h3)) φ2 e r3 (x1.trans x2) fl'
 ·exact fun _ _ _ _ _ _ nn=>absurd rfl nn
theorem callLam_S{Λ:Lev}{φ₀:List Addr}{K:Frag}{F:Fns}{n d:Nat}{x:Value}(W:Wd Λ.G K)(So:Sound Λ.prog Λ.G F)(h:OkA Λ (d+1))(hx:VR φ₀ (.ref n) x):Sim Λ φ₀ VR (callLam F n d) (call x []):=by
 refine Sim.of_at fun φ s r ex st=>?_;obtain ⟨a,ea,rfl⟩:=hx;have ea:=ex.get ea;unfold callLam;refine At.geto fun o ho=>?_;split
 ·rename_i body scope cells;refine At.need fun ok=>⟨fun Q E pe nn okk exc=>?_⟩;simp only [Bool.and_eq_true,Bool.not_eq_true',beq_iff_eq,List.all_eq_true,bne_iff_ne] at ok;obtain ⟨⟨⟨o1,o2⟩,o3⟩,o4⟩:=ok;have o1:scope.kind= .function:=by simpa using o1
  obtain ⟨p,loose,mean,mg,mb,T⟩:=W.T;obtain ⟨ob,g,qual,clos,pm,c,ct,rfl,hcl⟩:=st.at ho (by simp) ea;obtain ⟨ts,tb,hts,lm⟩:=st.more;obtain ⟨oc,vs,tq,m1,d1,e1⟩:=lm n body scope cells a _ ho ea g _ _ _ _ _ _ _ rfl;have hcd:r.heap.CodeRec (.ref c) qual:=⟨c,oc,vs,tq,rfl,(hts _ m1).1,d1,e1⟩;have hroom:Λ.A.depth < recursionLimit:=by have:=h.depth;omega
  rw [within_eq] at nn;refine wpAny_call (kla_callFunE hroom g rfl o2 o3 rfl hcd ?_);rw [show bindArgs (kla_fn "<lambda>" qual ⟨[],[],none,[],[],none,[]⟩ body scope clos pm (.ref c) ct) ⟨[],[]⟩=pure [] from rfl];refine wpAny_pure (wpAny_newFunctionEnv o4 (fun y hy=>by cases hy) (fun h' hns hsb=>⟨((T.nolimit).keeps st.base).fresh _ hsb,?_⟩) o1);obtain ⟨m,hm,hlo⟩:=st.ns;have hk:∀ b o,r.heap.get? b=some o->h'.get? b=some o:=fun b o e=>hsb.extBut b o (Nat.ne_of_lt (Heap.lt_size e)) (Heap.get?_push_of_some _ e);have st1:=st.enter (tk:=r.toks+0) hm hk Heap.fresh_none hns st.big [] (fun y v h=>by cases h);generalize hL:r.heap.objs.size=L at*;generalize henv:newEnv scope L mainGlobals clos (qual++".<locals>.") (some a) (.ref c) none builtinsNs=env at*;have e1:env.scope=scope:=by rw [<-henv];rfl
  have e2:env.locals=L:=by rw [<-henv];rfl
  have e3:env.frame=some L:=by rw [<-henv];rfl
  have OA:OkA (Λ.call (Λ.A.deeper env) env m) d:=h.call (by rw [e1,o1];decide) e3 e2;have ER:EvR (Λ.call (Λ.A.deeper env) env m) φ {scope,cells,d}:={a:=OA,scope:=e1,kind:=o1,cells:=by rw [<-henv];exact hcl,glob:=by rw [<-henv];rfl,blt:=by rw [<-henv];rfl,head:=fun h=>(nomatch h),lq:=fun q hq=>by cases hq};have hkp:∀ q∈Λ.kp,q.1≠Λ.env.locals:=fun q hq=>(st.kept q hq).2.1;have st1':StL (Λ.call (Λ.A.deeper env) env m) φ {s with l:= []} {r with heap:=h',toks:=r.toks+0}:=by show St Λ.G env.locals _ φ _ _;rw [e2];exact st1
  have run:∀ (res:Res V) (s3:S),F.ev body {scope,cells,d} {s with l:= []}=some (res,s3)->within [] (F.ev body {scope,cells,d}) s=some (res,{s3 with l:=s.l}):=fun res s3 h3=>by rw [within_eq,h3]
  refine kla_codeExpr ((So.ev (Λ.call (Λ.A.deeper env) env m) _ φ body rfl rfl ER).run φ _ _ _ _ (Ext.refl _) st1' PassesOwn.leaving (fun z=>nn (by rw [z])) (fun v s3 h3 φ2 y r2 x2 st2 hv=>?_) (fun c s3 h3 φ2 e r2 x2 fl=>?_))
  ·exact okk _ _ (run (.ok v) s3 h3) φ2 _ r2 x2 (st2.leave (l:=s.l) (hlo.mono x2) hkp) hv
  ·exact fl.leaves (Λ:=Λ) (hlo.mono x2) hkp OA.frames e3 fun r3 fl'=>exc _ _ (run (.exc c) s3 h3) φ2 e r3 x2 fl'
 ·exact At.fail
theorem make_S{Λ:Lev}{φ₀:List Addr}{K:Frag}{F:Fns}{a:Addr}{args:List V}{xs:List Value}{d:Nat}(W:Wd Λ.G K)(So:Sound Λ.prog Λ.G F)(h:OkA Λ (d+2))(hx:VsR φ₀ args xs):
  Sim Λ φ₀ VR (makeM K Λ.G.cs F a args d) (call (.ref a) xs):=by
 unfold makeM;split
 ·rename_i fi hi;split
  ·rename_i o1 o2 fd o3 hfd;refine Sim.need fun hn=>⟨fun φ s r Q E ex st pe nn ok exc=>?_⟩;rw [Bool.and_eq_true] at hn;obtain ⟨hm,hf⟩:=hn;have hf:typeIn K (.ref fi)=some (.type "function"):=by unfold isFn at hf;simpa using hf
   have X:=W.X.keeps st.base;obtain ⟨hh,g,dr,t,os⟩:=r;have e1:(Mine.alloc (.dict [] 0):M Nat) s=some (.ok s.h.length,{s with h:=s.h++ [.dict [] 0]}):=rfl;have e2:(Mine.alloc (.inst a s.h.length):M Nat) {s with h:=s.h++ [.dict [] 0]}=some (.ok (s.h.length+1),{s with h:=s.h++ [.dict [] 0]++ [.inst a s.h.length]}):=by
    show some (Res.ok (s.h++ [O.dict [] 0]).length,_)=_;rw [List.length_append];rfl
   rw [bo_ e1,bo_ e2] at nn ok exc;have st1:StL Λ (φ++ [hh.objs.size]) {s with h:=s.h++ [.dict [] 0]} ⟨hh.push emptyDict,g,dr,t,os⟩:=
    st.alloc (tk:=t) (fun b o e=>Heap.get?_push_of_some _ e) Heap.fresh_none (Heap.get?_push_size _ rfl) ⟨⟨rfl,rfl,rfl⟩,⟨[],rfl,trivial⟩,List.Pairwise.nil⟩ (Nat.ne_of_gt st.big)
   have st2:StL Λ (φ++ [hh.objs.size]++ [hh.objs.size+1]) {s with h:=s.h++ [.dict [] 0]++ [.inst a s.h.length]} ⟨(hh.push emptyDict).push (instObj a hh.objs.size),g,dr,t,os⟩:=by
    have:=st1.alloc (tk:=t) (o:= .inst a s.h.length) (a:=(hh.push emptyDict).objs.size) (ob:=instObj a hh.objs.size) (fun b o e=>Heap.get?_push_of_some _ e) Heap.fresh_none (Heap.get?_push_size _ rfl) ⟨hh.objs.size,old_ref (by rw [<-st.len];simp),rfl⟩ (Nat.ne_of_gt st1.big)
    rwa [Heap.size_push] at this
   have x2:Ext φ (φ++ [hh.objs.size]++ [hh.objs.size+1]):=(Ext.one _ _).trans (Ext.one _ _);have hl:(φ++ [hh.objs.size]++ [hh.objs.size+1])[s.h.length+1]? =some (hh.objs.size+1):=by
    rw [<-st.len];simp
   have OA:OkA {Λ with A:=Λ.A.under (.builtin "type.__call__" ⟨.ref a::xs,[]⟩)} (d+1):=by
    refine {frames:=h.frames,handled:=h.handled,depth:=?_,units:=?_,cover:=h.cover}
    ·have:=h.depth;show Λ.A.depth+1+3*(d+1)+20 < _;omega
    ·have:=h.units;show Λ.A.units+1+40*(d+1)+100 < _;omega
   refine wpAny_call (make_core (makes_of X hm) (looks_findIn X hi) (fun self=>bind_fn X self hf) (.inl rfl) ?_);refine callFd_S (Λ:={Λ with A:=Λ.A.under (.builtin "type.__call__" ⟨.ref a::xs,[]⟩)}) (φ₀:=φ++ [hh.objs.size]++ [hh.objs.size+1]) W So OA hfd rfl (args:= .ref (s.h.length+1)::args) (xs:= .ref (hh.objs.size+1)::xs) ⟨⟨_,hl,rfl⟩,hx.mono (ex.trans x2)⟩ _ _ _ _ (Ext.refl _) st2 (bind_some nn) (fun v s3 h3 φ3 b r3 x3 st3 hv=>?_) (fun c s3 h3 φ3 e r3 x3 fl=>?_)
   ·rw [bo_ h3] at nn ok exc;cases v <;> first | exact absurd rfl nn | skip
    refine ⟨hv,?_⟩;exact ok _ _ rfl φ3 _ r3 (x2.trans x3) st3 ⟨_,x3.get hl,rfl⟩
   ·exact exc c s3 (ba_ h3) φ3 e r3 (x2.trans x3) ⟨fl.st,fl.fly⟩
  ·exact Sim.fail
 ·exact Sim.fail
end
end
section
open PySem
set_option maxHeartbeats 2000000
theorem refuse_exc0(self:Value):refuseLoop self "__setattr__" [.type "Exception",.type "BaseException",.type "object"]=pure ():=by
 unfold refuseLoop;kernel_rfl
theorem excTail_cases:∀ {l:List Value},ea_ l=true->l= [.type "Exception",.type "BaseException",.type "object"]\/∃ c r,l= .ref c::r/\ea_ r=true
 | [.type a,.type b,.type c],h=>by
  unfold ea_ at h;simp only [Bool.and_eq_true,beq_iff_eq] at h;obtain ⟨⟨rfl,rfl⟩,rfl⟩:=h;exact .inl rfl
 | .ref c::r,h=> .inr ⟨c,r,rfl,by unfold ea_ at h;exact h⟩
theorem eh_:∀ (n:Nat) {l:List Value},l.length<=n->ea_ l=true->l.contains (.type "object")=true/\l.contains (.type "Exception")=true/\l.contains (.type "BaseException")=true/\l.contains (.type "AttributeError")=false/\l.contains (.type "NameError")=false/\∀ self,refuseLoop self "__setattr__" l=pure ()
 | 0,l,hn,h=>by
  rcases excTail_cases h with rfl | ⟨c,r,rfl,h'⟩ <;> simp at hn
 | n+1,l,hn,h=>by
  rcases excTail_cases h with rfl | ⟨c,r,rfl,h'⟩
  ·refine ⟨by decide,by decide,by decide,by decide,by decide,refuse_exc0⟩
  ·obtain ⟨a1,a2,a3,a4,a5,a6⟩:=eh_ n (by simpa using hn) h';refine ⟨?_,?_,?_,?_,?_,fun self=>?_⟩
   ·rw [List.contains_cons,a1,Bool.or_true]
   ·rw [List.contains_cons,a2,Bool.or_true]
   ·rw [List.contains_cons,a3,Bool.or_true]
   ·rw [List.contains_cons,a4];rfl
   ·rw [List.contains_cons,a5];rfl
   ·rw [refuseLoop_ref,a6]
section
variable {prog:Program} {w:World} {A:Around} {R:Result->Shared->Prop} {h:Heap} {g:Array GenState} {d:Drawn} {t:Nat} {os:OsState}
variable {nm q:Str} {C N:Addr} {bs bm:List Value} {hdct:Bool} {sn:List Str} {sub:List Value} {ab:Bool} {col:Option Bool} {dd:Option Addr} {k0 k1 k2 k3 k5:Option Value}
theorem exc_check{M:Model}{E:Value->Shared->Prop}{rest:List Value}{Q:Unit->Shared->Prop}(T:ea_ bm=true)(hC:h.get? C=some (excClassObj nm q C N bs bm hdct sn sub ab col dd k0 k1 k2 k3 k5 "Exception.__new__"))
  (hq:Q () ⟨h,g,d,t,os⟩):wpAny M A (checkBuiltinCall "Exception.__new__" ⟨.ref C::rest,[]⟩) Q E ⟨h,g,d,t,os⟩:=by
 have Fn:=PySem.F.excBase_Exception;have hcont:(Value.ref C::bm).contains (.type "Exception")=true:=by rw [List.contains_cons,(eh_ _ (Nat.le_refl _) T).2.1,Bool.or_true]
 have hstar:=Fn.noStar;simp only [checkBuiltinCall,Fn.newKind,Fn.newSplit,Fn.newRow]
 repeat (first | refine wpAny_loadPart_at hC ?_ | (refine wpAny_isSubtype_exc hC ?_;rw [hcont]) | refine wpAny_staticBase_exc hC ?_ | refine wpAny_madeBy_exc hC ?_ | simp only [bne_self_eq_false,Bool.false_eq_true,if_false] | wp_step)
 exact hq
theorem exc_new{rest:List Value}(T:ea_ bm=true)(hC:h.get? C=some (excClassObj nm q C N bs bm hdct sn sub ab col dd k0 k1 k2 k3 k5 "Exception.__new__"))
  (hq:R (.ok (.ret (.ref (h.objs.size+1)))) ⟨(h.push {cls:= .type "tuple",data:= .seq rest.toArray}).push
   {cls:= .ref C,data:= .fields #[.ref h.objs.size,.none,.none,.none,.bool false,.none]},g,d,t,os⟩) (hrest:rest.length<=sizeLine):
  codeAny (model prog w) A (.builtin "Exception.__new__" ⟨.ref C::rest,[]⟩) R ⟨h,g,d,t,os⟩:=by
 have Fn:=PySem.F.excBase_Exception;obtain ⟨a1,a2,a3,a4,a5,_⟩:=eh_ _ (Nat.le_refl _) T;have hends:=Fn.ends;have hcB:(Value.ref C::bm).contains (.type "Exception")=true:=by rw [List.contains_cons,a2,Bool.or_true]
 have hcA:(Value.ref C::bm).contains (.type "AttributeError")=false:=by rw [List.contains_cons,a4];rfl
 have hcN:(Value.ref C::bm).contains (.type "NameError")=false:=by rw [List.contains_cons,a5];rfl
 refine codeAny_builtinAt Fn.entry ?_;unfold Builtin.«BaseException.__new__»;refine PySem.wpAt_bind ?_;show PySem.wpAt _ _ _ (stack >>=_) _ _ _;refine PySem.wpAt_bind (PySem.wpAt_stack fun p below=>PySem.wpAt_of_wpAny ?_)
 wp_walk
 refine PySem.wpAt_of_wpAny ?_;rw [Fn.owner]
 repeat (first | with_reducible refine wpAny_madeHere_exc Fn.canon hC ?_ | with_reducible refine wpAny_loadPart_at hC ?_ | (with_reducible refine wpAny_isSubtype_exc hC ?_;first | rw [hcB] | rw [hcA] | rw [hcN]) | wp_step)
 show R _ _;rw [Heap.size_push];exact hq
theorem exc_type_call(T:ea_ bm=true){E:Value->Shared->Prop}{rest:List Value}{fI:Addr}{oI:Obj}{Q:Fin->Shared->Prop}
  (hC:h.get? C=some (excClassObj nm q C N bs bm hdct sn sub ab col dd k0 k1 k2 k3 k5 "Exception.__new__")) (hi:PySem.W.Looks (model prog w) h (typeLookup (.ref C) "__init__") (some (.ref fI)))
  (hfI:h.get? fI=some oI) (hfc:oI.cls= .type "function")
  (hq:∀ h' e,Heap.MadeExcOf h h' e (.ref C) rest->
   wpAny (model prog w) A (call (.ref fI) (.ref e::rest)) (fun r s'=>r= .none/\Q (.done (.ret (.ref e))) s') E ⟨h',g,d,t,os⟩) (hrest:rest.length<=sizeLine):
  wpAny (model prog w) A (Builtin.«type.__call__» ⟨.ref C::rest,[]⟩) Q E ⟨h,g,d,t,os⟩:=by
 repeat (first | with_reducible refine wpAny_loadPart_at hC ?_ | with_reducible refine wpAny_madeBy_exc hC ?_ | wp_step)
 refine codeAny_call_builtin_code (Code.quiet_builtin _ PySem.F.excBase_Exception.quiet) (exc_check T hC ?_);refine exc_new T hC ?_ hrest;show wpAny _ _ _ _ _ _;have k1:∀ b o,h.get? b=some o->((h.push {cls:= .type "tuple",data:= .seq rest.toArray}).push {cls:= .ref C,data:= .fields #[.ref h.objs.size,.none,.none,.none,.bool false,.none]}).get? b=some o:=fun b o e=>Heap.get?_push_of_some _ (Heap.get?_push_of_some _ e);have hC₁:=k1 _ _ hC;have hfI₁:=k1 _ _ hfI;have hget:((h.push {cls:= .type "tuple",data:= .seq rest.toArray}).push
   {cls:= .ref C,data:= .fields #[.ref h.objs.size,.none,.none,.none,.bool false,.none]}).get? (h.objs.size+1)=some
   {cls:= .ref C,data:= .fields #[.ref h.objs.size,.none,.none,.none,.bool false,.none]}:=by heap_get
 have hcC:(Value.ref C::bm).contains (.ref C)=true:=by simp
 unfold isInstance
 repeat (first | with_reducible refine wpAny_loadPart_at hget ?_ | (with_reducible refine wpAny_isSubtype_exc hC₁ ?_;rw [hcC]) | wp_step)
 show wpAny _ _ (typeLookup (.ref C) _) _ _ _;refine (hi.keeps k1).at ?_;refine wpAny_holding (wpAny_bind ?_);unfold bindSpecial;refine wpAny_bind (wpAny_typeOf (T:="function") ⟨_,hfI₁,hfc⟩ ?_);rw [if_pos (by decide)];refine wpAny_pure (wpAny_bind (wpAny_mono (hq _ (h.objs.size+1) ⟨k1,Heap.get?_none_of_le (Nat.le_succ _),h.objs.size,hget,Heap.get?_none_of_le (Nat.le_refl _),?_⟩) (fun r s' hr=>?_) fun _ _ x=>x))
 ·exact Heap.get?_push_of_some _ (Heap.get?_push_at rfl rfl)
 ·obtain ⟨rfl,hQ⟩:=hr
  wp_walk
  exact hQ
theorem exc_call(T:ea_ bm=true){E:Value->Shared->Prop}{rest:List Value}{fI:Addr}{oI:Obj}{Q:Value->Shared->Prop}
  (hC:h.get? C=some (excClassObj nm q C N bs bm hdct sn sub ab col dd k0 k1 k2 k3 k5 "Exception.__new__")) (hi:PySem.W.Looks (model prog w) h (typeLookup (.ref C) "__init__") (some (.ref fI)))
  (hfI:h.get? fI=some oI) (hfc:oI.cls= .type "function")
  (hq:∀ h' e,Heap.MadeExcOf h h' e (.ref C) rest->
   wpAny (model prog w) (A.under (.builtin "type.__call__" ⟨.ref C::rest,[]⟩)) (call (.ref fI) (.ref e::rest)) (fun r s'=>r= .none/\Q (.ref e) s') E ⟨h',g,d,t,os⟩) (hrest:rest.length<=sizeLine):
  wpAny (model prog w) A (call (.ref C) rest) Q E ⟨h,g,d,t,os⟩:=by
 have f1:=tc_lookup;have f2:=PySem.tc_bind (.ref C);have hT:(⟨h,g,d,t,os⟩:Shared).TypeIs (.ref C) "type":=⟨_,hC,rfl⟩;refine wpAny_call (codeAny_of_tree ?_);show wpAny _ _ (callAny (.ref C) _) _ _ _
 repeat (any_goals (first | assumption | with_reducible refine wpAny_loadPart_at hC ?_ | wp_step))
 refine ⟨rfl,?_⟩;refine codeAny_call_builtin_at (Code.quiet_builtin _ (by decide+kernel)) entry_typeCall (wpAny_check_type_call_sub hC (exc_type_call (hrest:=hrest) T hC hi hfI hfc fun h' e hm=>?_));exact hq h' e hm
section
variable {prog:Program} {w:World} {A:Around} {E:Value->Shared->Prop} {h:Heap} {g:Array GenState} {d:Drawn} {t:Nat} {os:OsState}
variable {nm q:Str} {C N:Addr} {bs bm:List Value} {hdct:Bool} {sn:List Str} {sub:List Value} {ab:Bool} {col:Option Bool} {dd:Option Addr} {k0 k1 k2 k3 k5:Option Value}
theorem exc_check_init(T:ea_ bm=true){M:Model}{e:Addr}{oe:Obj}{rest:List Value}{Q:Unit->Shared->Prop}
  (hC:h.get? C=some (excClassObj nm q C N bs bm hdct sn sub ab col dd k0 k1 k2 k3 k5 "Exception.__new__")) (he:h.get? e=some oe) (hcls:oe.cls= .ref C) (hq:Q () ⟨h,g,d,t,os⟩):
  wpAny M A (checkBuiltinCall "Exception.__init__" ⟨.ref e::rest,[]⟩) Q E ⟨h,g,d,t,os⟩:=by
 have F:=PySem.F.excBase_Exception;have hcB:(Value.ref C::bm).contains (.type "Exception")=true:=by rw [List.contains_cons,(eh_ _ (Nat.le_refl _) T).2.1,Bool.or_true]
 have hshort:=F.noStar;simp only [checkBuiltinCall,F.initKind,F.initSplit,F.initRow]
 repeat (first | (with_reducible refine wpAny_loadPart_at he ?_;rw [hcls]) | with_reducible refine wpAny_loadPart_at hC ?_ | (with_reducible refine wpAny_isSubtype_exc hC ?_;rw [hcB]) | wp_step)
 refine wpAny_onRaise ?_;rw [show ∀ (a b:String) (n:Nat),Bind.check ⟨.positional,"*","Exception",.self,[⟨"args",.varPos,false⟩]⟩ a b n (List.map (fun x=>x.fst) ({pos:=Value.ref e::rest}:Args).kw)=pure () from
  fun a b n=>check_star_args _ _ _ _ _ _]
 exact wpAny_pure hq
theorem exc_init(T:ea_ bm=true){e t0:Addr}{rest:List Value}{Q:Value->Shared->Prop}
  (hC:h.get? C=some (excClassObj nm q C N bs bm hdct sn sub ab col dd k0 k1 k2 k3 k5 "Exception.__new__")) (he:h.get? e=some {cls:= .ref C,data:= .fields #[.ref t0,.none,.none,.none,.bool false,.none]}) (hl:rest.length<=sizeLine)
  (hq:∀ h' t1,(∀ b o,b≠e->h.get? b=some o->h'.get? b=some o)->h'.get? e=some {cls:= .ref C,data:= .fields #[.ref t1,.none,.none,.none,.bool false,.none]}->Q .none ⟨h',g,d,t,os⟩):
  wpAny (model prog w) A (call (.builtin "Exception.__init__") (.ref e::rest)) Q E ⟨h,g,d,t,os⟩:=by
 have F:=PySem.F.excBase_Exception;refine wpAny_call (codeAny_call_builtin F.init.plain F.initEntry (exc_check_init T hC he rfl ?_));have hne:h.objs.size≠e:=Nat.ne_of_gt (Heap.lt_size he);have he1:=Heap.get?_push_of_some (h:=h) {cls:= .type "tuple",data:= .seq rest.toArray} he
 wp_walk
 refine hq _ h.objs.size (fun b o hb g=>?_) ?_
 ·rw [Heap.get?_update_other _ _ (Ne.symm hb)];exact Heap.get?_push_of_some _ g
 ·rw [Heap.get?_update_self _ he1 rfl];rfl
end
section
variable {M:Model} {A:Around} {E:Value->Shared->Prop} {env:Env}
variable {nm q:Str} {C N:Addr} {bs bm:List Value} {hdct:Bool} {sn:List Str} {sub:List Value} {ab:Bool} {col:Option Bool} {dd:Option Addr} {k0 k1 k2 k3 k5:Option Value}
theorem exc_raise{s:Shared}{x:Sem Value}{Q:PySem.Flow->Shared->Prop}(T:ea_ bm=true)(hh:A.handled=none)
  (h:wpAny M A x (fun v s₁=>∃ e t D,v= .ref e/\s₁.heap.get? C=some (excClassObj nm q C N bs bm hdct sn sub ab col dd k0 k1 k2 k3 k5 "Exception.__new__")/\
   s₁.heap.get? e=some {cls:= .ref C,dict:=some D,data:= .fields #[.ref t,.none,.none,.none,.bool false,.none]}/\E (.ref e) s₁) E s):
  wpAny M A (raiseStmt env (some x) none) Q E s:=by
 have hcB:(Value.ref C::bm).contains (.type "BaseException")=true:=by rw [List.contains_cons,(eh_ _ (Nat.le_refl _) T).2.2.1,Bool.or_true]
 unfold raiseStmt;refine wpAny_bind (wpAny_mono h (fun v s₁ h₁=>?_) fun _ _ x=>x);obtain ⟨e,t,D,rfl,hC,he,hE⟩:=h₁;obtain ⟨hp,g,d,tk,os⟩:=s₁
 repeat (first | with_reducible refine wpAny_loadPart_at he ?_ | with_reducible refine wpAny_loadPart_at hC ?_ | (with_reducible refine wpAny_isSubtype_exc hC ?_;rw [hcB]) | wp_step)
 exact wpAny_raiseNew_none hh hE
end
end
end
section
open PyProof.Rows.LSm Builtin Builtin.ObjectAttr
set_option maxHeartbeats 2000000
section
variable {prog:Program} {w:World} {A:Around} {K:Frag} {C x:Addr} {s:Shared} {R:Result->Shared->Prop}
theorem osa_exc{ox:Obj}{vs:Array Value}{name:Str}{tk:Tok}{v:Value}{φ:List Addr}{b:V}(X:K.In s.heap)(I:InstAt s.heap x ox C none)(hdn:ox.dict=none)(hdd:ox.data= .fields vs)(hp:(clsIn K C).any (fun cd=>ea_ cd.mro)=true)(ht:takerIn K C name=some none)(hh:hasDictIn K C=true)(hv:VR φ b v)
  (h:∀ h' tk,(∀ b o,b≠x->s.heap.get? b=some o->h'.get? b=some o)->(∃ D,h'.get? x=some {ox with dict:=some D})->R (.ok (.ret .none)) {s with heap:=h',toks:=tk}):
  codeAny (model prog w) A (.call (.builtin "object.__setattr__") ⟨[.ref x,.str name tk,v],[]⟩) R s:=by
 have SF:=PySem.F.store_object;obtain ⟨cd,hc,ho⟩:=any_some hp;obtain ⟨a1,a2,a3,a4,a5,a6⟩:=eh_ _ (Nat.le_refl _) ho;have ne:cd.mro.isEmpty=false:=by cases q:cd.mro with | nil=>rw [q] at ho;cases ho | cons _ _=>rfl
 have sub:Looks (model prog w) s.heap (isInstance (.ref x) (.type "object")) true:=I.type.andThen (looks_mroIn X (by unfold mroIn;rw [hc,Option.bind_some,if_neg (by rw [ne];decide),a1]));refine codeAny_call_builtin SF.slot.plain SF.entry (@check_slot (model prog w) _ _ s "object.__setattr__" "object" "__setattr__" (.ref x) [.str name tk,v] [] _ SF.kind SF.split sub (SF.args (.ref x) (.str name tk) v) ?_);obtain ⟨attr,ha,hr⟩:=Option.bind_eq_some_iff.mp ht;have hm:Looks (model prog w) s.heap (mroOf (.ref C)) cd.mro:=(looks_clsIn X hc).andThen .now;have L3:Looks (model prog w) s.heap (storeTaker? attr) none:=by
  cases attr with
  | none=>exact .now
  | some a=>
   obtain ⟨b,hb,hb'⟩:=Option.map_eq_some_iff.mp hr;refine (looks_takesIn X hb).andThen ?_;cases b with
   | true=>cases hb'
   | false=>exact .now
 rw [osa_eq,refuse_eq];refine wpAny_bind (wpAny_bind (I.type.here (wpAny_bind (hm.here ?_))));rw [a6];refine wpAny_pure (wpAny_bind (I.type.here (wpAny_bind ((looks_findIn X ha).here (wpAny_bind (L3.here ?_))))));dsimp only;obtain ⟨cd',hc',hd'⟩:=any_some hh;rw [hc] at hc';cases hc';have Ix:=I.at_;obtain ⟨oc,od,odt,osl⟩:=ox;have hcl:=I.cls;dsimp only at hcl hdn hdd;subst hcl hdn hdd;have g1:=Heap.get?_push_of_some (h:=s.heap) {cls:= .type "dict",data:= .dict #[]} Ix;have hne:s.heap.objs.size≠x:=Nat.ne_of_gt (Heap.lt_size Ix);have g2:((s.heap.push {cls:= .type "dict",data:= .dict #[]}).update x fun o=>{o with dict:=some s.heap.objs.size}).get? s.heap.objs.size=some {cls:= .type "dict",data:= .dict #[]}:=
  (Heap.get?_update_other _ _ (Ne.symm hne)).trans (Heap.get?_push_size _ rfl)
 have g3:=Heap.get?_update_self (fun o:Obj=>{o with dict:=some s.heap.objs.size}) g1 rfl;refine wpAny_bind (wpAny_pure (wpAny_bind (wpAny_bind (wpAny_loadPart Ix (wpAny_bind ((looks_clsIn X hc).here ?_))))));rw [hd'];refine wpAny_bind (wpAny_alloc (wpAny_bind (wpAny_update g1 ?_)));refine wpAny_bind (wpAny_pure (wpAny_pure ?_));refine wpAny_bind (wpAny_pure (wpAny_bind ?_));unfold nsSet;refine wpAny_bind (wpAny_bind (wpAny_askSetting (wpAny_pure (wpAny_bind (wpAny_mkText (wpAny_bind (wpAny_loadPart g2 ?_)))))));dsimp only;have OD:=putDict_OR (w:=w) prog (name:=name) (tk:=s.toks) (es:= []) (xs:= []) (ep:=0) (od:={cls:= .type "dict",data:= .dict #[]}) rfl hv trivial List.Pairwise.nil ⟨rfl,rfl,rfl⟩ rfl;have c:(!(#[]:Array DictEntry).any (·.key.isStr name) && (#[]:Array DictEntry).any (·.refKey))=false:=by simp
 rw [aRefKeyMayBeTheName_at,c];refine wpAny_updatePart g2 ?_;have D':=Heap.get?_update_self (Obj.putName name (hashStr w name) (.str name s.toks) v) g2 (by obtain ⟨_,⟨xs',h',_⟩,_⟩:=OD;exact Obj.isFreed_of_dict h');refine wpAny_bind (wpAny_lookBehind D' ?_ (wpAny_pure ?_))
 ·obtain ⟨_,⟨xs',h',hr'⟩,_⟩:=OD;rw [h'];refine pastItsLine_dict ?_;rw [List.size_toArray,<-hr'.length];exact Nat.le_trans (by simp [putK]) (Nat.le_trans (show 1<=100000 by decide) (Nat.le_trans sb_ (Nat.le_succ _)))
 ·refine h _ _ (fun b o hb g=>?_) ⟨s.heap.objs.size,?_⟩
  ·have hbs:s.heap.objs.size≠b:=Nat.ne_of_gt (Heap.lt_size g);exact (Heap.get?_update_other _ _ hbs).trans ((Heap.get?_update_other _ _ (Ne.symm hb)).trans (Heap.get?_push_of_some _ g))
  ·exact (Heap.get?_update_other _ _ hne).trans g3
theorem excCls_obj{fi:Addr}(h:excCls K C fi=true):∃ nm q N bs bm hdct sn sub ab col dd k0 k1 k2 k3 k5,K.lookup C=some (excClassObj nm q C N bs bm hdct sn sub ab col dd k0 k1 k2 k3 k5 "Exception.__new__")/\ea_ bm=true/\(clsIn K C).any (fun cd=>ea_ cd.mro)=true/\hasDictIn K C=true/\
  findIn K (.ref C) "__init__"=some (some (.ref fi))/\typeIn K (.ref fi)=some (.type "function"):=by
 unfold excCls at h;split at h
 ·rename_i dd cd sl hK;simp only [Bool.and_eq_true,Bool.not_eq_true',beq_iff_eq] at h;obtain ⟨⟨⟨⟨⟨h1,h2⟩,h3⟩,h4⟩,h5⟩,h6⟩:=h;split at h3
  ·rename_i k0 k1 k2 k3 n k5 c bm hs hm;simp only [Bool.and_eq_true,beq_iff_eq] at h3;obtain ⟨⟨rfl,rfl⟩,h3⟩:=h3;obtain ⟨nm,bs,mro,N,q,hdct,sn,sub,ab,col,hdel⟩:=cd;dsimp only at h1 h2 hm;subst h1 hm;have:sl= #[k0,k1,k2,k3,some (.builtin "Exception.__new__"),k5]:=by rw [<-Array.toArray_toList (xs:=sl),hs]
   subst this;refine ⟨nm,q,N,bs,bm,hdct,sn,sub,ab,col,dd,k0,k1,k2,k3,k5,hK,h3,?_,h4,h5,h6⟩;unfold clsIn;rw [hK];exact h2
  ·cases h3
 ·cases h
end
theorem method_ty{prog:Program}{w:World}{A:Around}{E:Value->Shared->Prop}{s:Shared}{K:Frag}{T:String}{name:Str}{v:Value}{pl:Sem Bool}{Q:Value×List Value->Shared->Prop}(X:K.In s.heap)(ht:typeOf (.type T)=pure (.type "type"))(hs:Manifest.isStub T=false)
  (e:findCls K (.type T) (.type "type") name=some (.val v)) (hh:handedIn v=true) (h:Q (v,[]) {s with toks:=s.toks+1}):wpAny (model prog w) A (getMethod (.type T) name pl) Q E s:=by
 have hstub:opaqueClassAbove (.type T)=pure none:=by unfold opaqueClassAbove;dsimp only;rw [hs];rfl
 have L0:Looks (model prog w) s.heap (typeOf (.type T)) (.type "type"):=Looks.of_pure ht;have hg:findIn K (.type "type") "__getattribute__"=some (some (.builtin "type.__getattribute__")):=type_tga;unfold getMethod specialOf;refine wpAny_bind (wpAny_bind (L0.here ((looks_findIn X hg).here ?_)));dsimp only;rw [if_pos canon_tga];refine wpAny_bind (wpAny_mono (Q:=fun v=>Q (v,[])) (E:=E) ?_ (fun _ _ z=>wpAny_pure z) fun _ _ z=>z);have LO:Looks (model prog w) s.heap (opaqueClassAbove (.type T)) none:=Looks.of_pure hstub;refine cls_open X LO L0 hg (looks_hook X (r:=none) (by rfl)) (by show subIn K _ _=_;rfl) e
  (wpAny_pure (by show wpAny _ _ (handedOut v) _ _ _;rw [handedOut_of hh];exact wpAny_pure h))
theorem exc_type:typeOf (.type "Exception")=pure (.type "type"):=by kernel_rfl
theorem exc_stub:Manifest.isStub "Exception"=false:=by decide+kernel
theorem initNames_inv{fd:FuncData}{xn a b attr:Str}(h:initNames fd=some (xn,a,b,attr)):∃ x1 x2 np apos p1 p2 cpos pos q tp vp pos2,fd.params=⟨[],[x1,x2],none,[],[],none,[]⟩/\
  fd.body= .stmts [.Expr (.Call (.Attribute (.Name xn np) "__init__" apos) [.Name a p1,.Name b p2] [] cpos) pos,.Assign [.Attribute (.Name a q) attr tp] (.Name b vp) pos2]/\x1.arg=a/\x2.arg=b/\a≠b/\apos.endLine=cpos.line:=by
 unfold initNames at h;split at h
 ·rename_i hp hb;split at h
  ·rename_i hc;obtain ⟨rfl,h1,h2,rfl,rfl,h5,h6⟩:=hc;cases h;exact ⟨_,_,_,_,_,_,_,_,_,_,_,_,hp,hb,h1,h2,h5,h6⟩
  ·cases h
 ·cases h
theorem global_at{M:Model}{A:Around}{E:Value->Shared->Prop}{s:Shared}{K:Frag}{G:Ground}{env:Env}{x:Str}{u:V}{pos:Pos}{Q:Value->Shared->Prop}(W:Wd G K)(hb:∀ b o,G.base.get? b=some o->s.heap.get? b=some o)(hk:env.scope.kind= .function)(hg:env.globals=mainGlobals)(hbl:env.builtins=builtinsNs)
  (hx:env.kindOf x=some .globalImplicit) (hd:x≠"__debug__") (hu:gd_ K x=some u) (h:∀ v,valOf v=some u->Q v s):wpAny M A (eval (.Name x pos) env) Q E s:=by
 have hd':(x==("__debug__" :Str))=false:=by simpa using hd
 obtain ⟨p,loose,mean,mg,mb,T⟩:=W.T;unfold gd_ at hu;split at hu
 ·rename_i v hv;exact Name_function_global hk hx (loadGlobal_global (by rw [hg];exact T.g.keeps hb) (mg_of W.X T.g hv) (h v hu)) hd'
 ·rename_i hv;split at hu
  ·cases hu
  ·rename_i hn;obtain ⟨v,hb',hv'⟩:=Option.bind_eq_some_iff.mp hu;exact Name_function_global hk hx (loadGlobal_builtin (by rw [hg];exact T.g.keeps hb) (mg_none_of W.X T.g hv) (by rw [hbl];exact T.b.keeps hb) ((T.builtins x hn).trans hb') (h v hv')) hd'
 ·cases hu
theorem local_at{M:Model}{A:Around}{E:Value->Shared->Prop}{s:Shared}{env:Env}{x:Str}{m:Str->Option Value}{v:Value}{pos:Pos}{Q:Value->Shared->Prop}(hk:env.scope.kind= .function)(hx:env.kindOf x=some .local)(hd:x≠"__debug__")(hn:s.heap.Ns env.locals m)(hm:m x=some v)(h:Q v s):
  wpAny M A (eval (.Name x pos) env) Q E s:=wpAny_Name (wpAny_loadName_local hk hx hn hm h) (by simpa using hd)
theorem init_run{prog:Program}{A:Around}{E:Value->Shared->Prop}{s:Shared}{K:Frag}{G:Ground}{C e fi t0:Addr}{fo:Obj}{fd:FuncData}{φ:List Addr}{v:V}{y:Value}{Q:Value->Shared->Prop}(W:Wd G K)(hb:∀ b o,G.base.get? b=some o->s.heap.get? b=some o)(hroom:A.depth < recursionLimit)
  (hfd:K.lookup fi=some fo) (hd:fo.data= .func fd) (ok:initOk K C fd=true) (hC:excCls K C fi=true) (hn:G.base.get? e=none) (he:s.heap.get? e=some {cls:= .ref C,data:= .fields #[.ref t0,.none,.none,.none,.bool false,.none]}) (hy:VR φ v y)
  (h:∀ h' tk t1,(∀ b o,b≠e->s.heap.get? b=some o->h'.get? b=some o)->(∃ D,h'.get? e=some {cls:= .ref C,dict:=some D,data:= .fields #[.ref t1,.none,.none,.none,.bool false,.none]})->Q .none {s with heap:=h',toks:=tk}):
  wpAny (model prog G.w) A (call (.ref fi) [.ref e,y]) Q E s:=by
 obtain ⟨nm,q,N,bs,bm,hdct,sn,sub,ab,col,dd,k0,k1,k2,k3,k5,hCK,hT,hT2,hHD,hfi,hfc⟩:=excCls_obj hC;unfold initOk at ok;split at ok
 case h_2=>cases ok
 rename_i xn a b attr hin;simp only [Bool.and_eq_true,beq_iff_eq,bne_iff_ne,List.all_eq_true] at ok;obtain ⟨⟨⟨⟨⟨⟨⟨⟨⟨⟨⟨⟨c1,c2⟩,c3⟩,c4⟩,c5⟩,c6⟩,c7⟩,c8⟩,c9⟩,c10⟩,c11⟩,c12⟩,c13⟩:=ok;obtain ⟨x1,x2,np,apos,p1,p2,cpos,pos,qp,tp,vp,pos2,hp,hbody,rfl,rfl,hab,hline⟩:=initNames_inv hin;unfold fdOk at c1;simp only [Bool.and_eq_true,Bool.not_eq_true',beq_iff_eq,List.isEmpty_iff,decide_eq_true_eq] at c1;obtain ⟨⟨⟨⟨⟨⟨⟨⟨o1,o2⟩,o3⟩,o4⟩,o5⟩,o6⟩,o7⟩,o8⟩,o9⟩:=c1;have o6:fd.scope.kind= .function:=by simpa using o6
 obtain ⟨p,loose,mean,mg,mb,T⟩:=W.T;have X:=W.X.keeps hb;have hdef:fd.defaults= .none:=by revert c2;cases fd.defaults <;> simp
 have hbind:BindsTo s fd ⟨[.ref e,y],[]⟩ [(x1.arg,.ref e),(x2.arg,y)]:=fun M A' E' Q' hq=>by
  refine bind_run (ds:= []) o1 o2 (fun {Q''} k=>?_) (.inr (by rw [hp];rfl)) ?_
  ·rw [hdef];exact wpAny_pure (k none rfl)
  ·rw [hp];exact hq
 refine wpAny_call (codeAny_call_def hroom (X _ _ hfd) hd ((T.nolimit).keeps hb) (codeRec_of X o9) hbody hbind (fun z hz=>c10 z hz) (fun z hz=>?_) (fun h₀ hns hk=>?_) o4 o5 o6)
 ·rcases List.mem_cons.mp hz with rfl | hz
  ·exact c8
  ·rcases List.mem_cons.mp hz with rfl | hz
   ·exact c9
   ·cases hz
 have eL:e≠s.heap.objs.size:=Nat.ne_of_lt (Heap.lt_size he);generalize hL:s.heap.objs.size=L at*;generalize henv:callEnv fd L fi=env at*;have e1:env.scope=fd.scope:=by rw [<-henv];rfl
 have e2:env.locals=L:=by rw [<-henv];rfl
 have e3:env.globals=mainGlobals:=by rw [<-henv];exact o7
 have e4:env.builtins=builtinsNs:=by rw [<-henv];exact o8
 have hkf:env.scope.kind= .function:=by rw [e1];exact o6
 have kn:∀ {x k},fd.scope.names.lookup x=some k->env.kindOf x=some k:=fun hx=>by unfold Env.kindOf;rw [e1];exact hx
 have ma:([(x1.arg,Value.ref e),(x2.arg,y)].reverse.lookup x1.arg)=some (.ref e):=by
  have:(x1.arg==x2.arg)=false:=by simpa using hab
  simp [List.lookup_cons,this]
 have mb':([(x1.arg,Value.ref e),(x2.arg,y)].reverse.lookup x2.arg)=some y:=by simp [List.lookup_cons]
 rw [<-e2] at hns;have hi:interactive env=false:=by unfold interactive;rw [hkf];rfl
 refine wpAny_execs_cons (wpAny_Expr_any ?_ hi rfl);show wpAny _ _ (attributeBase (.Name xn np) "__init__" env (eval (.Name xn np) env) >>=fun ov=>standAt apos.atName >>=fun _=>methodCall (.Name xn np) "__init__" apos cpos env ov (2+0) (backTo cpos (starEach [.Name x1.arg p1,.Name x2.arg p2] env)) []) _ _ _;rw [base_plain rfl];have hb0:∀ b o,G.base.get? b=some o->h₀.get? b=some o:=fun b o z=>hk b o (hb b o z);refine wpAny_bind (global_at W hb0 hkf e3 e4 (kn c7) c4 c3 fun u hu=>wpAny_bind (wpAny_standAt ?_));have hu:u= .type "Exception":=by cases u <;> simp [valOf] at hu;rw [hu]
 subst hu;have hp2:methodCallPos true (.Name xn np) env apos cpos=pure cpos:=by
  unfold methodCallPos;rw [if_pos (by simp [hline])]
 have pl:=bp_ (pos:=cpos) (xs:= [.Name x1.arg p1,.Name x2.arg p2]) (env:=env) rfl;have few:methodCallForm (2+0) (backTo cpos (starEach [.Name x1.arg p1,.Name x2.arg p2] env)) []=true:=by
  unfold methodCallForm;rw [pl.2];rfl
 unfold methodCall;rw [few,hp2];have X0:=W.X.keeps hb0;have hfind:findCls K (.type "Exception") (.type "type") "__init__"=some (.val (.builtin "Exception.__init__")):=by
  split at c13
  ·rename_i v hv;rw [hv,beq_iff_eq.mp c13]
  ·cases c13
 refine wpAny_bind (wpAny_holding (method_ty X0 exc_type exc_stub hfind (by decide+kernel) ?_));refine wpAny_bind (wpAny_pure ?_);dsimp only;refine callWith_of (P:=fun _=>True) (by rw [pl.1];rfl) (fun _ _=>⟨.machine,.inr (.inl rfl),Looks.of_pure rfl⟩) (evalArgs_any rfl ?_);show wpAny _ _ (eval (.Name x1.arg p1) env >>=fun v1=>Pure.pure [v1] >>=fun here=>holding here (eval (.Name x2.arg p2) env >>=fun v2=>Pure.pure [v2] >>=fun here2=>holding here2 (Pure.pure []) >>=fun l=>Pure.pure (here2++l)) >>=fun l=>Pure.pure (here++l)) _ _ _;refine wpAny_bind (local_at hkf (kn c8) c5 hns ma (wpAny_bind (wpAny_pure (wpAny_bind (wpAny_holding (wpAny_bind (local_at hkf (kn c9) c6 hns mb' (wpAny_bind (wpAny_pure (wpAny_bind (wpAny_holding (wpAny_pure (wpAny_pure (wpAny_pure ⟨trivial,?_⟩))))))))))))));refine exc_init hT (X0 _ _ hCK) (hk _ _ he) (Nat.le_trans (show 1<=100000 by decide) sb_) fun h1 t1 hs1 he1=>?_;have hns1:h1.Ns env.locals _:=hns.extBut (b:=e) (fun b o hbe g=>hs1 b o hbe g) (by rw [e2];exact Ne.symm eL);have hb1:∀ b o,G.base.get? b=some o->h1.get? b=some o:=fun b o z=>hs1 b o (fun q=>by rw [q,hn] at z;cases z) (hb0 b o z);have X1:=W.X.keeps hb1;refine wpAny_execs_cons ?_;rw [exec_Assign_arm];refine wpAny_bind (wpAny_standAt ?_);show wpAny _ _ (eval (.Name x2.arg vp) env >>=fun v=>Pure.pure none >>=fun q=>assignStores env v q [assign (.Attribute (.Name x1.arg qp) attr tp) env]) _ _ _;refine wpAny_bind (local_at hkf (kn c9) c6 hns1 mb' (wpAny_bind (wpAny_pure ?_)));show wpAny _ _ (assign (.Attribute (.Name x1.arg qp) attr tp) env y >>=fun _=>Pure.pure PySem.Flow.next) _ _ _;refine wpAny_bind ?_;rw [arm_assign_Attribute];refine wpAny_bind (wpAny_holding (local_at hkf (kn c8) c5 hns1 ma (wpAny_bind (wpAny_standAt (wpAny_bind (wpAny_holding ?_))))));have I1:InstAt h1 e {cls:= .ref C,data:= .fields #[.ref t1,.none,.none,.none,.bool false,.none]} C none:=⟨he1,rfl,rfl,trivial⟩;refine set_plain X1 I1 c12 (osa_exc X1 I1 rfl rfl hT2 c11 hHD hy fun h2 tk hs2 he2=>?_);refine wpAny_release (wpAny_pure (wpAny_execs_nil ?_));refine h h2 tk t1 (fun b o hbe g=>hs2 b o hbe (hs1 b o hbe (hk b o g))) he2
end
section
open PyProof.Rows.LSm
set_option maxHeartbeats 2000000
section
variable {Λ:Lev} {φ φ₀:List Addr} {K:Frag} {F:Fns} {ρ:Ev} {s s':S} {r:Shared}
theorem Flies.made{c e:Addr}{h':Heap}{tk:Tok}{t D:Addr}(st:StL Λ φ s r)(cover:∀ env∈Λ.envs,env.scope.kind≠ .module/\∃ L,env.frame=some L/\(L=Λ.env.locals\/∃ q∈Λ.kp,q.1=L))(hn:r.heap.get? e=none)(hk:∀ b o,b≠e->r.heap.get? b=some o->h'.get? b=some o)
  (he:h'.get? e=some {cls:= .ref c,dict:=some D,data:= .fields #[.ref t,.none,.none,.none,.bool false,.none]}):Flies Λ φ s c e {r with heap:=h',toks:=tk}:=by
 have k:∀ b o,r.heap.get? b=some o->h'.get? b=some o:=fun b o g=>hk b o (fun z=>by rw [z,hn] at g;cases g) g;have st':StL Λ φ s {r with heap:=h',toks:=tk}:=st.keeps (tk:=tk) (d:=r.drawn) k;have mem:∀ {b:Addr},b≠Λ.env.locals->(∀ q∈Λ.kp,q.1≠b)->b∉Λ.env.locals::Λ.kp.map (·.1):=fun h1 h2 hm=>by
  rcases List.mem_cons.mp hm with h | h
  ·exact h1 h
  ·obtain ⟨q,hq,hb⟩:=List.mem_map.mp h;exact h2 q hq hb
 have up:∀ {b:Addr},b∉Λ.env.locals::Λ.kp.map (·.1)->(hideAll r.heap (Λ.env.locals::Λ.kp.map (·.1))).get? b=r.heap.get? b:=fun {b} hm=>by
  cases z:r.heap.get? b with
  | some o=>exact hideAll_get _ z hm
  | none=>
   cases z2:(hideAll r.heap (Λ.env.locals::Λ.kp.map (·.1))).get? b with
   | none=>rfl
   | some o=>have:=of_hideAll _ z2;rw [z] at this;cases this
 refine Flies.of (B:=hideAll r.heap (Λ.env.locals::Λ.kp.map (·.1))) (a0:= .ref t) st' (fun b o z=>k b o (of_hideAll _ z)) ?_ ?_ ⟨fun b o z=>?_,fun n o a ho hd ea=>?_,?_⟩ (.inl ⟨_,_,he,rfl,rfl,rfl,rfl⟩)
 ·cases z2:(hideAll r.heap (Λ.env.locals::Λ.kp.map (·.1))).get? e with
  | none=>rfl
  | some o=>have:=of_hideAll _ z2;rw [hn] at this;cases this
 ·have:∀ l:List Env,(∀ env∈l,env.scope.kind≠ .module/\∃ L,env.frame=some L/\(L=Λ.env.locals\/∃ q∈Λ.kp,q.1=L))->h'.FunFrames (hideAll r.heap (Λ.env.locals::Λ.kp.map (·.1))) l:=by
   intro l
   induction l with
   | nil=>intro _;trivial
   | cons env l ih=>
    intro hc;obtain ⟨c1,L,c2,c3⟩:=hc env (.head _);have hns:∃ m,r.heap.Ns L m:=by
     rcases c3 with rfl | ⟨q,hq,rfl⟩
     ·obtain ⟨m,h1,_⟩:=st.ns;exact ⟨m,h1⟩
     ·exact ⟨_,(st.kept q hq).1⟩
    obtain ⟨m,o,es,ep,g,d,_⟩:=hns;refine ⟨c1,⟨L,o,c2,hideAll_none _ ?_,k _ _ g,fun vs z=>by rw [d] at z;cases z⟩,ih fun env' he'=>hc env' (.tail _ he')⟩;rcases c3 with rfl | ⟨q,hq,rfl⟩
    ·exact .head _
    ·exact .tail _ (List.mem_map_of_mem hq)
  exact this _ cover
 ·refine hideAll_get _ (st.base b o z) (mem (fun q=>by rw [q,st.fresh.1] at z;cases z) fun q hq w=>?_);rw [<-w,st.fresh.2 q hq] at z;cases z
 ·obtain ⟨⟨ob,g,_⟩,aC,aK,_⟩:=st.objs n o a ho hd ea;rw [up (mem aC aK),g];exact (k _ _ g).symm
 ·obtain ⟨xs,tb,hx,lm⟩:=st.more;refine ⟨xs,tb,fun q hq=>?_,fun n body scope cells a ob ho ea g=>lm n body scope cells a ob ho ea (of_hideAll _ g)⟩;obtain ⟨q1,q2,q3,q4,q5⟩:=hx q hq;exact ⟨(up (mem q2 q3)).trans q1,k _ _ q1,q2,q3,q4,q5⟩
variable (W:Wd Λ.G K) (So:Sound Λ.prog Λ.G F) (e:EvR Λ φ₀ ρ)
include W So e
theorem raise_S(x:Str)(np cpos pos:Pos)(a:Expr):Sim Λ φ₀ FlowR (eb_ K F (.Raise (some (.Call (.Name x np) [a] [] cpos)) none pos) ρ) (exec (.Raise (some (.Call (.Name x np) [a] [] cpos)) none pos) Λ.env):=by
 show Sim Λ φ₀ FlowR (raiseE K F x a ρ) _;unfold raiseE;split
 ·rename_i C hg hx;refine Sim.need fun hn=>⟨fun φ s r Q E ex st pe nn ok exc=>?_⟩;simp only [Bool.and_eq_true,bne_iff_ne] at hn;obtain ⟨⟨h1,h2⟩,h3⟩:=hn;unfold excOk at h1;rw [Bool.and_eq_true] at h1;obtain ⟨hkeep,h1⟩:=h1;split at h1
  case h_2=>cases h1
  rename_i fi hfi0;rw [Bool.and_eq_true] at h1;obtain ⟨hE,h1⟩:=h1;split at h1
  case h_2=>cases h1
  rename_i fd hfd;obtain ⟨nm,q,N,bs,bm,hdct,sn,sub,ab,col,dd,k0,k1,k2,k3,k5,hCK,hT,hT2,hHD,hfi,hfc⟩:=excCls_obj hE;have hkf:Λ.env.scope.kind= .function:=by rw [e.scope];exact e.kind
  have hx':Λ.env.kindOf x=some .globalImplicit:=by unfold Env.kindOf;rw [e.scope];exact hx
  rw [arm_exec_Raise];refine wpAny_bind (wpAny_standAt (exc_raise (C:=C) (nm:=nm) (q:=q) (N:=N) (bs:=bs) (bm:=bm) (hdct:=hdct) (sn:=sn) (sub:=sub) (ab:=ab) (col:=col) (dd:=dd) (k0:=k0) (k1:=k1) (k2:=k2) (k3:=k3) (k5:=k5) hT e.a.handled ?_));show wpAny _ _ ((eval (.Name x np) Λ.env >>=fun f=>callWith cpos f [] (backTo cpos (starEach [a] Λ.env)) []) >>=fun v=>standAt pos >>=fun _=>Pure.pure v) _ _ _;refine wpAny_bind (wpAny_bind (global_at W st.base hkf e.glob e.blt hx' h3 hg fun v hv=>?_));have hv:v= .ref C:=by cases v <;> simp [valOf] at hv;rw [hv]
  subst hv;have han: [a].all na_=true:=by simp [h2]
  have pl:=bp_ (pos:=cpos) (env:=Λ.env) han;refine callWith_of (P:=fun h=>∀ b o,Λ.G.base.get? b=some o->h.get? b=some o) (by rw [pl.1];rfl) (fun h hb=>keeps_K hkeep _ (W.X.keeps hb)) (evalArgs_any han ?_);rw [sl_ (by intro y p z;rw [z] at h2;cases h2)];show wpAny _ _ (eval a Λ.env >>=fun v=>Pure.pure [v] >>=fun here=>PySem.holding here (Pure.pure []) >>=fun l=>Pure.pure (here++l)) _ _ _;refine wpAny_bind ((eo_ So e a ex).run φ s r _ E (Ext.refl _) st pe (bind_some nn) (fun u s1 ha φ1 y r1 x1 st1 hy=>?_) (fun c s1 ha=>exc c s1 (ba_ ha)));refine wpAny_bind (wpAny_pure (wpAny_bind (wpAny_holding (wpAny_pure (wpAny_pure ⟨st1.base,?_⟩)))));have X1:=W.X.keeps st1.base;obtain ⟨fo,hfo,hfoc⟩:∃ fo,K.lookup fi=some fo/\fo.cls= .type "function":=by
   unfold typeIn at hfc;obtain ⟨fo,h1,h2⟩:=Option.map_eq_some_iff.mp hfc;exact ⟨fo,h1,h2⟩
  obtain ⟨hp,g,d,tk,os⟩:=r1;have hroom:(Λ.A.under (.builtin "type.__call__" ⟨.ref C:: [y],[]⟩)).depth < recursionLimit:=by
   have:=e.a.depth;show Λ.A.depth+1 < _;omega
  refine exc_call hT (X1 _ _ hCK) (looks_findIn X1 hfi) (X1 _ _ hfo) hfoc (fun h2 ea hm=>?_) (Nat.le_trans (show 1<=100000 by decide) sb_);obtain ⟨t0,ht0,_,_⟩:=hm.there;have hbn:Λ.G.base.get? ea=none:=by
   cases z:Λ.G.base.get? ea with
   | none=>rfl
   | some o=>have:=st1.base _ _ z;rw [hm.new] at this;cases this
  have hnone:∀ {b:Addr} {o:Obj},hp.get? b=some o->b≠ea:=fun g z=>by rw [z,hm.new] at g;cases g
  refine init_run (prog:=Λ.prog) (G:=Λ.G) W (fun b o z=>hm.keeps _ _ (st1.base b o z)) hroom hfd rfl h1 hE hbn ht0 hy fun h3 tk3 t1 hs3 he3=>⟨rfl,?_⟩;obtain ⟨D,he3⟩:=he3;refine wpAny_bind (wpAny_standAt (wpAny_pure ⟨ea,t1,D,rfl,?_,he3,?_⟩))
  ·exact hs3 _ _ (hnone (X1 _ _ hCK)) (hm.keeps _ _ (X1 _ _ hCK))
  ·exact exc C s1 (by rw [bo_ ha];rfl) φ1 ea _ x1 (Flies.made (r:=⟨hp,g,d,tk,os⟩) (h':=h3) (tk:=tk3) st1 e.a.cover hm.new (fun b o hbe z=>hs3 b o hbe (hm.keeps _ _ z)) he3)
 ·exact Sim.fail
end
end
section
open PyProof.Rows.LSm
set_option maxHeartbeats 2000000
section
variable {M:Model} {A:Around} {E:Value->Shared->Prop} {s:Shared}
theorem note_first{base:Heap}{env:Env}{outer:List Env}{L e:Addr}{oe:Obj}{vs:Array Value}{a0:Value}{Q:Unit->Shared->Prop}
  (hfr:A.frames=some (env::outer)) (hl:s.heap.FunFrames base (env::outer)) (hf:env.frame=some L)
  (he:s.heap.get? e=some oe) (hkb:base.StaysIn s.heap) (hen:base.get? e=none) (hd:oe.data= .fields vs) (h1:vs[1]? =some .none) (h0:vs[0]? =some a0)
  (h:∀ h',Heap.NotedW base (env::outer) e oe.cls a0 (rawInt L) s.heap h'->Q () {s with heap:=h'}):wpAny M A (noteFrame (.ref e) env) Q E s:=by
 unfold noteFrame;simp only [hf];refine wpAny_bind (wpAny_field he hd h1 ?_);rw [if_neg (by decide)];exact wpAny_entryW hfr hl hf he hkb hen hd (Array.getElem?_eq_some_iff.mp h1).1 h0 h
theorem exc_match{K:Frag}{C D e:Addr}{oe:Obj}{b:Bool}{Q:Bool->Shared->Prop}(X:K.In s.heap)(he:s.heap.get? e=some oe)(hc:oe.cls= .ref C)(h1:subIn K (.ref D) (.type "BaseException")=some true)(h2:typeIn K (.ref D)=some (.type "type"))(hD:(clsIn K D).isSome=true)(h3:subIn K (.ref C) (.ref D)=some b)(h:Q b s):
  wpAny M A (excMatches (.ref e) (.ref D)) Q E s:=by
 have L1:Looks M s.heap (isInstance (.ref D) (.type "tuple")) false:=(looks_typeIn X h2).andThen (Looks.of_pure PySem.tc_notTuple);have L2:=looks_subIn (M:=M) X h1;have L3:=looks_subIn (M:=M) X h3;have L4:Looks M s.heap (typeOf (.ref e)) (.ref C):=by rw [<-hc];exact (Looks.ld he).andThen .now
 have L5:Looks M s.heap (isExcClass (.ref D)) true:=by
  unfold isExcClass;refine Looks.andThen (a:=true) ?_ L2;obtain ⟨cd,hcd⟩:=Option.isSome_iff_exists.mp hD;unfold clsIn at hcd;split at hcd
  ·rename_i hK;exact (Looks.ld (X _ _ hK)).andThen .now
  ·cases hcd
 unfold excMatches;refine wpAny_bind (L1.here ?_);simp only [Bool.false_eq_true,if_false];refine wpAny_bind (wpAny_pure ?_);simp only [List.forIn_cons,List.forIn_nil];refine wpAny_bind (wpAny_bind (wpAny_bind (L5.here ?_)));simp only [Bool.not_true,Bool.false_eq_true,if_false];refine wpAny_pure (wpAny_pure (wpAny_bind (L4.here ?_)));refine wpAny_bind (wpAny_bind (wpAny_bind (L3.here ?_)));cases b with
 | true=>exact wpAny_pure (wpAny_pure (wpAny_pure h))
 | false=>exact wpAny_pure (wpAny_pure (wpAny_pure h))
end
theorem retConst_inv{b:List Stmt}{u v:V}(h:rc_ b=some (u,v)):∃ c1 k1 p1 c2 k2 p2 k pt pr,b= [.Return (some (.Tuple [.Constant c1 k1 p1,.Constant c2 k2 p2] k pt)) pr]/\cl_ c1=some u/\cl_ c2=some v:=by
 unfold rc_ at h;split at h
 ·rename_i c1 k1 p1 c2 k2 p2 k pt pr;split at h
  ·rename_i u' v' h1 h2;cases h;exact ⟨c1,k1,p1,c2,k2,p2,k,pt,pr,rfl,h1,h2⟩
  ·cases h
 ·cases h
section
variable {Λ:Lev} {φ φ₀:List Addr} {K:Frag} {F:Fns} {ρ:Ev} {s s':S} {r:Shared}
theorem const_at{c:Const}{w:V}{M:Model}{A:Around}{env:Env}{E:Value->Shared->Prop}{Q:Value->Shared->Prop}{r:Shared}(h:cl_ c=some w)(k:∀ x tk,(∀ φ,VR φ w x)->Q x {r with toks:=tk}):wpAny M A (constValue env c) Q E r:=by
 cases c <;> simp [cl_] at h <;> subst h
 ·exact wpAny_pure (k _ r.toks fun _=>rfl)
 ·exact wpAny_pure (k _ r.toks fun _=>rfl)
 ·exact wpAny_mkInt (k _ _ fun _=>⟨_,rfl⟩)
 ·exact wpAny_mkText (k _ _ fun _=>⟨_,rfl⟩)
 ·exact wpAny_mkTextBytes (k _ _ fun _=>⟨_,rfl⟩)
theorem suite_at{b:List Stmt}{u v:V}{Q:PySem.Flow->Shared->Prop}{E:Value->Shared->Prop}{A:Around}{env:Env}(st:StL Λ φ s r)(h:rc_ b=some (u,v))
  (k:∀ φ' x r',Ext φ φ'->StL Λ φ' {s with h:=s.h++ [.tup [u,v]]} r'->VR φ' (.ref s.h.length) x->Q (.ret x) r'):wpAny (model Λ.prog Λ.G.w) A (execs b env) Q E r:=by
 obtain ⟨c1,k1,p1,c2,k2,p2,kt,pt,pr,rfl,h1,h2⟩:=retConst_inv h;refine wpAny_execs_cons (wpAny_Return_some ?_);show wpAny _ _ (standAt pt >>=fun _=>(constValue env c1 >>=fun v1=>Pure.pure [v1] >>=fun here=>PySem.holding here (constValue env c2 >>=fun v2=>Pure.pure [v2] >>=fun here2=>PySem.holding here2 (Pure.pure []) >>=fun l=>Pure.pure (here2++l)) >>=fun l=>Pure.pure (here++l)) >>=fun l=>PySem.newTuple l) _ _ _;refine wpAny_bind (wpAny_standAt (wpAny_bind (wpAny_bind (const_at h1 fun x1 t1 hx1=>wpAny_bind (wpAny_pure (wpAny_bind (wpAny_holding (wpAny_bind (const_at h2 fun x2 t2 hx2=>wpAny_bind (wpAny_pure (wpAny_bind (wpAny_holding (wpAny_pure (wpAny_pure (wpAny_pure ?_)))))))))))))));refine wpAny_newTuple ?_ (Nat.le_trans (show 2<=100000 by decide) sb_);have st1:StL Λ (φ++ [r.heap.objs.size]) {s with h:=s.h++ [.tup [u,v]]} {r with heap:=r.heap.push {cls:= .type "tuple",data:= .seq #[x1,x2]},toks:=t2}:=
  st.alloc (tk:=t2) (fun b o e=>Heap.get?_push_of_some _ e) Heap.fresh_none (Heap.get?_push_size _ rfl) ⟨rfl,[x1,x2],0,rfl,hx1 _,hx2 _,trivial⟩ (Nat.ne_of_gt st.big)
 exact k _ _ _ (Ext.one _ _) st1 ⟨_,by rw [<-st.len];simp,rfl⟩
variable (W:Wd Λ.G K) (So:Sound Λ.prog Λ.G F) (e:EvR Λ φ₀ ρ)
include W e
theorem handlers_at{C ex:Addr}{B:Heap}{a0:Value}{body:List Stmt}{u v:V}{Q:PySem.Flow->Shared->Prop}{E:Value->Shared->Prop}(st:StL Λ φ s r)(y:Still Λ.G Λ.env.locals Λ.kp φ s r B)(fl:Heap.FlyingW B Λ.envs ex (.ref C) a0 r.heap)(hb:rc_ body=some (u,v))
  (k:∀ φ' x r',Ext φ φ'->StL Λ φ' {s with h:=s.h++ [.tup [u,v]]} r'->VR φ' (.ref s.h.length) x->Q (.ret x) r'):∀ hs:List ExceptHandler,h_ K ρ C hs=some body->wpAny (model Λ.prog Λ.G.w) Λ.A (handleBy (.ref ex) Λ.env hs) Q E r
 | [],h=>by cases h
 | .ExceptHandler t nm b pos::rest,h=>by
  unfold h_ at h;split at h
  case h_2=>cases h
  rename_i x np b' pos' rest' heq;cases heq;split at h
  case h_2=>cases h
  rename_i D hg hx;split at h
  ·cases h
  rename_i hn;simp only [not_or,Decidable.not_not,Bool.not_eq_false] at hn;obtain ⟨n1,n2,n3,n4⟩:=hn;have hkf:Λ.env.scope.kind= .function:=by rw [e.scope];exact e.kind
  have hx':Λ.env.kindOf x=some .globalImplicit:=by unfold Env.kindOf;rw [e.scope];exact hx
  obtain ⟨oe,he,hc⟩:=fl.there;have test:∀ {b:Bool} {R:Result->Shared->Prop},subIn K (.ref C) (.ref D)=some b->R (.ok (if b then .brk else .next)) r->codeAny (model Λ.prog Λ.G.w) (Λ.A.mark (some (.ref ex))) (.handlers (.ref ex) [.ExceptHandler (some (.Name x np)) none [] pos] Λ.env) R r:=fun h3 hr=>by
   refine codeAny_handlers_test (global_at W st.base hkf e.glob e.blt hx' n1 hg fun w hw=>?_);have hw:w= .ref D:=by cases w <;> simp [valOf] at hw;rw [hw]
   subst hw;exact exc_match (W.X.keeps st.base) he hc n2 n3 n4 h3 hr
  split at h
  ·rename_i h3;cases h;obtain ⟨c1,k1,p1,c2,k2,p2,kt,pt,pr,hbd,_,_⟩:=retConst_inv hb;refine wpAny_handleBy_cons (test h3 ?_) (by intro q;cases q);show codeAny _ _ _ _ _;subst hbd;refine codeAny_handlers_suite (lands_againW fl fun h' fl' hu=>?_);obtain ⟨st',_⟩:=st.slots y fl'.1 hu;exact suite_at st' hb k
  ·rename_i h3;exact wpAny_handleBy_cons (test h3 (handlers_at st y fl hb k rest h)) (by intro q;cases q)
  ·cases h
include So
theorem try_S(b:List Stmt)(h0:ExceptHandler)(hs:List ExceptHandler)(pos:Pos):Sim Λ φ₀ FlowR (eb_ K F (.Try b (h0::hs) [] [] pos) ρ) (exec (.Try b (h0::hs) [] [] pos) Λ.env):=by
 show Sim Λ φ₀ FlowR (tryE K F b (h0::hs) ρ) _;unfold tryE;refine Sim.need fun hstm=>⟨fun φ s r Q E ex st pe nn ok exc=>?_⟩;obtain ⟨outer,L,hen,hf⟩:=e.head hstm;have fr:Λ.A.frames=some (Λ.env::outer):=by rw [<-hen];exact e.a.frames
 have at1:∀ {res:Res Mine.Flow} {s1:S},F.exs b ρ s=some (res,s1)->attempt (F.exs b ρ) s=some (.ok res,s1):=fun h=>by unfold attempt;rw [h]
 have nn0:F.exs b ρ s≠none:=fun z=>nn (bb_ (by unfold attempt;rw [z]));refine wpAny_Try_except ?_;refine (So.exs Λ ρ φ₀ b rfl rfl e).run φ s r _ _ ex st PassesOwn.looking nn0 (fun f s1 h1 φ1 f' r1 x1 st1 hf'=>?_) (fun C s1 h1 φ1 ea r1 x1 fl=>?_)
 ·rw [bo_ (at1 h1)] at ok;cases hf' with
  | next=>exact wpAny_execs_nil (ok _ _ rfl φ1 _ r1 x1 st1 .next)
  | ret hv=>exact ok _ _ rfl φ1 _ r1 x1 st1 (.ret hv)
 ·rw [bo_ (at1 h1)] at nn ok exc;dsimp only at nn ok exc;cases hh:(h_ K ρ C (h0::hs)).bind rc_ with
  | none=>rw [hh] at nn;exact absurd rfl nn
  | some uv=>
  obtain ⟨u,v⟩:=uv;obtain ⟨body,hb1,hb2⟩:=Option.bind_eq_some_iff.mp hh;obtain ⟨B,a0,f1,f2,f3,y,f7⟩:=fl.still;have fin:∀ (h':Heap),Heap.HeldW B Λ.envs ea (.ref C) a0 L h'->r1.heap.UpToSlots h'->wpAny (model Λ.prog Λ.G.w) Λ.A (setFlight (.ref ea) none) (fun _ s₃=>wpAny (model Λ.prog Λ.G.w) Λ.A (handleBy (.ref ea) Λ.env (h0::hs)) Q E s₃) E {r1 with heap:=h'}:=fun h' hd hu=>by
   obtain ⟨st2,y2⟩:=fl.st.slots y hd.1 hu;refine wpAny_landsW hd fun h3 fl3 hu3=>?_;obtain ⟨st3,y3⟩:=st2.slots y2 fl3.1 hu3;refine handlers_at W e st3 y3 fl3 hb2 (fun φ4 x r4 x4 st4 hx=>?_) (h0::hs) hb1;rw [hh] at ok;exact ok _ _ rfl φ4 _ r4 (x1.trans x4) st4 (.ret hx)
  rw [hen] at f3;rcases f7 with ⟨ob,vs,g,hc,hd,h0',hn⟩ | ht
  ·refine note_first fr f3 hf g f1 f2 hd hn h0' fun h' hN=>?_;obtain ⟨k1,k2,k3,k4⟩:=hN;exact fin h' ⟨k1,f2,by rw [hen];exact k2,hc▸k3⟩ k4
  ·refine wpAny_looks_onW fr hf ⟨f1,f2,f3,ht⟩ fun h' hH hu=>fin h' (by rw [hen];exact hH) hu
end
end
section
open PyProof.Rows.LSm
set_option maxHeartbeats 2000000
section
variable {Λ:Lev} {φ φ₀:List Addr} {K:Frag} {F:Fns} {ρ:Ev} {s s':S} {r:Shared}
theorem putItem_S{n:Nat}{b c:V}{d:Addr}{y z:Value}(ha:φ₀[n]? =some d)(hb:VR φ₀ b y)(hc:VR φ₀ c z):Sim Λ φ₀ TrueR (putItemM n b c) (dictSet d y z):=by
 refine Sim.of_at fun φ s r ex st=>?_;have eax:=ex.get ha;have hb:=hb.mono ex;have hc:=hc.mono ex;unfold putItemM;refine At.geto fun o ho=>?_;have hlen:=(List.getElem?_eq_some_iff.mp ho).1;split
 ·rename_i es ep;refine At.need fun hn=>?_;simp only [Bool.and_eq_true] at hn;refine At.dict hn.1.1 fun T _ c k hk=>?_;subst hk;obtain ⟨ob1,g1,x1,⟨xs,d1,r1⟩,nd⟩:=st.at ho (by simp) eax;refine At.done (a:=()) (s':={s with h:=s.h.set _ (putD (c.enc k) _ es ep)}) (by unfold seto;rw [if_pos hlen]) fun Q E kk=>?_;have hsz:=small_es r1 hn.2;refine dictSet_exact (c.val φ k y hb) g1 x1 d1 (ek_ c hn.1.2 r1) (fun h' o' tk h1 h2 h3 h4=>?_) hsz;refine kk φ () _ (Ext.refl φ) (st.upd ho (by simp) eax (fun b ob hb e=>h4.extBut b ob hb e) (.inr ?_)) trivial;exact ⟨o',h1,put_OR c hn.1.2 (c.of k y (c.val φ k y hb)) hc r1 nd h2 h3⟩
 ·exact At.fail
variable (W:Wd Λ.G K) (So:Sound Λ.prog Λ.G F) (e:EvR Λ φ₀ ρ)
include So e
theorem dict_E(ks:List (Option Expr))(vs:List Expr)(pos:Pos):Sim Λ φ₀ VR (dictE F ks vs ρ) (eval (.Dict ks vs pos) Λ.env):=by
 unfold dictE;split
 ·rw [arm_eval_Dict];show Sim Λ φ₀ VR _ (standAt pos >>=fun _=>newDict);refine Sim.at (Sim.of_at fun φ s r ex st=>?_);exact At.newV (R:=VR) st (.dict [] 0) {cls:= .type "dict",data:= .dict #[]} (.ref r.heap.objs.size) r.toks rfl ⟨⟨rfl,rfl,rfl⟩,⟨[],rfl,trivial⟩,List.Pairwise.nil⟩ (nr_ st) fun Q E k=>wpAny_newObj_type k
 ·rename_i k v;rw [arm_eval_Dict];have hz:((evalEachOpt [some k] Λ.env).zip ((evalEach [v] Λ.env).map fun v=>(v >>=fun x=>standAt pos >>=fun _=>Pure.pure x)))= [(eval k Λ.env,eval v Λ.env >>=fun x=>standAt pos >>=fun _=>Pure.pure x)].map fun p=>(some p.1,p.2):=rfl;rw [hz];rw [dictDisplay_pairs [(eval k Λ.env,eval v Λ.env >>=fun x=>standAt pos >>=fun _=>Pure.pure x)] (List.cons_ne_nil _ _) (show 1 < 17 by decide)];refine Sim.at ⟨fun φ s r Q E ex st pe nn ok exc=>?_⟩;have e1:(Mine.alloc (.dict [] 0):M Nat) s=some (.ok s.h.length,{s with h:=s.h++ [.dict [] 0]}):=rfl;rw [bo_ e1] at nn ok exc;have st1:StL Λ (φ++ [r.heap.objs.size]) {s with h:=s.h++ [.dict [] 0]} {r with heap:=r.heap.push {cls:= .type "dict",data:= .dict #[]}}:=
   st.alloc (tk:=r.toks) (fun b o e=>Heap.get?_push_of_some _ e) Heap.fresh_none (Heap.get?_push_size _ rfl) ⟨⟨rfl,rfl,rfl⟩,⟨[],rfl,trivial⟩,List.Pairwise.nil⟩ (Nat.ne_of_gt st.big)
  have hd:(φ++ [r.heap.objs.size])[s.h.length]? =some r.heap.objs.size:=by rw [<-st.len];simp
  refine wpAny_bind (wpAny_subDict_any (Nat.le_add_left 1 14) (evalPairs_cons ?_));refine (eo_ So e k (ex.trans (Ext.one _ _))).run _ _ _ _ E (Ext.refl _) st1 pe (bind_some nn) (fun a s2 e2 φ2 kv r2 x2 st2 ha=>?_) (fun c s2 e2 φ' b r' x'=>exc c s2 (ba_ e2) φ' b r' ((Ext.one _ _).trans x'));rw [bo_ e2] at nn ok exc;refine wpAny_bind ((eo_ So e v ((ex.trans (Ext.one _ _)).trans x2)).run _ _ _ _ E (Ext.refl _) st2 pe (bind_some nn) (fun b s3 e3 φ3 vv r3 x3 st3 hb=>?_) (fun c s3 e3 φ' b r' x'=>exc c s3 (ba_ e3) φ' b r' (((Ext.one _ _).trans x2).trans x')));rw [bo_ e3] at nn ok exc;refine wpAny_bind (wpAny_standAt (wpAny_pure (evalPairs_nil ?_)));unfold storeAll;rw [List.forIn_cons];refine wpAny_bind (wpAny_bind ((putItem_S (x3.get (x2.get hd)) (ha.mono x3) hb).run _ _ _ _ E (Ext.refl _) st3 pe (bind_some nn) (fun u s4 e4 φ4 _ r4 x4 st4 _=>?_) (fun c s4 e4 φ' b r' x'=>exc c s4 (ba_ e4) φ' b r' ((((Ext.one _ _).trans x2).trans x3).trans x'))));rw [bo_ e4] at ok;refine wpAny_pure ?_;dsimp only;rw [List.forIn_nil];exact wpAny_pure (wpAny_pure (ok _ _ rfl φ4 _ r4 ((((Ext.one _ _).trans x2).trans x3).trans x4) st4 ⟨_,x4.get (x3.get (x2.get hd)),rfl⟩))
 ·exact Sim.fail
end
end
section
open PyProof.Rows.LSm
set_option maxHeartbeats 2000000
def PrimOk(prog:Program)(G:Ground)(prims:Addr->List V->Option V):Prop:=
 ∀ (Λ:Lev) φ a args xs v d,Λ.G=G->Λ.prog=prog->OkA Λ d->VsR φ args xs->prims a args=some v->Sim Λ φ VR (Pure.pure v) (call (.ref a) xs)
section
variable {Λ:Lev} {φ φ₀:List Addr} {K:Frag} {F:Fns} {ρ:Ev} {s s':S} {r:Shared}
variable (W:Wd Λ.G K) (So:Sound Λ.prog Λ.G F) (e:EvR Λ φ₀ ρ)
include W So e
theorem ev_S(x:Expr):Sim Λ φ₀ VR (evM K F x ρ) (eval x Λ.env):=by
 cases x with
 | Constant c k pos=>
  show Sim Λ φ₀ VR (Mine.opt (cl_ c)) (constValue Λ.env c);exact Sim.opt' fun u hu=>const_S hu
 | Name x pos=>exact load_S W e x pos
 | BoolOp op vs pos=>exact bool_E So e op pos vs (Ext.refl _)
 | BinOp l op r pos=>exact bin_E So e l r op pos
 | UnaryOp op x pos=>exact un_E So e op x pos
 | IfExp t b o pos=>exact if_E So e t b o pos
 | Dict ks vs pos=>exact dict_E So e ks vs pos
 | List es pos=>exact list_E So e es pos
 | Tuple es k pos=>exact tup_E So e es k pos
 | Compare l ops rs pos=>exact cmp_E So e l ops rs pos
 | Call f args kws pos=>exact call_E W So e f args kws pos
 | Attribute o name pos=>exact attr_E So e W o name pos
 | Subscript o i pos=>exact sub_E So e o i pos
 | ListComp elt gens scope pos=>exact comp_E W So e elt gens scope pos
 | Lambda args body scope pos=>exact lam_E W e args body scope pos
 | _=>exact Sim.fail
omit W in
theorem tr_S(x:Expr):Sim Λ φ₀ (fun _ a b=>a=b) (trM F x ρ) (isTrue x Λ.env (eval x Λ.env)):=by
 have plain:Sim Λ φ₀ (fun _ a b=>a=b) (F.ev x ρ >>=fun v=>tb_ v) (eval x Λ.env >>=fun v=>standAt x.pos >>=fun _=>PySem.holding [v] (truthy v)):=
  Sim.bind (eo_ So e x (Ext.refl _)) fun φ1 a v ex ha=>Sim.at (Sim.holding (truthy_S ha))
 cases x with
 | UnaryOp op x pos=>
  cases op with
  | Not=>
   show Sim Λ φ₀ _ (F.tr x ρ >>=fun b=>Pure.pure !b) (isTrue x Λ.env (eval x Λ.env) >>=fun b=>Pure.pure !b);exact Sim.bind (tr_of So e x (Ext.refl _)) fun φ1 a v ex ha=>by subst ha;exact Sim.pure fun _ _=>rfl
  | _=>exact plain
 | BoolOp op vs pos=>exact allTr_E So e op vs (Ext.refl _)
 | IfExp t b o pos=>
  show Sim Λ φ₀ _ (F.tr t ρ >>=fun c=>if c then F.tr b ρ else F.tr o ρ) (isTrue t Λ.env (eval t Λ.env) >>=fun c=>if c then isTrue b Λ.env (eval b Λ.env) else isTrue o Λ.env (eval o Λ.env));refine Sim.bind (tr_of So e t (Ext.refl _)) fun φ1 a v ex ha=>?_;subst ha;cases a with
  | true=>exact tr_of So e b ex
  | false=>exact tr_of So e o ex
 | Compare l ops rs pos=>
  show Sim Λ φ₀ _ (Mine.need (rs.all nb_) >>=fun _=>F.ev l ρ >>=fun a=>chainM F ρ a ops rs) (eval l Λ.env >>=fun a=>testChain pos a ops (markedEach ops rs (evalEach rs Λ.env)));refine Sim.need fun hn=>?_;rw [me_ ops rs _ hn];exact Sim.bind (eo_ So e l (Ext.refl _)) fun φ1 a v ex ha=>testChain_E So e pos ops rs ex ha
 | _=>exact plain
theorem exec_S(x:Stmt):Sim Λ φ₀ FlowR (eb_ K F x ρ) (exec x Λ.env):=by
 cases x with
 | Expr x pos=>exact expr_S So e x pos
 | Pass pos=>exact Sim.at (Sim.pure fun _ _=> .next)
 | Return v pos=>cases v with
  | some x=>exact return_S So e x pos
  | none=>exact Sim.fail
 | Assign ts x pos=>match ts with
  | [t]=>exact assignStm_S W So e t x pos
  | []=>exact Sim.fail
  | _::_::_=>exact Sim.fail
 | If t b o pos=>exact if_S So e t b o pos
 | While t b o pos=>cases o with
  | nil=>exact while_S So e t b pos
  | cons=>exact Sim.fail
 | For t i b o pos=>cases o with
  | nil=>exact for_S So e t i b pos
  | cons=>exact Sim.fail
 | Delete ts pos=>
  have key:(∃ o i p,ts= [.Subscript o i p])\/eb_ K F (.Delete ts pos) ρ=Mine.fail:=by
   unfold eb_;split <;> first | (rename_i q;cases q;exact .inl ⟨_,_,_,rfl⟩) | (rename_i q;cases q;done) | exact .inr rfl
  rcases key with ⟨o,i,p,rfl⟩ | q
  ·exact delete_S So e o i p pos
  ·rw [q];exact Sim.fail
 | Raise x c pos=>
  have key:(∃ y np a p,x=some (.Call (.Name y np) [a] [] p)/\c=none)\/eb_ K F (.Raise x c pos) ρ=Mine.fail:=by
   unfold eb_;split <;> first | (rename_i q;cases q;exact .inl ⟨_,_,_,_,rfl,rfl⟩) | (rename_i q;cases q;done) | exact .inr rfl
  rcases key with ⟨y,np,a,p,rfl,rfl⟩ | q
  ·exact raise_S W So e y np p pos a
  ·rw [q];exact Sim.fail
 | Try b hs o f pos=>match hs,o,f with
  | h0::hs,[],[]=>exact try_S W So e b h0 hs pos
  | [],_,_=>exact Sim.fail
  | _::_,_::_,_=>exact Sim.fail
  | _::_,[],_::_=>exact Sim.fail
 | _=>exact Sim.fail
theorem execs_S:∀ (xs:List Stmt) {φ:List Addr},Ext φ₀ φ->Sim Λ φ FlowR (e_ K F xs ρ) (execs xs Λ.env)
 | [],_,_=>Sim.pure fun _ _=> .next
 | x::r,φ,ex=>by
  show Sim Λ φ FlowR (eb_ K F x ρ >>=fun f=>match f with | .next=>e_ K F r ρ | f=>Pure.pure f) (exec x Λ.env >>=fun f=>match f with | .next=>execs r Λ.env | f=>Pure.pure f);refine Sim.bind ((exec_S W So (e.mono ex) x)) fun φ1 f f' ex1 hf=>?_;cases hf with
  | next=>exact execs_S r (ex.trans ex1)
  | ret hv=>exact Sim.pure fun φ2 ex2=> .ret (hv.mono ex2)
end
theorem call_S{Λ:Lev}{φ:List Addr}{K:Frag}{prims:Addr->List V->Option V}{F:Fns}{f:V}{x:Value}{args:List V}{xs:List Value}{d:Nat}(W:Wd Λ.G K)(P:PrimOk Λ.prog Λ.G prims)(So:Sound Λ.prog Λ.G F)(h:OkA Λ d)(hf:VR φ f x)(ha:VsR φ args xs):
  Sim Λ φ VR (callM K prims Λ.G.cs F f args d) (call x xs):=by
 unfold callM;split
 ·cases hf;exact callBi_S h.handled ha
 ·cases hf;exact callTy_S h.handled ha
 ·rename_i a;cases hf;split
  ·rename_i r hr;exact P Λ φ a args xs r d rfl rfl h ha hr
  ·split
   ·rename_i hK;split
    ·exact (callFd_S W So h hK rfl ha).sim
    ·exact Sim.fail
   ·split
    ·exact make_S W So h ha
    ·exact Sim.fail
   ·exact Sim.fail
 ·split
  ·obtain ⟨rfl⟩:xs= []:=by cases xs;rfl;exact ha.elim
   exact callLam_S W So h hf
  ·exact Sim.fail
 ·exact Sim.fail
theorem sound_step{prog:Program}{G:Ground}{K:Frag}{prims:Addr->List V->Option V}{F:Fns}(W:Wd G K)(P:PrimOk prog G prims)(So:Sound prog G F):Sound prog G (stepF K prims G.cs F) where
 ev:=fun Λ ρ φ x hG hp e=>by subst hG hp;exact ev_S W So e x
 tr:=fun Λ ρ φ x hG hp e=>by subst hG hp;exact tr_S So e x
 exs:=fun Λ ρ φ b hG hp e=>by subst hG hp;exact execs_S W So e b (Ext.refl _)
 wh:=fun Λ ρ φ t b hG hp e=>by subst hG hp;exact wh_S So e t b
 fo:=fun Λ ρ φ t b it a hG hp e ea=>by subst hG hp;exact fo_S W So e t b ea
 co:=fun Λ ρ φ t i x ifs sc pos it acc ai aa hG hp e h1 h2=>by subst hG hp;exact co_S W So e h1 h2
 call:=fun Λ φ f x args xs d hG hp h hf ha=>by subst hG hp;exact call_S W P So h hf ha
theorem sound{prog:Program}{G:Ground}{K:Frag}{prims:Addr->List V->Option V}(W:Wd G K)(P:PrimOk prog G prims):∀ n,Sound prog G (fns K prims G.cs n)
 | 0=>sound_noF prog G
 | n+1=>sound_step W P (sound W P n)
end
section
structure Prg where
 K:Frag
 prims:Addr->List V->Option V
 cs:List (Addr×Addr×Str)
abbrev Prg.fn(P:Prg)(n:Nat):Fns:=fns P.K P.prims P.cs n
def Evt(P:Prg)(p:Fns->Prop):Prop:=∃ N,∀ n,N<=n->p (P.fn n)
section
variable {P:Prg} {α β:Type}
theorem Evt.always{p:Fns->Prop}(h:∀ F,p F):Evt P p:=⟨0,fun n _=>h _⟩
theorem Evt.and{p q:Fns->Prop}(h:Evt P p)(k:Evt P q):Evt P fun F=>p F/\q F:=by
 obtain ⟨N,h⟩:=h;obtain ⟨M,k⟩:=k;exact ⟨max N M,fun n hn=>⟨h n (Nat.le_trans (Nat.le_max_left ..) hn),k n (Nat.le_trans (Nat.le_max_right ..) hn)⟩⟩
theorem Evt.mono{p q:Fns->Prop}(h:Evt P p)(k:∀ F,p F->q F):Evt P q:=let ⟨N,h⟩:=h;⟨N,fun n hn=>k _ (h n hn)⟩
theorem Evt.step{p:Fns->Prop}(h:Evt P fun F=>p (stepF P.K P.prims P.cs F)):Evt P p:=by
 obtain ⟨N,h⟩:=h;refine ⟨N+1,fun n hn=>?_⟩;cases n with
 | zero=>omega
 | succ n=>exact h n (by omega)
def W(P:Prg)(m:Fns->M α)(Q:α->S->Prop)(E:Addr->S->Prop)(s:S):Prop:=
 (∃ a s',Q a s'/\Evt P fun F=>m F s=some (.ok a,s'))\/(∃ c s',E c s'/\Evt P fun F=>m F s=some (.exc c,s'))
variable {Q:α->S->Prop} {E:Addr->S->Prop} {s:S}
theorem W.mono{Q':α->S->Prop}{E':Addr->S->Prop}{m:Fns->M α}(h:W P m Q E s)(q:∀ a s,Q a s->Q' a s)(e:∀ c s,E c s->E' c s):W P m Q' E' s:=by
 rcases h with ⟨a,s',h1,h2⟩ | ⟨c,s',h1,h2⟩
 ·exact .inl ⟨a,s',q _ _ h1,h2⟩
 ·exact .inr ⟨c,s',e _ _ h1,h2⟩
theorem W.post{Q':α->S->Prop}{m:Fns->M α}(h:W P m Q E s)(q:∀ a s,Q a s->Q' a s):W P m Q' E s:=h.mono q fun _ _ h=>h
theorem W.ret{m:Fns->M α}{a:α}{s':S}(h:∀ F,m F s=some (.ok a,s'))(q:Q a s'):W P m Q E s:= .inl ⟨a,s',q,Evt.always h⟩
theorem W.thr{m:Fns->M α}{c:Addr}{s':S}(h:∀ F,m F s=some (.exc c,s'))(q:E c s'):W P m Q E s:= .inr ⟨c,s',q,Evt.always h⟩
theorem W.pure{a:α}(q:Q a s):W P (fun _=>Pure.pure a) Q E s:=W.ret (fun _=>rfl) q
theorem W.bind{m:Fns->M β}{f:Fns->β->M α}(h:W P m (fun a s'=>W P (fun F=>f F a) Q E s') E s):W P (fun F=>m F >>=f F) Q E s:=by
 rcases h with ⟨a,s',h1,h2⟩ | ⟨c,s',h1,h2⟩
 ·rcases h1 with ⟨b,s2,h3,h4⟩ | ⟨c,s2,h3,h4⟩
  ·exact .inl ⟨b,s2,h3,(h2.and h4).mono fun F ⟨x,y⟩=>by
    show M.bind (m F) (f F) s=_;unfold M.bind;rw [x];exact y⟩
  ·exact .inr ⟨c,s2,h3,(h2.and h4).mono fun F ⟨x,y⟩=>by
    show M.bind (m F) (f F) s=_;unfold M.bind;rw [x];exact y⟩
 ·exact .inr ⟨c,s',h1,h2.mono fun F x=>by
   show M.bind (m F) (f F) s=_;unfold M.bind;rw [x]⟩
theorem W.eq{m m':Fns->M α}(h:W P m Q E s)(e:∀ F,m' F s=m F s):W P m' Q E s:=by
 rcases h with ⟨a,s',h1,h2⟩ | ⟨c,s',h1,h2⟩
 ·exact .inl ⟨a,s',h1,h2.mono fun F x=>(e F).trans x⟩
 ·exact .inr ⟨c,s',h1,h2.mono fun F x=>(e F).trans x⟩
theorem W.stepD{m:Fns->M α}(h:W P (fun F=>m (stepF P.K P.prims P.cs F)) Q E s):W P m Q E s:=by
 rcases h with ⟨a,s',h1,h2⟩ | ⟨c,s',h1,h2⟩
 ·exact .inl ⟨a,s',h1,Evt.step h2⟩
 ·exact .inr ⟨c,s',h1,Evt.step h2⟩
theorem W.n_{b:Bool}{f:Fns->Unit->M α}(hb:b=true)(h:W P (fun F=>f F ()) Q E s):W P (fun F=>Mine.need b >>=f F) Q E s:=by subst hb;exact h.eq fun F=>rfl
theorem W.gc_{n:Nat}{o:O}{f:Fns->O->M α}(ho:s.h[n]? =some o)(h:W P (fun F=>f F o) Q E s):W P (fun F=>Mine.geto n >>=f F) Q E s:=h.eq fun F=>by
 show M.bind (Mine.geto n) (f F) s=_;unfold M.bind Mine.geto;rw [ho]
theorem W.opt{o:Option β}{b:β}{f:Fns->β->M α}(ho:o=some b)(h:W P (fun F=>f F b) Q E s):W P (fun F=>Mine.opt o >>=f F) Q E s:=by subst ho;exact h.eq fun F=>rfl
theorem W.opt'{o:Option α}{b:α}(ho:o=some b)(h:Q b s):W P (fun _=>Mine.opt o) Q E s:=by subst ho;exact W.pure h
theorem W.alloc{o:O}{Q:Nat->S->Prop}(h:Q s.h.length {s with h:=s.h++ [o]}):W P (fun _=>Mine.alloc o) Q E s:=W.ret (fun _=>rfl) h
theorem W.seto{n:Nat}{o:O}{Q:Unit->S->Prop}(hn:n < s.h.length)(h:Q () {s with h:=s.h.set n o}):W P (fun _=>Mine.seto n o) Q E s:=W.ret (fun _=>by unfold Mine.seto;rw [if_pos hn]) h
theorem W.ite{c:Prop} [Decidable c]{m₁ m₂:Fns->M α}(h1:c->W P m₁ Q E s)(h2:¬ c->W P m₂ Q E s):W P (fun F=>if c then m₁ F else m₂ F) Q E s:=by
 split
 ·rename_i h;exact h1 h
 ·rename_i h;exact h2 h
theorem W.within{l:List (Str×V)}{m:Fns->M α}(h:W P m (fun a s'=>Q a {s' with l:=s.l}) (fun c s'=>E c {s' with l:=s.l}) {s with l:=l}):W P (fun F=>Mine.within l (m F)) Q E s:=by
 rcases h with ⟨a,s',h1,h2⟩ | ⟨c,s',h1,h2⟩
 ·exact .inl ⟨a,_,h1,h2.mono fun F x=>by unfold Mine.within;dsimp only;rw [x]⟩
 ·exact .inr ⟨c,_,h1,h2.mono fun F x=>by unfold Mine.within;dsimp only;rw [x]⟩
theorem W.calm{m:Fns->M α}(h:W P m Q (fun _ _=>False) s):W P (fun F=>Mine.calm (m F)) Q E s:=by
 rcases h with ⟨a,s',h1,h2⟩ | ⟨c,s',h1,h2⟩
 ·exact .inl ⟨a,_,h1,h2.mono fun F x=>by unfold Mine.calm;dsimp only;rw [x]⟩
 ·exact h1.elim
theorem W.attempt{m:Fns->M α}{Q:Res α->S->Prop}{E:Addr->S->Prop}(h:W P m (fun a s'=>Q (.ok a) s') (fun c s'=>Q (.exc c) s') s):W P (fun F=>Mine.attempt (m F)) Q E s:=by
 rcases h with ⟨a,s',h1,h2⟩ | ⟨c,s',h1,h2⟩
 ·exact .inl ⟨_,_,h1,h2.mono fun F x=>by unfold Mine.attempt;dsimp only;rw [x]⟩
 ·exact .inl ⟨_,_,h1,h2.mono fun F x=>by unfold Mine.attempt;dsimp only;rw [x]⟩
theorem W.ev{x:Expr}{ρ:Ev}{Q:V->S->Prop}(h:W P (fun F=>evM P.K F x ρ) Q E s):W P (fun F=>F.ev x ρ) Q E s:=W.stepD h
theorem W.tr{x:Expr}{ρ:Ev}{Q:Bool->S->Prop}(h:W P (fun F=>trM F x ρ) Q E s):W P (fun F=>F.tr x ρ) Q E s:=W.stepD h
theorem W.exs{b:List Stmt}{ρ:Ev}{Q:Flow->S->Prop}(h:W P (fun F=>e_ P.K F b ρ) Q E s):W P (fun F=>F.exs b ρ) Q E s:=W.stepD h
theorem W.wh{t:Expr}{b:List Stmt}{ρ:Ev}{Q:Flow->S->Prop}(h:W P (fun F=>whM F t b ρ) Q E s):W P (fun F=>F.wh t b ρ) Q E s:=W.stepD h
theorem W.fo{t:Expr}{it:Nat}{b:List Stmt}{ρ:Ev}{Q:Flow->S->Prop}(h:W P (fun F=>foM P.K F t it b ρ) Q E s):W P (fun F=>F.fo t it b ρ) Q E s:=W.stepD h
theorem W.co{t e:Expr}{ifs:List Expr}{it acc:Nat}{ρ:Ev}{Q:Unit->S->Prop}(h:W P (fun F=>coM P.K F t e ifs it acc ρ) Q E s):W P (fun F=>F.co t e ifs it acc ρ) Q E s:=W.stepD h
theorem W.call{f:V}{args:List V}{d:Nat}{Q:V->S->Prop}(h:W P (fun F=>callM P.K P.prims P.cs F f args d) Q E s):W P (fun F=>F.call f args d) Q E s:=W.stepD h
end
end
section
section
variable {P:Prg} {E:Addr->S->Prop} {s:S} {ρ:Ev}
section
variable {Q:V->S->Prop}
theorem W.c_{c:Const}{k:Nat}{p:Pos}{v:V}(h:cl_ c=some v)(q:Q v s):W P (fun F=>F.ev (.Constant c k p) ρ) Q E s:=W.ev (W.opt' h q)
theorem W.local{x:Str}{p:Pos}{v:V}(hx:ρ.scope.names.lookup x=some .local)(hd:x≠"__debug__")(hv:s.l.lookup x=some v)(q:Q v s):W P (fun F=>F.ev (.Name x p) ρ) Q E s:=
 W.ev ((W.pure (P:=P) q).eq fun F=>by
  show loadM P.K ρ x s=_;unfold loadM getL;rw [if_neg hd,hx];dsimp only;rw [hv];rfl)
theorem W.cellV{x:Str}{p:Pos}{n:Nat}{v:V}(hx:ρ.scope.names.lookup x=some .cell\/ρ.scope.names.lookup x=some .free)(hd:x≠"__debug__")(hc:x≠"__classdict__")(hn:ρ.cells.lookup x=some n)(hv:s.h[n]? =some (.cell (some v)))(q:Q v s):W P (fun F=>F.ev (.Name x p) ρ) Q E s:=
 W.ev ((W.pure (P:=P) q).eq fun F=>by
  show loadM P.K ρ x s=_;unfold loadM cellM;rcases hx with hx | hx <;>
  ·rw [if_neg hd,hx];dsimp only;rw [if_neg hc,hn];show M.bind (Mine.opt (some n)) _ s=_;unfold M.bind Mine.opt;show M.bind (Mine.geto n) _ s=_;unfold M.bind Mine.geto;rw [hv])
theorem W.glob{x:Str}{p:Pos}{v:V}(hx:ρ.scope.names.lookup x=some .globalImplicit)(hd:x≠"__debug__")(hv:gd_ P.K x=some v)(q:Q v s):W P (fun F=>F.ev (.Name x p) ρ) Q E s:=
 W.ev ((W.pure (P:=P) q).eq fun F=>by
  show loadM P.K ρ x s=_;unfold loadM;rw [if_neg hd,hx];dsimp only;rw [hv];rfl)
theorem W.b_{l r:Expr}{op:Operator}{p:Pos}(h:W P (fun F=>F.ev l ρ) (fun a s1=>W P (fun F=>F.ev r ρ) (fun b s2=>W P (fun _=>binM op a b) Q E s2) E s1) E s):W P (fun F=>F.ev (.BinOp l op r p) ρ) Q E s:=
 W.ev (W.bind (h.post fun _ _ h=>W.bind h))
theorem W.not{x:Expr}{p:Pos}(h:W P (fun F=>F.ev x ρ) (fun v s1=>W P (fun _=>tb_ v) (fun b s2=>Q (.bool !b) s2) E s1) E s):W P (fun F=>F.ev (.UnaryOp .Not x p) ρ) Q E s:=
 W.ev (W.bind (h.post fun _ _ h=>W.bind (h.post fun _ _ h=>W.pure h)))
theorem W.neg{x:Expr}{p:Pos}(h:W P (fun F=>F.ev x ρ) (fun v s1=>∃ i,v= .int i/\Q (.int (-i)) s1) E s):W P (fun F=>F.ev (.UnaryOp .USub x p) ρ) Q E s:=
 W.ev (W.bind (h.post fun _ _ ⟨i,e,h⟩=>by subst e;exact W.pure h))
theorem W.ifexp{t b o:Expr}{p:Pos}(h:W P (fun F=>F.tr t ρ) (fun c s1=>if c=true then W P (fun F=>F.ev b ρ) Q E s1 else W P (fun F=>F.ev o ρ) Q E s1) E s):W P (fun F=>F.ev (.IfExp t b o p) ρ) Q E s:=
 W.ev (W.bind (h.post fun c s1 h=>by cases c <;> exact h))
theorem W.dict0{p:Pos}(q:Q (.ref s.h.length) {s with h:=s.h++ [.dict [] 0]}):W P (fun F=>F.ev (.Dict [] [] p) ρ) Q E s:=W.ev (W.bind (W.alloc (W.pure q)))
theorem W.dict1{k v:Expr}{p:Pos}(h:W P (fun F=>F.ev k ρ) (fun a s1=>W P (fun F=>F.ev v ρ) (fun b s2=>W P (fun _=>putItemM s.h.length a b) (fun _ s3=>Q (.ref s.h.length) s3) E s2) E s1) E {s with h:=s.h++ [.dict [] 0]}):W P (fun F=>F.ev (.Dict [some k] [v] p) ρ) Q E s:=
 W.ev (W.bind (W.alloc (W.bind (h.post fun _ _ h=>W.bind (h.post fun _ _ h=>W.bind (h.post fun _ _ h=>W.pure h))))))
def WL(P:Prg)(ρ:Ev)(E:Addr->S->Prop):List Expr->(List V->S->Prop)->S->Prop
 | [],Q,s=>Q [] s
 | x::r,Q,s=>W P (fun F=>F.ev x ρ) (fun v s1=>WL P ρ E r (fun vs s2=>Q (v::vs) s2) s1) E s
theorem W.evs:∀ {xs:List Expr} {Q:List V->S->Prop} {s:S},xs.all na_=true->WL P ρ E xs Q s->W P (fun F=>evs F xs ρ) Q E s
 | [],Q,s,_,h=>W.pure h
 | x::r,Q,s,hn,h=>by
  rw [List.all_cons,Bool.and_eq_true] at hn;refine W.eq (m:=fun F=>F.ev x ρ >>=fun v=>Mine.evs F r ρ >>=fun l=>Pure.pure (v::l)) (W.bind (W.post h fun v s1 h=>W.bind ((W.evs hn.2 h).post fun _ _ h=>W.pure h))) fun F=>?_;cases x <;> first | rfl | cases hn.1
theorem W.list{xs:List Expr}{p:Pos}(hl:decide (xs.length<=1000)=true)(hn:xs.all na_=true)(h:WL P ρ E xs (fun vs s1=>Q (.ref s1.h.length) {s1 with h:=s1.h++ [.list vs]}) s):W P (fun F=>F.ev (.List xs p) ρ) Q E s:=
 W.ev (W.n_ hl (W.bind ((W.evs hn h).post fun _ _ h=>W.bind (W.alloc (W.pure h)))))
theorem W.tuple{xs:List Expr}{k:Nat}{p:Pos}(hl:decide (xs.length<=1000)=true)(hn:xs.all na_=true)(h:WL P ρ E xs (fun vs s1=>Q (.ref s1.h.length) {s1 with h:=s1.h++ [.tup vs]}) s):W P (fun F=>F.ev (.Tuple xs k p) ρ) Q E s:=
 W.ev (W.n_ hl (W.bind ((W.evs hn h).post fun _ _ h=>W.bind (W.alloc (W.pure h)))))
theorem W.cmp1{l r:Expr}{op:CmpOp}{p:Pos}(hn:nb_ r=true)(h:W P (fun F=>F.ev l ρ) (fun a s1=>W P (fun F=>F.ev r ρ) (fun b s2=>W P (fun _=>cmpM op a b) (fun k s3=>Q (.bool k) s3) E s2) E s1) E s):W P (fun F=>F.ev (.Compare l [op] [r] p) ρ) Q E s:=
 W.ev (W.n_ (by simp [hn]) (W.bind (h.post fun _ _ h=>W.bind (W.bind (h.post fun _ _ h=>h.post fun _ _ h=>W.pure h)))))
theorem W.a_{o:Expr}{name:Str}{p:Pos}(hp:pf_ o=true)(h:W P (fun F=>F.ev o ρ) (fun v s1=>W P (fun _=>getAttrM P.K v name) Q E s1) E s):W P (fun F=>F.ev (.Attribute o name p) ρ) Q E s:=
 W.ev (W.n_ hp (W.bind h))
theorem W.item{o i:Expr}{p:Pos}(hi:∀ a b c d,i≠ .Slice a b c d)(h:W P (fun F=>F.ev o ρ) (fun a s1=>W P (fun F=>F.ev i ρ) (fun b s2=>W P (fun _=>itemM a b) Q E s2) E s1) E s):W P (fun F=>F.ev (.Subscript o i p) ρ) Q E s:=by
 refine W.ev (W.eq (m:=fun F=>F.ev o ρ >>=fun ov=>F.ev i ρ >>=fun iv=>itemM ov iv) (W.bind (h.post fun _ _ h=>W.bind h)) fun F=>?_);cases i <;> first | rfl | exact absurd rfl (hi _ _ _ _)
theorem W.slice{o:Expr}{lo hi st:Option Expr}{p p':Pos}(h:W P (fun F=>F.ev o ρ) (fun a s1=>W P (fun F=>optE F lo ρ) (fun l s2=>W P (fun F=>optE F hi ρ) (fun u s3=>W P (fun F=>optE F st ρ) (fun t s4=>W P (fun _=>sliceM a l u t) Q E s4) E s3) E s2) E s1) E s):W P (fun F=>F.ev (.Subscript o (.Slice lo hi st p') p) ρ) Q E s:=
 W.ev (W.bind (h.post fun _ _ h=>W.bind (h.post fun _ _ h=>W.bind (h.post fun _ _ h=>W.bind h))))
theorem W.optN(q:Q .none s):W P (fun F=>optE F none ρ) Q E s:=W.pure q
theorem W.optS{x:Expr}(h:W P (fun F=>F.ev x ρ) Q E s):W P (fun F=>optE F (some x) ρ) Q E s:=h
theorem W.callN{f:Expr}{args:List Expr}{p:Pos}(hf:∀ a b c,f≠ .Attribute a b c)(hl:decide (args.length < 20)=true)(hn:args.all na_=true)(h:W P (fun F=>F.ev f ρ) (fun fv s1=>WL P ρ E args (fun vs s2=>cj_ P.K fv s2=some (.ok (),s2)/\W P (fun F=>F.call fv vs ρ.d) Q E s2) s1) E s):
  W P (fun F=>F.ev (.Call f args [] p) ρ) Q E s:=by
 have hk:(List.isEmpty ([]:List Keyword) && decide (args.length < 20) && args.all na_)=true:=by rw [hl,hn];rfl
 refine W.ev (W.eq (m:=fun F=>Mine.need (List.isEmpty ([]:List Keyword) && decide (args.length < 20) && args.all na_) >>=fun _=>F.ev f ρ >>=fun fv=>Mine.evs F args ρ >>=fun vs=>cj_ P.K fv >>=fun _=>F.call fv vs ρ.d) (W.n_ hk (W.bind (h.post fun fv _ h=>W.bind ((W.evs hn h).post fun vs s2 ⟨h1,h2⟩=>?_)))) fun F=>?_)
 ·exact W.bind (W.ret (fun F=>h1) h2)
 ·cases f <;> first | rfl | exact absurd rfl (hf _ _ _)
theorem W.cc_{o:Expr}{name:Str}{apos:Pos}{args:List Expr}{p:Pos}(hp:(pf_ o && apos.endLine==p.line)=true)(hl:decide (args.length < 20)=true)(hn:args.all na_=true)
  (h:W P (fun F=>F.ev o ρ) (fun ov s1=>W P (fun _=>ma_ P.K ov name) (fun fv s2=>WL P ρ E args (fun vs s3=>cj_ P.K fv.1 s3=some (.ok (),s3)/\W P (fun F=>F.call fv.1 (fv.2++vs) ρ.d) Q E s3) s2) E s1) E s):
  W P (fun F=>F.ev (.Call (.Attribute o name apos) args [] p) ρ) Q E s:=by
 have hk:(List.isEmpty ([]:List Keyword) && decide (args.length < 20) && args.all na_)=true:=by rw [hl,hn];rfl
 exact W.ev (W.n_ hk (W.n_ hp (W.bind (h.post fun ov _ h=>W.bind (h.post fun fv _ h=>W.bind ((W.evs hn h).post fun vs s2 ⟨h1,h2⟩=>W.bind (W.ret (fun F=>h1) h2)))))))
theorem W.lambda{body:Expr}{scope:Scope}{p:Pos}{cells:List (Str×Nat)}(hq:ρ.lq.isSome=true)(hc:cf_ ρ scope.names [] s=some (.ok cells,s))(q:Q (.ref s.h.length) {s with h:=s.h++ [.lam body scope cells]}):W P (fun F=>F.ev (.Lambda ⟨[],[],none,[],[],none,[]⟩ body scope p) ρ) Q E s:=
 W.ev (W.n_ hq (W.bind (W.ret (fun _=>hc) (W.bind (W.alloc (W.pure q))))))
theorem W.and{x y:Expr}{r:List Expr}{p:Pos}(h:W P (fun F=>F.ev x ρ) (fun v s1=>W P (fun _=>tb_ v) (fun b s2=>if b=true then W P (fun F=>boolM F ρ .And (y::r)) Q E s2 else Q v s2) E s1) E s):W P (fun F=>F.ev (.BoolOp .And (x::y::r) p) ρ) Q E s:=
 W.ev (W.bind (h.post fun v _ h=>W.bind (h.post fun b _ h=>by cases b;exact W.pure h;exact h)))
theorem W.or{x y:Expr}{r:List Expr}{p:Pos}(h:W P (fun F=>F.ev x ρ) (fun v s1=>W P (fun _=>tb_ v) (fun b s2=>if b=true then Q v s2 else W P (fun F=>boolM F ρ .Or (y::r)) Q E s2) E s1) E s):W P (fun F=>F.ev (.BoolOp .Or (x::y::r) p) ρ) Q E s:=
 W.ev (W.bind (h.post fun v _ h=>W.bind (h.post fun b _ h=>by cases b;exact h;exact W.pure h)))
theorem W.bool1{x:Expr}{op:BoolOp}(h:W P (fun F=>F.ev x ρ) Q E s):W P (fun F=>boolM F ρ op [x]) Q E s:=h
end
end
end
section
section
variable {P:Prg} {E:Addr->S->Prop} {s:S} {ρ:Ev}
section
variable {Q:Bool->S->Prop}
theorem W.trNot{x:Expr}{p:Pos}(h:W P (fun F=>F.tr x ρ) (fun b s1=>Q (!b) s1) E s):W P (fun F=>F.tr (.UnaryOp .Not x p) ρ) Q E s:=W.tr (W.bind (h.post fun _ _ h=>W.pure h))
theorem W.trIf{t b o:Expr}{p:Pos}(h:W P (fun F=>F.tr t ρ) (fun c s1=>if c=true then W P (fun F=>F.tr b ρ) Q E s1 else W P (fun F=>F.tr o ρ) Q E s1) E s):W P (fun F=>F.tr (.IfExp t b o p) ρ) Q E s:=
 W.tr (W.bind (h.post fun c s1 h=>by cases c <;> exact h))
theorem W.t_{l r:Expr}{op:CmpOp}{p:Pos}(hn:nb_ r=true)(h:W P (fun F=>F.ev l ρ) (fun a s1=>W P (fun F=>F.ev r ρ) (fun b s2=>W P (fun _=>cmpM op a b) Q E s2) E s1) E s):W P (fun F=>F.tr (.Compare l [op] [r] p) ρ) Q E s:=
 W.tr (W.n_ (by simp [hn]) (W.bind (h.post fun _ _ h=>W.bind h)))
theorem W.trCmp2{l r r2:Expr}{op op2:CmpOp}{p:Pos}(hn:(nb_ r && nb_ r2)=true)(h:W P (fun F=>F.ev l ρ) (fun a s1=>W P (fun F=>F.ev r ρ) (fun b s2=>W P (fun _=>cmpM op a b) (fun k s3=>if k=true then W P (fun F=>F.ev r2 ρ) (fun c s4=>W P (fun _=>cmpM op2 b c) Q E s4) E s3 else Q false s3) E s2) E s1) E s):
  W P (fun F=>F.tr (.Compare l [op,op2] [r,r2] p) ρ) Q E s:=
 W.tr (W.n_ (by simpa using hn) (W.bind (h.post fun _ _ h=>W.bind (h.post fun _ _ h=>W.bind (h.post fun k _ h=>by cases k;exact W.pure h;exact W.bind h)))))
theorem W.trAnd{xs:List Expr}{p:Pos}(h:W P (fun F=>allTrM F ρ .And xs) Q E s):W P (fun F=>F.tr (.BoolOp .And xs p) ρ) Q E s:=W.tr h
theorem W.trOr{xs:List Expr}{p:Pos}(h:W P (fun F=>allTrM F ρ .Or xs) Q E s):W P (fun F=>F.tr (.BoolOp .Or xs p) ρ) Q E s:=W.tr h
theorem W.all0(q:Q true s):W P (fun F=>allTrM F ρ .And []) Q E s:=W.pure (a:=true) q
theorem W.any0(q:Q false s):W P (fun F=>allTrM F ρ .Or []) Q E s:=W.pure (a:=false) q
theorem W.allC{x:Expr}{r:List Expr}(h:W P (fun F=>F.tr x ρ) (fun b s1=>if b=true then W P (fun F=>allTrM F ρ .And r) Q E s1 else Q false s1) E s):W P (fun F=>allTrM F ρ .And (x::r)) Q E s:=
 W.bind (h.post fun b _ h=>by cases b;exact W.pure h;exact h)
theorem W.anyC{x:Expr}{r:List Expr}(h:W P (fun F=>F.tr x ρ) (fun b s1=>if b=true then Q true s1 else W P (fun F=>allTrM F ρ .Or r) Q E s1) E s):W P (fun F=>allTrM F ρ .Or (x::r)) Q E s:=
 W.bind (h.post fun b _ h=>by cases b;exact h;exact W.pure h)
def plainTest:Expr->Bool
 | .UnaryOp .Not _ _ | .BoolOp .. | .IfExp .. | .Compare ..=>false
 | _=>true
theorem W.ta_{x:Expr}(hx:plainTest x=true)(h:W P (fun F=>F.ev x ρ) (fun v s1=>W P (fun _=>tb_ v) Q E s1) E s):W P (fun F=>F.tr x ρ) Q E s:=by
 refine W.tr (W.eq (m:=fun F=>F.ev x ρ >>=fun v=>tb_ v) (W.bind h) fun F=>?_);cases x <;> first | rfl | cases hx | skip
 rename_i op x p;cases op <;> first | rfl | cases hx
end
section
variable {Q:Flow->S->Prop}
theorem W.stN(q:Q .next s):W P (fun F=>e_ P.K F [] ρ) Q E s:=W.pure q
theorem W.stC{x:Stmt}{r:List Stmt}(h:W P (fun F=>eb_ P.K F x ρ) (fun f s1=>match f with | .next=>W P (fun F=>e_ P.K F r ρ) Q E s1 | .ret v=>Q (.ret v) s1) E s):W P (fun F=>e_ P.K F (x::r) ρ) Q E s:=
 W.bind (h.post fun f _ h=>by cases f;exact h;exact W.pure h)
theorem W.sc_{x:Expr}{p:Pos}(hn:noComp x=true)(h:W P (fun F=>F.ev x ρ) (fun _ s1=>Q .next s1) E s):W P (fun F=>eb_ P.K F (.Expr x p) ρ) Q E s:=W.n_ hn (W.bind (h.post fun _ _ h=>W.pure h))
theorem W.s_{x:Expr}{p:Pos}(h:W P (fun F=>F.ev x ρ) (fun v s1=>Q (.ret v) s1) E s):W P (fun F=>eb_ P.K F (.Return (some x) p) ρ) Q E s:=W.bind (h.post fun _ _ h=>W.pure h)
theorem W.sAssign{t x:Expr}{p:Pos}(hn:noComp x=true)(hs:swapOf [t] x ρ=some none)(h:W P (fun F=>F.ev x ρ) (fun v s1=>W P (fun F=>aa_ P.K F t ρ v) (fun _ s2=>Q .next s2) E s1) E s):W P (fun F=>eb_ P.K F (.Assign [t] x p) ρ) Q E s:=
 W.n_ hn (W.bind (h.post fun v s1 h=>by
  refine W.eq (m:=fun F=>aa_ P.K F t ρ v >>=fun _=>Pure.pure Flow.next) (W.bind (h.post fun _ _ h=>W.pure h)) fun F=>?_;rw [hs]))
theorem W.sSwap{t x:Expr}{p:Pos}{names:List Str}(hn:noComp x=true)(hs:swapOf [t] x ρ=some (some names))(h:W P (fun F=>F.ev x ρ) (fun v s1=>∃ vs,itemsM v s1=some (.ok vs,s1)/\vs.length=names.length/\W P (fun _=>sr_ ρ names.reverse vs.reverse) (fun _ s2=>Q .next s2) E s1) E s):W P (fun F=>eb_ P.K F (.Assign [t] x p) ρ) Q E s:=
 W.n_ hn (W.bind (h.post fun v s1 ⟨vs,h1,h2,h⟩=>by
  refine W.eq (m:=fun F=>itemsM v >>=fun vs=>Mine.need (decide (vs.length=names.length)) >>=fun _=>sr_ ρ names.reverse vs.reverse >>=fun _=>Pure.pure Flow.next) (W.bind (W.ret (fun _=>h1) (W.n_ (by simp [h2]) (W.bind (h.post fun _ _ h=>W.pure h))))) fun F=>?_;rw [hs]))
theorem W.sIf{t:Expr}{b o:List Stmt}{p:Pos}(h:W P (fun F=>F.tr t ρ) (fun c s1=>if c=true then W P (fun F=>e_ P.K F b ρ) Q E s1 else W P (fun F=>e_ P.K F o ρ) Q E s1) E s):W P (fun F=>eb_ P.K F (.If t b o p) ρ) Q E s:=
 W.bind (h.post fun c _ h=>by cases c;exact W.exs h;exact W.exs h)
theorem W.sWhile{t:Expr}{b:List Stmt}{p:Pos}(h:W P (fun F=>F.wh t b ρ) Q E s):W P (fun F=>eb_ P.K F (.While t b [] p) ρ) Q E s:=h
theorem W.whT{t:Expr}{b:List Stmt}(h:W P (fun F=>F.tr t ρ) (fun c s1=>if c=true then W P (fun F=>e_ P.K F b ρ) (fun f s2=>match f with | .next=>W P (fun F=>F.wh t b ρ) Q E s2 | .ret v=>Q (.ret v) s2) E s1 else Q .next s1) E s):W P (fun F=>F.wh t b ρ) Q E s:=
 W.wh (W.bind (h.post fun c s1 h=>by
  cases c with
  | false=>exact W.pure h
  | true=>exact W.bind ((W.exs h).post fun f _ h=>by cases f;exact h;exact W.pure h)))
theorem W.sFor{t i:Expr}{b:List Stmt}{p:Pos}(hn:nb_ i=true)(h:W P (fun F=>F.ev i ρ) (fun v s1=>W P (fun _=>id_ v) (fun it s2=>W P (fun F=>F.fo t it b ρ) Q E s2) E s1) E s):W P (fun F=>eb_ P.K F (.For t i b [] p) ρ) Q E s:=
 W.n_ hn (W.bind (h.post fun _ _ h=>W.bind h))
theorem W.foT{t:Expr}{it:Nat}{b:List Stmt}(h:W P (fun _=>nextM it) (fun o s1=>match o with
   | none=>Q .next s1
   | some v=>W P (fun _=>ownM t it v) (fun _ s2=>W P (fun F=>aa_ P.K F t ρ v) (fun _ s3=>W P (fun F=>e_ P.K F b ρ) (fun f s4=>match f with | .next=>W P (fun F=>F.fo t it b ρ) Q E s4 | .ret v=>Q (.ret v) s4) E s3) E s2) E s1) E s):W P (fun F=>F.fo t it b ρ) Q E s:=
 W.fo (W.bind (h.post fun o s1 h=>by
  cases o with
  | none=>exact W.pure h
  | some v=>exact W.bind (h.post fun _ _ h=>W.bind (h.post fun _ _ h=>W.bind ((W.exs h).post fun f _ h=>by cases f;exact h;exact W.pure h)))))
theorem W.sDelete{o i:Expr}{p p':Pos}(h:W P (fun F=>F.ev o ρ) (fun a s1=>W P (fun F=>F.ev i ρ) (fun b s2=>W P (fun _=>dc_ a b) (fun _ s3=>Q .next s3) E s2) E s1) E s):W P (fun F=>eb_ P.K F (.Delete [.Subscript o i p] p') ρ) Q E s:=
 W.bind (h.post fun _ _ h=>W.bind (h.post fun _ _ h=>W.bind (h.post fun _ _ h=>W.pure h)))
theorem W.sRaise{x:Str}{a:Expr}{p1 p2 p3:Pos}{C:Addr}(hg:gd_ P.K x=some (.glob C))(hx:ρ.scope.names.lookup x=some .globalImplicit)(hn:(excOk P.K C && na_ a && x !="__debug__")=true)(h:W P (fun F=>F.ev a ρ) (fun _ s1=>E C s1) E s):W P (fun F=>eb_ P.K F (.Raise (some (.Call (.Name x p1) [a] [] p2)) none p3) ρ) Q E s:=by
 refine W.eq (m:=fun F=>Mine.need (excOk P.K C && na_ a && x !="__debug__") >>=fun _=>F.ev a ρ >>=fun _=>raiseM C) (W.n_ hn (W.bind (h.post fun _ s1 h=>W.thr (fun _=>rfl) h))) fun F=>?_;show raiseE P.K F x a ρ s=_;unfold raiseE;rw [hg,hx]
theorem W.sTry{b:List Stmt}{h0:ExceptHandler}{hs:List ExceptHandler}{p:Pos}(hst:ρ.stm=true)(h:W P (fun F=>e_ P.K F b ρ) Q (fun C s1=>∃ u v,(h_ P.K ρ C (h0::hs)).bind rc_=some (u,v)/\Q (.ret (.ref s1.h.length)) {s1 with h:=s1.h++ [.tup [u,v]]}) s):W P (fun F=>eb_ P.K F (.Try b (h0::hs) [] [] p) ρ) Q E s:=by
 refine W.n_ hst (W.bind (W.attempt ?_));refine (W.exs h).mono (fun f s1 h=>W.pure h) fun C s1 ⟨u,v,h1,h2⟩=>?_;refine W.eq (m:=fun F=>Mine.alloc (.tup [u,v]) >>=fun n=>Pure.pure (Flow.ret (.ref n))) (W.bind (W.alloc (W.pure h2))) fun F=>?_;dsimp only;rw [h1]
end
section
variable {Q:Unit->S->Prop}
theorem W.asN{x:Str}{p:Pos}{v:V}(hx:ρ.scope.names.lookup x=some .local)(q:Q () {s with l:=putA x v s.l}):W P (fun F=>aa_ P.K F (.Name x p) ρ v) Q E s:=
 W.ret (fun F=>by show si_ ρ x v s=_;unfold si_;rw [hx];rfl) q
theorem W.asC{x:Str}{p:Pos}{v:V}{n:Nat}{w:Option V}(hx:ρ.scope.names.lookup x=some .cell)(hn:ρ.cells.lookup x=some n)(hc:s.h[n]? =some (.cell w))(q:Q () {s with h:=s.h.set n (.cell (some v))}):W P (fun F=>aa_ P.K F (.Name x p) ρ v) Q E s:=
 W.ret (fun F=>by
  show si_ ρ x v s=_;unfold si_ cellM;rw [hx,hn];show M.bind (Mine.opt (some n)) _ s=_;unfold M.bind Mine.opt;show M.bind (Mine.geto n) _ s=_;unfold M.bind Mine.geto;rw [hc];dsimp only;show Mine.seto n _ s=_;unfold Mine.seto;rw [if_pos (List.getElem?_eq_some_iff.mp hc).1]) q
theorem W.asA{o:Expr}{attr:Str}{p:Pos}{v:V}(h:W P (fun F=>F.ev o ρ) (fun a s1=>W P (fun _=>setAttrM P.K a attr v) Q E s1) E s):W P (fun F=>aa_ P.K F (.Attribute o attr p) ρ v) Q E s:=W.bind h
theorem W.asI{o i:Expr}{p:Pos}{v:V}(hi:∀ a b c d,i≠ .Slice a b c d)(h:W P (fun F=>F.ev o ρ) (fun a s1=>W P (fun F=>F.ev i ρ) (fun b s2=>W P (fun _=>sk_ a b v) Q E s2) E s1) E s):W P (fun F=>aa_ P.K F (.Subscript o i p) ρ v) Q E s:=by
 refine W.eq (m:=fun F=>F.ev o ρ >>=fun ov=>F.ev i ρ >>=fun iv=>sk_ ov iv v) (W.bind (h.post fun _ _ h=>W.bind h)) fun F=>?_;cases i <;> first | rfl | exact absurd rfl (hi _ _ _ _)
theorem W.asCut{o:Expr}{lo hi:Option Expr}{p p':Pos}{v:V}(h:W P (fun F=>F.ev o ρ) (fun a s1=>W P (fun F=>optE F lo ρ) (fun l s2=>W P (fun F=>optE F hi ρ) (fun u s3=>W P (fun _=>setCutM a l u v) Q E s3) E s2) E s1) E s):W P (fun F=>aa_ P.K F (.Subscript o (.Slice lo hi none p') p) ρ v) Q E s:=
 W.bind (h.post fun _ _ h=>W.bind (h.post fun _ _ h=>W.bind h))
theorem W.asT{xs:List Expr}{k:Nat}{p:Pos}{v:V}{vs:List V}(hv:itemsM v s=some (.ok vs,s))(hl:(decide (vs.length=xs.length) && xs.all na_)=true)(h:W P (fun F=>ab_ P.K F xs ρ vs) Q E s):W P (fun F=>aa_ P.K F (.Tuple xs k p) ρ v) Q E s:=
 W.bind (W.ret (fun _=>hv) (W.n_ hl h))
theorem W.as0(q:Q () s):W P (fun F=>ab_ P.K F [] ρ []) Q E s:=W.pure q
theorem W.as1{x:Expr}{xs:List Expr}{v:V}{vs:List V}(hx:∀ a b c,x≠ .Tuple a b c)(h:W P (fun F=>aa_ P.K F x ρ v) (fun _ s1=>W P (fun F=>ab_ P.K F xs ρ vs) Q E s1) E s):W P (fun F=>ab_ P.K F (x::xs) ρ (v::vs)) Q E s:=
 W.bind (W.eq h fun F=>by cases x <;> first | rfl | exact absurd rfl (hx _ _ _))
end
end
end
section
section
variable {P:Prg} {E:Addr->S->Prop} {s:S} {ρ:Ev}
theorem W.fn{a:Addr}{c:Value}{dd:Option Addr}{sl:Array (Option Value)}{fd:FuncData}{body:List Stmt}{args vs:List V}{d:Nat}{l:List (Str×V)}{sc:Scope}{lq:Option (Addr×Addr×Str)}{Q:V->S->Prop}(hp:P.prims a args=none)(hK:P.K.lookup a=some ⟨c,dd,.func fd,sl⟩)(hb:fd.body= .stmts body)(hf:ff_ P.K fd args=some vs)(hok:fdOk P.K fd=true)
  (hs:fd.scope=sc) (hq:lqOf P.cs fd=lq) (hc:∀ s:S,ch_ sc.names [] s=some (.ok [],s)) (hl:∀ h,bc_ {scope:=sc,cells:= [],d,lq:=lq,stm:=true} ((fd.params.args.map (·.arg)).zip vs) {h:=h,l:= []}=some (.ok (),{h:=h,l:=l}))
  (h:W P (fun F=>e_ P.K F body {scope:=sc,cells:= [],d,lq:=lq,stm:=true}) (fun f s1=>match f with | .next=>Q .none {s1 with l:=s.l} | .ret v=>Q v {s1 with l:=s.l}) (fun C s1=>E C {s1 with l:=s.l}) {h:=s.h,l:=l}):W P (fun F=>F.call (.glob a) args (d+1)) Q E s:=by
 subst hs hq;refine W.call (W.eq (m:=fun F=>ck_ P.K P.cs F fd args d) ?_ fun F=>?_)
 ·refine W.eq (m:=fun F=>Mine.need (fdOk P.K fd) >>=fun _=>Mine.within [] (ch_ fd.scope.names [] >>=fun cells=>bc_ {scope:=fd.scope,cells,d,lq:=lqOf P.cs fd,stm:=true} ((fd.params.args.map (·.arg)).zip vs) >>=fun _=>F.exs body {scope:=fd.scope,cells,d,lq:=lqOf P.cs fd,stm:=true} >>=fun f=>match f with | .next=>Pure.pure V.none | .ret v=>Pure.pure v)) (W.n_ hok (W.within (W.bind (W.ret (fun _=>hc _) (W.bind (W.ret (fun _=>hl _) (W.bind ((W.exs h).post fun f s1 h=>?_)))))))) fun F=>?_
  ·cases f <;> exact W.pure h
  ·show ck_ P.K P.cs F fd args d s=_;unfold ck_;rw [hb,hf];try rfl
 ·show callM P.K P.prims P.cs F (.glob a) args (d+1) s=_;unfold callM;dsimp only;rw [hp];dsimp only;rw [hK]
theorem W.fnC{a:Addr}{c:Value}{dd:Option Addr}{sl:Array (Option Value)}{fd:FuncData}{body:List Stmt}{args vs:List V}{d:Nat}{cells:List (Str×Nat)}{s1:S}{sc:Scope}{lq:Option (Addr×Addr×Str)}{Q:V->S->Prop}(hp:P.prims a args=none)(hK:P.K.lookup a=some ⟨c,dd,.func fd,sl⟩)(hb:fd.body= .stmts body)(hf:ff_ P.K fd args=some vs)(hok:fdOk P.K fd=true)
  (hs:fd.scope=sc) (hq:lqOf P.cs fd=lq) (hc:(ch_ sc.names [] >>=fun cells=>bc_ {scope:=sc,cells,d,lq:=lq,stm:=true} ((fd.params.args.map (·.arg)).zip vs) >>=fun _=>Pure.pure cells) {s with l:= []}=some (.ok cells,s1))
  (h:W P (fun F=>e_ P.K F body {scope:=sc,cells,d,lq:=lq,stm:=true}) (fun f s2=>match f with | .next=>Q .none {s2 with l:=s.l} | .ret v=>Q v {s2 with l:=s.l}) (fun C s2=>E C {s2 with l:=s.l}) s1):W P (fun F=>F.call (.glob a) args (d+1)) Q E s:=by
 subst hs hq;have hc2:∃ s0,ch_ fd.scope.names [] {s with l:= []}=some (.ok cells,s0)/\bc_ {scope:=fd.scope,cells,d,lq:=lqOf P.cs fd,stm:=true} ((fd.params.args.map (·.arg)).zip vs) s0=some (.ok (),s1):=by
  change M.bind _ _ _=_ at hc;unfold M.bind at hc;split at hc
  ·cases hc
  ·rename_i c0 s0 e1;change M.bind _ _ _=_ at hc;unfold M.bind at hc;split at hc
   ·cases hc
   ·rename_i u s2 e2;cases hc;exact ⟨s0,e1,e2⟩
   ·cases hc
  ·cases hc
 obtain ⟨s0,hc1,hb1⟩:=hc2;refine W.call (W.eq (m:=fun F=>ck_ P.K P.cs F fd args d) ?_ fun F=>?_)
 ·refine W.eq (m:=fun F=>Mine.need (fdOk P.K fd) >>=fun _=>Mine.within [] (ch_ fd.scope.names [] >>=fun cells=>bc_ {scope:=fd.scope,cells,d,lq:=lqOf P.cs fd,stm:=true} ((fd.params.args.map (·.arg)).zip vs) >>=fun _=>F.exs body {scope:=fd.scope,cells,d,lq:=lqOf P.cs fd,stm:=true} >>=fun f=>match f with | .next=>Pure.pure V.none | .ret v=>Pure.pure v)) (W.n_ hok (W.within (W.bind (W.ret (fun _=>hc1) (W.bind (W.ret (fun _=>hb1) (W.bind ((W.exs h).post fun f s1 h=>?_)))))))) fun F=>?_
  ·cases f <;> exact W.pure h
  ·show ck_ P.K P.cs F fd args d s=_;unfold ck_;rw [hb,hf];try rfl
 ·show callM P.K P.prims P.cs F (.glob a) args (d+1) s=_;unfold callM;dsimp only;rw [hp];dsimp only;rw [hK]
theorem W.prim{a:Addr}{args:List V}{d:Nat}{v:V}{Q:V->S->Prop}(hp:P.prims a args=some v)(q:Q v s):W P (fun F=>F.call (.glob a) args d) Q E s:=by
 refine W.call ((W.pure (P:=P) q).eq fun F=>?_);show callM P.K P.prims P.cs F (.glob a) args d s=_;unfold callM;dsimp only;rw [hp]
theorem W.lam{n d:Nat}{body:Expr}{scope:Scope}{cells:List (Str×Nat)}{Q:V->S->Prop}(hn:s.h[n]? =some (.lam body scope cells))(hk:(scope.kind== .function && !scope.isCoroutine && !scope.isGenerator && scope.names.all (fun p=>p.2 != .cell))=true)
  (h:W P (fun F=>F.ev body {scope,cells,d}) (fun v s1=>Q v {s1 with l:=s.l}) (fun C s1=>E C {s1 with l:=s.l}) {s with l:= []}):W P (fun F=>F.call (.ref n) [] (d+1)) Q E s:=
 W.call (W.eq (m:=fun F=>callLam F n d) (W.gc_ hn (W.n_ hk (W.within h))) fun F=>rfl)
theorem W.bi{id:String}{args:List V}{d:Nat}{Q:V->S->Prop}(h:W P (fun _=>cd_ id args) Q E s):W P (fun F=>F.call (.bi id) args d) Q E s:=W.call (W.eq h fun _=>rfl)
theorem W.ty{id:String}{args:List V}{d:Nat}{Q:V->S->Prop}(h:W P (fun _=>callTy id args) Q E s):W P (fun F=>F.call (.ty id) args d) Q E s:=W.call (W.eq h fun _=>rfl)
theorem W.fd{fd:FuncData}{body:List Stmt}{args vs:List V}{d:Nat}{l:List (Str×V)}{sc:Scope}{lq:Option (Addr×Addr×Str)}{Q:V->S->Prop}(hb:fd.body= .stmts body)(hf:ff_ P.K fd args=some vs)(hok:fdOk P.K fd=true)
  (hs:fd.scope=sc) (hq:lqOf P.cs fd=lq) (hc:∀ s:S,ch_ sc.names [] s=some (.ok [],s)) (hl:∀ h,bc_ {scope:=sc,cells:= [],d,lq:=lq,stm:=true} ((fd.params.args.map (·.arg)).zip vs) {h:=h,l:= []}=some (.ok (),{h:=h,l:=l}))
  (h:W P (fun F=>e_ P.K F body {scope:=sc,cells:= [],d,lq:=lq,stm:=true}) (fun f s1=>match f with | .next=>Q .none {s1 with l:=s.l} | .ret v=>Q v {s1 with l:=s.l}) (fun C s1=>E C {s1 with l:=s.l}) {h:=s.h,l:=l}):W P (fun F=>ck_ P.K P.cs F fd args d) Q E s:=by
 subst hs hq;refine W.eq (m:=fun F=>Mine.need (fdOk P.K fd) >>=fun _=>Mine.within [] (ch_ fd.scope.names [] >>=fun cells=>bc_ {scope:=fd.scope,cells,d,lq:=lqOf P.cs fd,stm:=true} ((fd.params.args.map (·.arg)).zip vs) >>=fun _=>F.exs body {scope:=fd.scope,cells,d,lq:=lqOf P.cs fd,stm:=true} >>=fun f=>match f with | .next=>Pure.pure V.none | .ret v=>Pure.pure v)) (W.n_ hok (W.within (W.bind (W.ret (fun _=>hc _) (W.bind (W.ret (fun _=>hl _) (W.bind ((W.exs h).post fun f s1 h=>?_)))))))) fun F=>?_
 ·cases f <;> exact W.pure h
 ·unfold ck_;rw [hb,hf];try rfl
theorem W.make{a fi:Addr}{c c2:Value}{dd dd2:Option Addr}{sl sl2:Array (Option Value)}{cd:ClassData}{fd:FuncData}{args:List V}{d:Nat}{Q:V->S->Prop}(hp:P.prims a args=none)(hK:P.K.lookup a=some ⟨c,dd,.cls cd,sl⟩)(hi:findIn P.K (.ref a) "__init__"=some (some (.ref fi)))
  (hK2:P.K.lookup fi=some ⟨c2,dd2,.func fd,sl2⟩) (hok:(makesIn P.K a && isFn P.K (.ref fi))=true)
  (h:W P (fun F=>ck_ P.K P.cs F fd (.ref (s.h.length+1)::args) d) (fun v s1=>v= .none/\Q (.ref (s.h.length+1)) s1) E {s with h:=s.h++ [.dict [] 0]++ [.inst a s.h.length]}):W P (fun F=>F.call (.glob a) args (d+2)) Q E s:=by
 refine W.call (W.eq (m:=fun F=>Mine.need (makesIn P.K a && isFn P.K (.ref fi)) >>=fun _=>Mine.alloc (.dict [] 0) >>=fun dx=>Mine.alloc (.inst a dx) >>=fun x=>ck_ P.K P.cs F fd (.ref x::args) d >>=fun r=>match r with | .none=>Pure.pure (V.ref x) | _=>Mine.fail)
  (W.n_ hok (W.bind (W.alloc (W.bind (W.alloc ?_))))) fun F=>?_)
 ·have e:(s.h++ [O.dict [] 0]).length=s.h.length+1:=by simp
  dsimp only;rw [e];exact W.bind (h.post fun v s1 ⟨h1,h2⟩=>by subst h1;exact W.pure h2)
 ·show callM P.K P.prims P.cs F (.glob a) args (d+2) s=_;unfold callM;dsimp only;rw [hp];dsimp only;rw [hK];dsimp only;unfold makeM;rw [hi];dsimp only;rw [hK2];try rfl
def getOk(K:Frag)(C:Addr)(name:Str):Bool:=match findIn K (.ref C) name with
 | some attr=>plainGet K C name && hasDictIn K C && noGet K attr
 | none=>false
theorem W.g_{n C d:Nat}{es:List (V×V)}{k:Nat}{name:Str}{v:V}{Q:V->S->Prop}(hn:s.h[n]? =some (.inst C d))(hd:s.h[d]? =some (.dict es k))(ho:getOk P.K C name=true)(hl:k_ (.str name) es=true)(hv:(f_ (.str name) es).bind handV=some v)(q:Q v s):
  W P (fun _=>getAttrM P.K (.ref n) name) Q E s:=by
 unfold getOk at ho;split at ho
 ·rename_i attr hf;refine W.gc_ hn (W.gc_ hd ?_);refine W.eq (m:=fun _=>Mine.need (plainGet P.K C name && hasDictIn P.K C && noGet P.K attr && k_ (.str name) es) >>=fun _=>Mine.opt ((f_ (.str name) es).bind handV)) (W.n_ (by rw [ho,hl];rfl) (W.opt' hv q)) fun F=>?_;dsimp only;rw [hf]
 ·cases ho
theorem W.p_{α:Type}{m:Fns->M α}{a:α}{Q:α->S->Prop}(hm:∀ F,m F=Pure.pure a)(q:Q a s):W P m Q E s:=(W.pure (P:=P) q).eq fun F=>by rw [hm]
end
end
section
section
variable {P:Prg} {E:Addr->S->Prop} {s:S} {ρ:Ev}
def mb_(K:Frag)(C:Addr)(name:Str)(f:Addr):Bool:=findIn K (.ref C) name==some (some (.ref f)) && plainGet K C name && isFn K (.ref f)
theorem W.m_{n C d f:Nat}{es:List (V×V)}{k:Nat}{name:Str}{Q:V×List V->S->Prop}(hn:s.h[n]? =some (.inst C d))(hd:s.h[d]? =some (.dict es k))(ho:mb_ P.K C name f=true)(hw:hasOwn name es=false)(hl:k_ (.str name) es=true)(q:Q (.glob f,[.ref n]) s):
  W P (fun _=>ma_ P.K (.ref n) name) Q E s:=by
 unfold mb_ at ho;simp only [Bool.and_eq_true,beq_iff_eq] at ho;obtain ⟨⟨o1,o2⟩,o3⟩:=ho;refine W.gc_ hn (W.gc_ hd ?_);refine W.eq (m:=fun _=>Mine.need (plainGet P.K C name && isFn P.K (.ref f) && !hasOwn name es && k_ (.str name) es) >>=fun _=>Pure.pure (V.glob f,[V.ref n])) (W.n_ (by rw [o2,o3,hw,hl];rfl) (W.pure q)) fun F=>?_;dsimp only;rw [o1]
theorem W.appendM{n:Nat}{vs:List V}{Q:V×List V->S->Prop}(hn:s.h[n]? =some (.list vs))(q:Q (.bi "list.append",[.ref n]) s):W P (fun _=>ma_ P.K (.ref n) "append") Q E s:=W.gc_ hn (W.pure q)
theorem W.insertM{n:Nat}{vs:List V}{Q:V×List V->S->Prop}(hn:s.h[n]? =some (.list vs))(q:Q (.bi "list.insert",[.ref n]) s):W P (fun _=>ma_ P.K (.ref n) "insert") Q E s:=W.gc_ hn (W.p_ (fun _=>rfl) q)
theorem W.popM{n:Nat}{vs:List V}{Q:V×List V->S->Prop}(hn:s.h[n]? =some (.list vs))(q:Q (.bi "list.pop",[.ref n]) s):W P (fun _=>ma_ P.K (.ref n) "pop") Q E s:=W.gc_ hn (W.p_ (fun _=>rfl) q)
theorem W.getM{n k:Nat}{es:List (V×V)}{Q:V×List V->S->Prop}(hn:s.h[n]? =some (.dict es k))(q:Q (.bi "dict.get",[.ref n]) s):W P (fun _=>ma_ P.K (.ref n) "get") Q E s:=W.gc_ hn (W.p_ (fun _=>rfl) q)
theorem W.dpopM{n k:Nat}{es:List (V×V)}{Q:V×List V->S->Prop}(hn:s.h[n]? =some (.dict es k))(q:Q (.bi "dict.pop",[.ref n]) s):W P (fun _=>ma_ P.K (.ref n) "pop") Q E s:=W.gc_ hn (W.p_ (fun _=>rfl) q)
theorem W.itemD{n k:Nat}{i v:V}{es:List (V×V)}{Q:V->S->Prop}(hn:s.h[n]? =some (.dict es k))(hk:(kd_ i && k_ i es)=true)(hv:f_ i es=some v)(q:Q v s):W P (fun _=>itemM (.ref n) i) Q E s:=
 W.gc_ hn (W.n_ hk (W.opt' hv q))
theorem W.itemL{n:Nat}{i:Int}{v:V}{vs:List V}{Q:V->S->Prop}(hn:s.h[n]? =some (.list vs))(hi:0<=i/\i < 2 ^ 62)(hv:vs[i.toNat]? =some v)(q:Q v s):W P (fun _=>itemM (.ref n) (.int i)) Q E s:=
 W.gc_ hn (W.n_ (decide_eq_true hi) (W.opt' hv q))
theorem W.itemT{n:Nat}{i:Int}{v:V}{vs:List V}{Q:V->S->Prop}(hn:s.h[n]? =some (.tup vs))(hi:0<=i/\i < 2 ^ 62)(hv:vs[i.toNat]? =some v)(q:Q v s):W P (fun _=>itemM (.ref n) (.int i)) Q E s:=
 W.gc_ hn (W.n_ (decide_eq_true hi) (W.opt' hv q))
theorem gl_{h:List O}{n:Nat}{o:O}(e:h[n]? =some o):n < h.length:=(List.getElem?_eq_some_iff.mp e).1
theorem W.setD{n k:Nat}{i v:V}{es:List (V×V)}{Q:Unit->S->Prop}(hn:s.h[n]? =some (.dict es k))(hk:(kd_ i && k_ i es && decide (es.length<=900))=true)(q:Q () {s with h:=s.h.set n (putD i v es k)}):W P (fun _=>sk_ (.ref n) i v) Q E s:=
 W.gc_ hn (W.n_ hk (W.seto (gl_ hn) q))
theorem W.putD{n k:Nat}{i v:V}{es:List (V×V)}{Q:Unit->S->Prop}(hn:s.h[n]? =some (.dict es k))(hk:(kd_ i && k_ i es && decide (es.length<=900))=true)(q:Q () {s with h:=s.h.set n (Mine.putD i v es k)}):W P (fun _=>putItemM n i v) Q E s:=
 W.gc_ hn (W.n_ hk (W.seto (gl_ hn) q))
theorem W.setL{n:Nat}{i:Int}{v:V}{vs:List V}{Q:Unit->S->Prop}(hn:s.h[n]? =some (.list vs))(hi:0<=i/\i < vs.length/\i < 2 ^ 62)(q:Q () {s with h:=s.h.set n (.list (vs.set i.toNat v))}):W P (fun _=>sk_ (.ref n) (.int i) v) Q E s:=
 W.gc_ hn (W.n_ (decide_eq_true hi) (W.seto (gl_ hn) q))
theorem W.delD{n k:Nat}{i:V}{es:List (V×V)}{Q:Unit->S->Prop}(hn:s.h[n]? =some (.dict es k))(hk:(kd_ i && k_ i es && (f_ i es).isSome && decide (es.length<=900))=true)(q:Q () {s with h:=s.h.set n (.dict (da_ i es) (k+1))}):W P (fun _=>dc_ (.ref n) i) Q E s:=
 W.gc_ hn (W.n_ hk (W.seto (gl_ hn) q))
theorem W.inD{n k:Nat}{i:V}{es:List (V×V)}{Q:Bool->S->Prop}(hn:s.h[n]? =some (.dict es k))(hk:(kd_ i && k_ i es)=true)(q:Q (f_ i es).isSome s):W P (fun _=>cmpM .In i (.ref n)) Q E s:=
 W.gc_ hn (W.n_ hk (W.pure q))
theorem W.notInD{n k:Nat}{i:V}{es:List (V×V)}{Q:Bool->S->Prop}(hn:s.h[n]? =some (.dict es k))(hk:(kd_ i && k_ i es)=true)(q:Q (!(f_ i es).isSome) s):W P (fun _=>cmpM .NotIn i (.ref n)) Q E s:=
 W.bind (W.gc_ hn (W.n_ hk (W.pure (W.pure q))))
theorem W.getB{n k:Nat}{i:V}{es:List (V×V)}{Q:V->S->Prop}(hn:s.h[n]? =some (.dict es k))(hk:(kd_ i && k_ i es)=true)(q:Q ((f_ i es).getD .none) s):W P (fun _=>cd_ "dict.get" [.ref n,i]) Q E s:=
 W.gc_ hn (W.n_ hk (W.pure q))
theorem W.popB{n k:Nat}{i v:V}{es:List (V×V)}{Q:V->S->Prop}(hn:s.h[n]? =some (.dict es k))(hk:(kd_ i && k_ i es && decide (es.length<=900))=true)(hv:f_ i es=some v)(q:Q v {s with h:=s.h.set n (.dict (da_ i es) (k+1))}):W P (fun _=>cd_ "dict.pop" [.ref n,i]) Q E s:=
 W.gc_ hn (W.n_ hk (W.opt hv (W.bind (W.seto (gl_ hn) (W.pure q)))))
theorem W.sortedD{n k:Nat}{es:List (V×V)}{vs:List V}{Q:V->S->Prop}(hn:s.h[n]? =some (.dict es k))(hz:decide (es.length < 64)=true)(hv:sn_ (es.map (·.1))=some vs)(q:Q (.ref s.h.length) {s with h:=s.h++ [.list vs]}):W P (fun _=>cd_ "sorted" [.ref n]) Q E s:=
 W.gc_ hn (W.n_ hz (W.opt hv (W.bind (W.alloc (W.pure q)))))
theorem W.appendB{n:Nat}{v:V}{vs:List V}{Q:V->S->Prop}(hn:s.h[n]? =some (.list vs))(hz:decide (vs.length < 100000)=true)(q:Q .none {s with h:=s.h.set n (.list (vs++ [v]))}):W P (fun _=>cd_ "list.append" [.ref n,v]) Q E s:=
 W.gc_ hn (W.n_ hz (W.bind (W.seto (gl_ hn) (W.pure q))))
theorem W.insertB{n:Nat}{v:V}{vs:List V}{Q:V->S->Prop}(hn:s.h[n]? =some (.list vs))(hz:decide (vs.length < 100000)=true)(q:Q .none {s with h:=s.h.set n (.list (v::vs))}):W P (fun _=>cd_ "list.insert" [.ref n,.int 0,v]) Q E s:=
 W.gc_ hn (W.n_ hz (W.bind (W.seto (gl_ hn) (W.pure q))))
theorem W.popL{n:Nat}{v:V}{vs:List V}{Q:V->S->Prop}(hn:s.h[n]? =some (.list (v::vs)))(hz:decide (vs.length<=100000)=true)(q:Q v {s with h:=s.h.set n (.list vs)}):W P (fun _=>cd_ "list.pop" [.ref n,.int 0]) Q E s:=
 W.gc_ hn (W.n_ hz (W.bind (W.seto (gl_ hn) (W.pure q))))
def setOk(K:Frag)(C:Addr)(name:Str):Bool:=findIn K (.ref C) "__setattr__"==some (some (.builtin "object.__setattr__")) && plainOver K C && takerIn K C name==some none && hasDictIn K C
theorem W.sh_{n C d k:Nat}{es:List (V×V)}{name:Str}{v:V}{Q:Unit->S->Prop}(hn:s.h[n]? =some (.inst C d))(hd:s.h[d]? =some (.dict es k))(ho:setOk P.K C name=true)(hl:(k_ (.str name) es && decide (es.length<=900))=true)(q:Q () {s with h:=s.h.set d (Mine.putD (.str name) v es k)}):
  W P (fun _=>setAttrM P.K (.ref n) name v) Q E s:=by
 unfold setOk at ho;refine W.gc_ hn (W.gc_ hd (W.n_ ?_ (W.seto (gl_ hd) q)));rw [ho,Bool.true_and];exact hl
theorem ga_{h t:List O}{n:Nat}{o:O}(e:h[n]? =some o):(h++t)[n]? =some o:=by rw [List.getElem?_append_left (gl_ e)];exact e
theorem gn_{h:List O}{o:O}:(h++ [o])[h.length]? =some o:=by simp
theorem gb_{h:List O}{n m:Nat}{o p:O}(hne:m≠n)(e:h[n]? =some o):(h.set m p)[n]? =some o:=by rw [List.getElem?_set_ne hne];exact e
theorem ge_{h:List O}{n:Nat}{o p:O}(e:h[n]? =some o):(h.set n p)[n]? =some p:=List.getElem?_set_self (gl_ e)
theorem W.heap{α:Type}{m:Fns->M α}{Q:α->S->Prop}{h':List O}(e:s.h=h')(h:W P m Q E {h:=h',l:=s.l}):W P m Q E s:=by subst e;exact h
end
end
section
section
variable {P:Prg} {E:Addr->S->Prop} {s:S} {ρ:Ev}
theorem W.stepSome{it:Nat}{o:O}{v:V}{Q:Option V->S->Prop}(hi:it < s.h.length)(q:Q (some v) {s with h:=s.h.set it o}):W P (fun _=>stepItM it o (some v)) Q E s:=W.bind (W.seto hi (W.pure q))
theorem W.stepNone{it:Nat}{o:O}{Q:Option V->S->Prop}(hi:it < s.h.length)(q:Q none {s with h:=s.h.set it .dead}):W P (fun _=>stepItM it o none) Q E s:=W.bind (W.seto hi (W.pure q))
theorem W.nextL{it l i:Nat}{vs:List V}{Q:Option V->S->Prop}(hi:s.h[it]? =some (.itL l i))(hl:s.h[l]? =some (.list vs))(h1:∀ v,vs[i]? =some v->Q (some v) {s with h:=s.h.set it (.itL l (i+1))})(h2:vs.length<=i->Q none {s with h:=s.h.set it .dead}):W P (fun _=>nextM it) Q E s:=by
 refine W.gc_ hi (W.gc_ hl ?_);cases e:vs[i]? with
 | some v=>exact W.eq (W.stepSome (gl_ hi) (h1 v e)) fun _=>by dsimp only;rw [e]
 | none=>exact W.eq (W.stepNone (gl_ hi) (h2 (List.getElem?_eq_none_iff.mp e))) fun _=>by dsimp only;rw [e]
theorem W.nextD{it d i n:Nat}{es:List (V×V)}{Q:Option V->S->Prop}(hi:s.h[it]? =some (.itD d i es.length n))(hd:s.h[d]? =some (.dict es n))(hk:i_ es=true)(h1:∀ e,es[i]? =some e->Q (some e.1) {s with h:=s.h.set it (.itD d (i+1) es.length n)})(h2:es.length<=i->Q none {s with h:=s.h.set it .dead}):W P (fun _=>nextM it) Q E s:=by
 refine W.gc_ hi (W.gc_ hd (W.n_ (by rw [hk];simp) ?_));cases e:es[i]? with
 | some v=>exact W.eq (W.stepSome (gl_ hi) (h1 v e)) fun _=>rfl
 | none=>exact W.eq (W.stepNone (o:= .itD d (i+1) es.length n) (gl_ hi) (h2 (List.getElem?_eq_none_iff.mp e))) fun _=>rfl
theorem W.nextS{it i:Nat}{x:Str}{Q:Option V->S->Prop}(hi:s.h[it]? =some (.itS x i))(h1:∀ c,x.cps[i]? =some c->Q (some (.str ⟨#[c]⟩)) {s with h:=s.h.set it (.itS x (i+1))})(h2:x.cps.size<=i->Q none {s with h:=s.h.set it .dead}):W P (fun _=>nextM it) Q E s:=by
 refine W.gc_ hi ?_;cases e:x.cps[i]? with
 | some v=>exact W.eq (W.stepSome (gl_ hi) (h1 v e)) fun _=>by dsimp only;rw [e];rfl
 | none=>exact W.eq (W.stepNone (gl_ hi) (h2 (by simpa using e))) fun _=>by dsimp only;rw [e];rfl
theorem W.nextR{it:Nat}{x left step:Int}{Q:Option V->S->Prop}(hi:s.h[it]? =some (.itR x left step))(h1:0 < left->Q (some (.int x)) {s with h:=s.h.set it (.itR (x+step) (left - 1) step)})(h2:left<=0->Q none {s with h:=s.h.set it .dead}):W P (fun _=>nextM it) Q E s:=by
 refine W.gc_ hi ?_;by_cases e:0 < left
 ·exact W.eq (W.stepSome (gl_ hi) (h1 e)) fun _=>by dsimp only;rw [if_pos e]
 ·exact W.eq (W.stepNone (gl_ hi) (h2 (by omega))) fun _=>by dsimp only;rw [if_neg e]
theorem W.own0{x:Str}{p:Pos}{it:Nat}{v:V}{Q:Unit->S->Prop}(q:Q () s):W P (fun _=>ownM (.Name x p) it v) Q E s:=W.pure q
theorem W.ownT{xs:List Expr}{k:Nat}{p:Pos}{it l i:Nat}{v:V}{Q:Unit->S->Prop}(hi:s.h[it]? =some (.itL l i))(q:Q () s):W P (fun _=>ownM (.Tuple xs k p) it v) Q E s:=W.gc_ hi (W.pure q)
theorem W.iterL{n:Nat}{vs:List V}{Q:Nat->S->Prop}(hn:s.h[n]? =some (.list vs))(q:Q s.h.length {s with h:=s.h++ [.itL n 0]}):W P (fun _=>id_ (.ref n)) Q E s:=W.gc_ hn (W.alloc q)
theorem W.iterD{n k:Nat}{es:List (V×V)}{Q:Nat->S->Prop}(hn:s.h[n]? =some (.dict es k))(hk:i_ es=true)(q:Q s.h.length {s with h:=s.h++ [.itD n 0 es.length k]}):W P (fun _=>id_ (.ref n)) Q E s:=W.gc_ hn (W.n_ hk (W.alloc q))
theorem W.iterS{x:Str}{Q:Nat->S->Prop}(q:Q s.h.length {s with h:=s.h++ [.itS x 0]}):W P (fun _=>id_ (.str x)) Q E s:=W.alloc q
theorem W.forL{x:Str}{p:Pos}{it l:Nat}{vs:List V}{b:List Stmt}{Q:Flow->S->Prop}{I:Nat->S->Prop}(hx:ρ.scope.names.lookup x=some .local)(hI:∀ i s,I i s->s.h[it]? =some (.itL l i)/\s.h[l]? =some (.list vs))
  (turn:∀ i v s,I i s->vs[i]? =some v->W P (fun F=>e_ P.K F b ρ) (fun f s2=>match f with | .next=>I (i+1) s2 | .ret v=>Q (.ret v) s2) E {h:=s.h.set it (.itL l (i+1)),l:=putA x v s.l})
  (fin:∀ s,I vs.length s->Q .next {s with h:=s.h.set it .dead}):∀ (m i:Nat) (s:S),i+m=vs.length->I i s->W P (fun F=>F.fo (.Name x p) it b ρ) Q E s
 | 0,i,s,hm,h=>by
  obtain ⟨h1,h2⟩:=hI i s h;have hi:i=vs.length:=by omega
  subst hi;exact W.foT (W.nextL h1 h2 (fun v hv=>by simp at hv) fun _=>fin s h)
 | m+1,i,s,hm,h=>by
  obtain ⟨h1,h2⟩:=hI i s h;refine W.foT (W.nextL h1 h2 (fun v hv=>?_) fun hl=>by omega);refine W.own0 (W.asN hx ((turn i v s h hv).post fun f s2 h2=>?_));cases f with
  | next=>exact W.forL hx hI turn fin m (i+1) s2 (by omega) h2
  | ret v=>exact h2
theorem W.comp{elt t iter:Expr}{ifs:List Expr}{scope:Scope}{p:Pos}{cells:List (Str×Nat)}{Q:V->S->Prop}(hc:cf_ ρ scope.names [] s=some (.ok cells,s))(hk:(compOk scope && nb_ iter)=true)
  (h:W P (fun F=>F.ev iter ρ) (fun v s1=>W P (fun _=>id_ v) (fun it s2=>W P (fun F=>F.co t elt ifs it s2.h.length {scope:=cb_ ρ scope,cells,d:=ρ.d}) (fun _ s3=>Q (.ref s2.h.length) {s3 with l:=s2.l}) (fun _ _=>False) {h:=s2.h++ [.list []],l:= []}) E s1) E s):
  W P (fun F=>F.ev (.ListComp elt [⟨t,iter,ifs,0⟩] scope p) ρ) Q E s:=
 W.ev (W.n_ hk (W.bind (W.ret (fun _=>hc) (W.bind (h.post fun v s1 h=>W.bind (h.post fun it s2 h=>W.bind (W.alloc (W.bind (W.calm (W.within (h.mono (fun _ s3 h=>W.pure h) fun _ _ h=>h)))))))))))
theorem W.coT{t elt:Expr}{ifs:List Expr}{it acc:Nat}{Q:Unit->S->Prop}(h:W P (fun _=>nextM it) (fun o s1=>match o with
   | none=>Q () s1
   | some v=>W P (fun _=>ownM t it v) (fun _ s2=>W P (fun F=>aa_ P.K F t ρ v) (fun _ s3=>W P (fun F=>tc_ F ρ ifs) (fun ok s4=>if ok=true then W P (fun F=>F.ev elt ρ) (fun x s5=>W P (fun _=>cd_ "list.append" [.ref acc,x]) (fun _ s6=>W P (fun F=>F.co t elt ifs it acc ρ) Q E s6) E s5) E s4
     else W P (fun F=>F.co t elt ifs it acc ρ) Q E s4) E s3) E s2) E s1) E s):W P (fun F=>F.co t elt ifs it acc ρ) Q E s:=
 W.co (W.bind (h.post fun o s1 h=>by
  cases o with
  | none=>exact W.pure h
  | some v=>exact W.bind (h.post fun _ _ h=>W.bind (h.post fun _ _ h=>W.bind (h.post fun ok s4 h=>by
    cases ok with
    | true=>exact W.bind (h.post fun _ _ h=>W.bind (h.post fun _ _ h=>h))
    | false=>exact h)))))
theorem W.test0{Q:Bool->S->Prop}(q:Q true s):W P (fun F=>tc_ F ρ []) Q E s:=W.pure q
theorem W.test1{c:Expr}{Q:Bool->S->Prop}(h:W P (fun F=>F.tr c ρ) Q E s):W P (fun F=>tc_ F ρ [c]) Q E s:=h
end
end
section
def Pre(h0 h:List O):Prop:=∃ t,h=h0++t
theorem Pre.refl(h:List O):Pre h h:=⟨[],by simp⟩
theorem Pre.trans{a b c:List O}(x:Pre a b)(y:Pre b c):Pre a c:=by
 obtain ⟨t,rfl⟩:=x;obtain ⟨u,rfl⟩:=y;exact ⟨t++u,by simp⟩
theorem Pre.app(h t:List O):Pre h (h++t):=⟨t,rfl⟩
theorem Pre.get{h0 h:List O}(x:Pre h0 h){n:Nat}{o:O}(e:h0[n]? =some o):h[n]? =some o:=by
 obtain ⟨t,rfl⟩:=x;exact ga_ e
theorem Pre.len{h0 h:List O}(x:Pre h0 h):h0.length<=h.length:=by obtain ⟨t,rfl⟩:=x;simp
theorem Pre.set{h0 h:List O}(x:Pre h0 h){n:Nat}{o:O}(hn:h0.length<=n):Pre h0 (h.set n o):=by
 obtain ⟨t,rfl⟩:=x;exact ⟨t.set (n - h0.length) o,by rw [List.set_append_right _ _ hn]⟩
section
variable {P:Prg} {E:Addr->S->Prop} {s:S} {ρ:Ev}
theorem lp_{x:Str}{v:V}:∀ l:List (Str×V),(putA x v l).lookup x=some v
 | []=>by simp [putA]
 | (y,u)::r=>by
  unfold putA;by_cases h:y=x
  ·subst h;simp
  ·rw [if_neg h,List.lookup_cons];have:(x==y)=false:=by simpa using fun e:x=y=>h e.symm
   rw [this];exact lp_ r
theorem W.coL{x:Str}{p:Pos}{elt:Expr}{ifs:List Expr}{it acc l:Nat}{vs:List V}{h0:List O}{f:V->V}{g:V->Bool}(hx:ρ.scope.names.lookup x=some .local)(hl:h0[l]? =some (.list vs))(hi:h0.length<=it)(ha:h0.length<=acc)(hne:it≠acc)(hz:vs.length<=1000)
  (test:∀ v∈vs,∀ h lo,Pre h0 h->lo.lookup x=some v->W P (fun F=>tc_ F ρ ifs) (fun b s'=>b=g v/\Pre h s'.h/\s'.l=lo) (fun _ _=>False) {h:=h,l:=lo})
  (el:∀ v∈vs,g v=true->∀ h lo,Pre h0 h->lo.lookup x=some v->W P (fun F=>F.ev elt ρ) (fun y s'=>y=f v/\Pre h s'.h/\s'.l=lo) (fun _ _=>False) {h:=h,l:=lo}):
  ∀ (m i:Nat) (s:S),i+m=vs.length->Pre h0 s.h->s.h[it]? =some (.itL l i)->s.h[acc]? =some (.list (((vs.take i).filter g).map f))->
   W P (fun F=>F.co (.Name x p) elt ifs it acc ρ) (fun _ s'=>Pre h0 s'.h/\s'.h[acc]? =some (.list ((vs.filter g).map f))) (fun _ _=>False) s
 | 0,i,s,hm,hp,h1,h2=>by
  have hi':i=vs.length:=by omega
  subst hi';refine W.coT (W.nextL h1 (hp.get hl) (fun v hv=>by simp at hv) fun _=>⟨hp.set hi,gb_ hne ?_⟩);rw [List.take_length] at h2;exact h2
 | m+1,i,s,hm,hp,h1,h2=>by
  refine W.coT (W.nextL h1 (hp.get hl) (fun v hv=>?_) fun hl=>by omega);have hlt:i < vs.length:=by omega
  have hv':vs[i]=v:=by rw [List.getElem?_eq_getElem hlt] at hv;exact Option.some.inj hv
  have hmem:v∈vs:=hv'▸List.getElem_mem hlt;have htk:vs.take (i+1)=vs.take i++ [v]:=by rw [List.take_add_one,hv];rfl
  refine W.own0 (W.asN hx ((test v hmem _ _ (hp.set hi) (lp_ _)).post fun b s2 ⟨hb,hp2,hl2⟩=>?_));have e1:=hp2.get (ge_ (p:= .itL l (i+1)) h1);have e2:=hp2.get (gb_ (p:= .itL l (i+1)) hne h2);have hp3:=(hp.set (o:= .itL l (i+1)) hi).trans hp2;subst hb;cases hg:g v with
  | false=>
   refine W.coL hx hl hi ha hne hz test el m (i+1) s2 (by omega) hp3 e1 ?_;rw [htk,List.filter_append,List.filter_cons,hg];simpa using e2
  | true=>
   rw [if_pos rfl];refine (W.heap (s:=s2) rfl ?_);rw [hl2];refine (el v hmem hg s2.h _ hp3 (lp_ _)).post fun y s3 ⟨hy,hp4,hl3⟩=>?_;subst hy;refine W.appendB (hp4.get e2) ?_ ?_
   ·refine decide_eq_true (Nat.lt_of_le_of_lt (m:=vs.length) ?_ (by omega));rw [List.length_map];exact Nat.le_trans (List.length_filter_le _ _) (List.length_take_le' _ _)
   ·refine W.coL hx hl hi ha hne hz test el m (i+1) _ (by omega) ((hp3.trans hp4).set ha) (gb_ (Ne.symm hne) (hp4.get e1)) ?_;rw [htk,List.filter_append,List.filter_cons,hg];simpa using ge_ (p:= .list (List.map f (List.filter g (List.take i vs))++ [f v])) (hp4.get e2)
theorem W.compL{x:Str}{px p:Pos}{elt iter:Expr}{ifs:List Expr}{scope:Scope}{cells:List (Str×Nat)}{Q:V->S->Prop}(hc:cf_ ρ scope.names [] s=some (.ok cells,s))(hk:(compOk scope && nb_ iter)=true)(hx:(cb_ ρ scope).names.lookup x=some .local)
  (h:W P (fun F=>F.ev iter ρ) (fun v s1=>∃ l vs f g,v= .ref l/\s1.h[l]? =some (.list vs)/\vs.length<=1000/\
   (∀ v∈vs,∀ h lo,Pre s1.h h->lo.lookup x=some v->W P (fun F=>tc_ F {scope:=cb_ ρ scope,cells,d:=ρ.d} ifs) (fun b s'=>b=g v/\Pre h s'.h/\s'.l=lo) (fun _ _=>False) {h:=h,l:=lo})/\
   (∀ v∈vs,g v=true->∀ h lo,Pre s1.h h->lo.lookup x=some v->W P (fun F=>F.ev elt {scope:=cb_ ρ scope,cells,d:=ρ.d}) (fun y s'=>y=f v/\Pre h s'.h/\s'.l=lo) (fun _ _=>False) {h:=h,l:=lo})/\
   ∀ h acc,Pre s1.h h->s1.h.length<=acc->h[acc]? =some (.list ((vs.filter g).map f))->Q (.ref acc) {h:=h,l:=s1.l}) E s):
  W P (fun F=>F.ev (.ListComp elt [⟨.Name x px,iter,ifs,0⟩] scope p) ρ) Q E s:=by
 refine W.comp hc hk (h.post fun v s1 ⟨l,vs,f,g,e,hl,hz,ht,he,hq⟩=>?_);subst e;refine W.iterL hl ?_;have hlen:(s1.h++ [O.itL l 0]).length=s1.h.length+1:=by simp
 refine (W.coL (h0:=s1.h) (l:=l) (vs:=vs) (f:=f) (g:=g) hx hl (Nat.le_refl _) (by dsimp only;omega) (by dsimp only;omega) hz ht he vs.length 0 _ (by omega) ((Pre.app _ _).trans (Pre.app _ _)) (ga_ gn_) (by simpa using gn_)).post fun _ s3 ⟨h1,h2⟩=>?_;exact hq s3.h _ h1 (by dsimp only;omega) h2
theorem W.coG{x:Str}{p:Pos}{elt:Expr}{ifs:List Expr}{it acc:Nat}{vs:List V}{h0:List O}{f:V->V}{g:V->Bool}(st:Nat->O)(hx:ρ.scope.names.lookup x=some .local)(hi:h0.length<=it)(ha:h0.length<=acc)(hne:it≠acc)(hz:vs.length<=1000)
  (nx:∀ i (s:S) (Q:Option V->S->Prop),Pre h0 s.h->s.h[it]? =some (st i)->i<=vs.length->(∀ v,vs[i]? =some v->Q (some v) {s with h:=s.h.set it (st (i+1))})->(vs.length<=i->Q none {s with h:=s.h.set it .dead})->W P (fun _=>nextM it) Q (fun _ _=>False) s)
  (test:∀ v∈vs,∀ h lo,Pre h0 h->lo.lookup x=some v->W P (fun F=>tc_ F ρ ifs) (fun b s'=>b=g v/\Pre h s'.h/\s'.l=lo) (fun _ _=>False) {h:=h,l:=lo})
  (el:∀ v∈vs,g v=true->∀ h lo,Pre h0 h->lo.lookup x=some v->W P (fun F=>F.ev elt ρ) (fun y s'=>y=f v/\Pre h s'.h/\s'.l=lo) (fun _ _=>False) {h:=h,l:=lo}):
  ∀ (m i:Nat) (s:S),i+m=vs.length->Pre h0 s.h->s.h[it]? =some (st i)->s.h[acc]? =some (.list (((vs.take i).filter g).map f))->
   W P (fun F=>F.co (.Name x p) elt ifs it acc ρ) (fun _ s'=>Pre h0 s'.h/\s'.h[acc]? =some (.list ((vs.filter g).map f))) (fun _ _=>False) s
 | 0,i,s,hm,hp,h1,h2=>by
  have hi':i=vs.length:=by omega
  subst hi';refine W.coT (nx _ _ _ hp h1 (Nat.le_refl _) (fun v hv=>by simp at hv) fun _=>⟨hp.set hi,gb_ hne ?_⟩);rw [List.take_length] at h2;exact h2
 | m+1,i,s,hm,hp,h1,h2=>by
  refine W.coT (nx _ _ _ hp h1 (by omega) (fun v hv=>?_) fun hl=>by omega);have hlt:i < vs.length:=by omega
  have hv':vs[i]=v:=by rw [List.getElem?_eq_getElem hlt] at hv;exact Option.some.inj hv
  have hmem:v∈vs:=hv'▸List.getElem_mem hlt;have htk:vs.take (i+1)=vs.take i++ [v]:=by rw [List.take_add_one,hv];rfl
  refine W.own0 (W.asN hx ((test v hmem _ _ (hp.set hi) (lp_ _)).post fun b s2 ⟨hb,hp2,hl2⟩=>?_));have e1:=hp2.get (ge_ (p:=st (i+1)) h1);have e2:=hp2.get (gb_ (p:=st (i+1)) hne h2);have hp3:=(hp.set (o:=st (i+1)) hi).trans hp2;subst hb;cases hg:g v with
  | false=>
   refine W.coG st hx hi ha hne hz nx test el m (i+1) s2 (by omega) hp3 e1 ?_;rw [htk,List.filter_append,List.filter_cons,hg];simpa using e2
  | true=>
   rw [if_pos rfl];refine (W.heap (s:=s2) rfl ?_);rw [hl2];refine (el v hmem hg s2.h _ hp3 (lp_ _)).post fun y s3 ⟨hy,hp4,hl3⟩=>?_;subst hy;refine W.appendB (hp4.get e2) ?_ ?_
   ·refine decide_eq_true (Nat.lt_of_le_of_lt (m:=vs.length) ?_ (by omega));rw [List.length_map];exact Nat.le_trans (List.length_filter_le _ _) (List.length_take_le' _ _)
   ·refine W.coG st hx hi ha hne hz nx test el m (i+1) _ (by omega) ((hp3.trans hp4).set ha) (gb_ (Ne.symm hne) (hp4.get e1)) ?_;rw [htk,List.filter_append,List.filter_cons,hg];simpa using ge_ (p:= .list (List.map f (List.filter g (List.take i vs))++ [f v])) (hp4.get e2)
def Elems(P:Prg)(ρ:Ev)(x:Str)(elt:Expr)(ifs:List Expr)(h0:List O)(vs:List V)(f:V->V)(g:V->Bool):Prop:=
 (∀ v∈vs,∀ h lo,Pre h0 h->lo.lookup x=some v->W P (fun F=>tc_ F ρ ifs) (fun b s'=>b=g v/\Pre h s'.h/\s'.l=lo) (fun _ _=>False) {h:=h,l:=lo})/\
 (∀ v∈vs,g v=true->∀ h lo,Pre h0 h->lo.lookup x=some v->W P (fun F=>F.ev elt ρ) (fun y s'=>y=f v/\Pre h s'.h/\s'.l=lo) (fun _ _=>False) {h:=h,l:=lo})
theorem W.compD{x:Str}{px p:Pos}{elt iter:Expr}{ifs:List Expr}{scope:Scope}{cells:List (Str×Nat)}{Q:V->S->Prop}(hc:cf_ ρ scope.names [] s=some (.ok cells,s))(hk:(compOk scope && nb_ iter)=true)(hx:(cb_ ρ scope).names.lookup x=some .local)
  (h:W P (fun F=>F.ev iter ρ) (fun v s1=>∃ r es k f g,v= .ref r/\s1.h[r]? =some (.dict es k)/\i_ es=true/\es.length<=1000/\Elems P {scope:=cb_ ρ scope,cells,d:=ρ.d} x elt ifs s1.h (es.map (·.1)) f g/\
   ∀ h acc,Pre s1.h h->s1.h.length<=acc->h[acc]? =some (.list (((es.map (·.1)).filter g).map f))->Q (.ref acc) {h:=h,l:=s1.l}) E s):
  W P (fun F=>F.ev (.ListComp elt [⟨.Name x px,iter,ifs,0⟩] scope p) ρ) Q E s:=by
 refine W.comp hc hk (h.post fun v s1 ⟨r,es,k,f,g,e,hl,hi,hz,⟨ht,he⟩,hq⟩=>?_);subst e;refine W.iterD hl hi ?_;have hlen:(s1.h++ [O.itD r 0 es.length k]).length=s1.h.length+1:=by simp
 refine (W.coG (h0:=s1.h) (vs:=es.map (·.1)) (f:=f) (g:=g) (fun i=> .itD r i es.length k) hx (Nat.le_refl _) (by dsimp only;omega) (by dsimp only;omega) (by simpa using hz) (fun i s2 Q2 hp h1 _ q1 q2=>?_) ht he (es.map (·.1)).length 0 _ (by omega) ((Pre.app _ _).trans (Pre.app _ _)) (ga_ gn_) (by simpa using gn_)).post fun _ s3 ⟨h1,h2⟩=>?_
 ·exact W.nextD h1 (hp.get hl) hi (fun e he=>q1 e.1 (by rw [List.getElem?_map,he];rfl)) fun hle=>q2 (by simpa using hle)
 ·exact hq s3.h _ h1 (by dsimp only;omega) h2
theorem W.compS{x:Str}{px p:Pos}{elt iter:Expr}{ifs:List Expr}{scope:Scope}{cells:List (Str×Nat)}{Q:V->S->Prop}(hc:cf_ ρ scope.names [] s=some (.ok cells,s))(hk:(compOk scope && nb_ iter)=true)(hx:(cb_ ρ scope).names.lookup x=some .local)
  (h:W P (fun F=>F.ev iter ρ) (fun v s1=>∃ t f g,v= .str t/\t.cps.size<=1000/\Elems P {scope:=cb_ ρ scope,cells,d:=ρ.d} x elt ifs s1.h (t.cps.toList.map fun c=> .str ⟨#[c]⟩) f g/\
   ∀ h acc,Pre s1.h h->s1.h.length<=acc->h[acc]? =some (.list (((t.cps.toList.map fun c=>V.str ⟨#[c]⟩).filter g).map f))->Q (.ref acc) {h:=h,l:=s1.l}) E s):
  W P (fun F=>F.ev (.ListComp elt [⟨.Name x px,iter,ifs,0⟩] scope p) ρ) Q E s:=by
 refine W.comp hc hk (h.post fun v s1 ⟨t,f,g,e,hz,⟨ht,he⟩,hq⟩=>?_);subst e;refine W.iterS ?_;have hlen:(s1.h++ [O.itS t 0]).length=s1.h.length+1:=by simp
 refine (W.coG (h0:=s1.h) (vs:=t.cps.toList.map fun c=> .str ⟨#[c]⟩) (f:=f) (g:=g) (fun i=> .itS t i) hx (Nat.le_refl _) (by dsimp only;omega) (by dsimp only;omega) (by simpa using hz) (fun i s2 Q2 hp h1 _ q1 q2=>?_) ht he (t.cps.toList.map fun c=>V.str ⟨#[c]⟩).length 0 _ (by omega) ((Pre.app _ _).trans (Pre.app _ _)) (ga_ gn_) (by simpa using gn_)).post fun _ s3 ⟨h1,h2⟩=>?_
 ·exact W.nextS h1 (fun c hc=>q1 _ (by rw [List.getElem?_map,Array.getElem?_toList,hc];rfl)) fun hle=>q2 (by simpa using hle)
 ·exact hq s3.h _ h1 (by dsimp only;omega) h2
theorem W.forG{t:Expr}{it:Nat}{vs:List V}{b:List Stmt}{Q:Flow->S->Prop}{I:Nat->S->Prop}(st:Nat->O)
  (nx:∀ i (s:S) (Q:Option V->S->Prop),I i s->i<=vs.length->(∀ v,vs[i]? =some v->Q (some v) {s with h:=s.h.set it (st (i+1))})->(vs.length<=i->Q none {s with h:=s.h.set it .dead})->W P (fun _=>nextM it) Q E s)
  (turn:∀ i v s,I i s->vs[i]? =some v->W P (fun _=>ownM t it v) (fun _ s2=>W P (fun F=>aa_ P.K F t ρ v) (fun _ s3=>W P (fun F=>e_ P.K F b ρ) (fun f s4=>match f with | .next=>I (i+1) s4 | .ret v=>Q (.ret v) s4) E s3) E s2) E {s with h:=s.h.set it (st (i+1))})
  (fin:∀ s,I vs.length s->Q .next {s with h:=s.h.set it .dead}):∀ (m i:Nat) (s:S),i+m=vs.length->I i s->W P (fun F=>F.fo t it b ρ) Q E s
 | 0,i,s,hm,h=>by
  have hi:i=vs.length:=by omega
  subst hi;exact W.foT (nx _ s _ h (Nat.le_refl _) (fun v hv=>by simp at hv) fun _=>fin s h)
 | m+1,i,s,hm,h=>by
  refine W.foT (nx i s _ h (by omega) (fun v hv=>?_) fun hl=>by omega);refine (turn i v s h hv).post fun _ s2 h2=>h2.post fun _ s3 h3=>h3.post fun f s4 h4=>?_;cases f with
  | next=>exact W.forG st nx turn fin m (i+1) s4 (by omega) h4
  | ret v=>exact h4
theorem W.iterR{n:Nat}{a b c:Int}{Q:Nat->S->Prop}(hn:s.h[n]? =some (.rng a b c))(hk:Builtin.Range.small a b c=true)(q:Q s.h.length {s with h:=s.h++ [.itR a (Builtin.Range.rangeSize a b c) c]}):W P (fun _=>id_ (.ref n)) Q E s:=W.gc_ hn (W.n_ hk (W.alloc q))
theorem W.compR{x:Str}{px p:Pos}{elt iter:Expr}{ifs:List Expr}{scope:Scope}{cells:List (Str×Nat)}{Q:V->S->Prop}(hc:cf_ ρ scope.names [] s=some (.ok cells,s))(hk:(compOk scope && nb_ iter)=true)(hx:(cb_ ρ scope).names.lookup x=some .local)
  (h:W P (fun F=>F.ev iter ρ) (fun v s1=>∃ r a b c,∃ n:Nat,∃ f g,v= .ref r/\s1.h[r]? =some (.rng a b c)/\Builtin.Range.small a b c=true/\Builtin.Range.rangeSize a b c=n/\n<=1000/\Elems P {scope:=cb_ ρ scope,cells,d:=ρ.d} x elt ifs s1.h ((List.range n).map fun i:Nat=> .int (a+c*(i:Int))) f g/\
   ∀ h acc,Pre s1.h h->s1.h.length<=acc->h[acc]? =some (.list ((((List.range n).map fun i:Nat=>V.int (a+c*(i:Int))).filter g).map f))->Q (.ref acc) {h:=h,l:=s1.l}) E s):
  W P (fun F=>F.ev (.ListComp elt [⟨.Name x px,iter,ifs,0⟩] scope p) ρ) Q E s:=by
 refine W.comp hc hk (h.post fun v s1 ⟨r,a,b,c,n,f,g,e,hl,hsm,hsz,hz,⟨ht,he⟩,hq⟩=>?_);subst e;refine W.iterR hl hsm ?_;have hlen:(s1.h++ [O.itR a (Builtin.Range.rangeSize a b c) c]).length=s1.h.length+1:=by simp
 refine (W.coG (h0:=s1.h) (vs:=(List.range n).map fun i:Nat=> .int (a+c*(i:Int))) (f:=f) (g:=g) (fun i=> .itR (a+c*(i:Int)) ((n:Int) - i) c) hx (Nat.le_refl _) (by dsimp only;omega) (by dsimp only;omega) (by simpa using hz) (fun i s2 Q2 hp h1 hle q1 q2=>?_) ht he ((List.range n).map fun i:Nat=>V.int (a+c*(i:Int))).length 0 _ (by omega) ((Pre.app _ _).trans (Pre.app _ _)) (ga_ ?_) (by simpa using gn_)).post fun _ s3 ⟨h1,h2⟩=>?_
 ·refine W.nextR h1 (fun hlt=>?_) fun hle=>q2 (by simp;omega);have e1:a+c*(i:Int)+c=a+c*((i+1:Nat):Int):=by rw [Int.natCast_add,Int.mul_add];omega
  have e2:(n:Int) - i - 1=(n:Int) - ((i+1:Nat):Int):=by omega
  rw [e1,e2];exact q1 _ (by rw [List.getElem?_map,List.getElem?_range (by omega)];rfl)
 ·rw [hsz];simpa using gn_ (h:=s1.h) (o:=O.itR a (n:Int) c)
 ·exact hq s3.h _ h1 (by dsimp only;omega) h2
theorem W.fnK{a:Addr}{c:Value}{dd:Option Addr}{sl:Array (Option Value)}{fd:FuncData}{body:List Stmt}{args vs:List V}{d:Nat}{cells:List (Str×Nat)}{s1:S}{sc:Scope}{lq:Option (Addr×Addr×Str)}{bs:List (Str×V)}{Q:V->S->Prop}(hp:P.prims a args=none)(hK:P.K.lookup a=some ⟨c,dd,.func fd,sl⟩)(hb:fd.body= .stmts body)(hf:ff_ P.K fd args=some vs)(hok:fdOk P.K fd=true)
  (hs:fd.scope=sc) (hq:lqOf P.cs fd=lq) (hbs:(fd.params.args.map (·.arg)).zip vs=bs) (hc:ch_ sc.names [] {s with l:= []}=some (.ok cells,s1))
  (h:W P (fun _=>bc_ {scope:=sc,cells,d,lq:=lq,stm:=true} bs) (fun _ s1=>W P (fun F=>e_ P.K F body {scope:=sc,cells,d,lq:=lq,stm:=true}) (fun f s2=>match f with | .next=>Q .none {s2 with l:=s.l} | .ret v=>Q v {s2 with l:=s.l}) (fun C s2=>E C {s2 with l:=s.l}) s1) (fun C s2=>E C {s2 with l:=s.l}) s1):W P (fun F=>F.call (.glob a) args (d+1)) Q E s:=by
 subst hs hq hbs;refine W.call (W.eq (m:=fun F=>ck_ P.K P.cs F fd args d) ?_ fun F=>?_)
 ·refine W.eq (m:=fun F=>Mine.need (fdOk P.K fd) >>=fun _=>Mine.within [] (ch_ fd.scope.names [] >>=fun cells=>bc_ {scope:=fd.scope,cells,d,lq:=lqOf P.cs fd,stm:=true} ((fd.params.args.map (·.arg)).zip vs) >>=fun _=>F.exs body {scope:=fd.scope,cells,d,lq:=lqOf P.cs fd,stm:=true} >>=fun f=>match f with | .next=>Pure.pure V.none | .ret v=>Pure.pure v)) (W.n_ hok (W.within (W.bind (W.ret (fun _=>hc) (W.bind (h.post fun _ s2 h=>W.bind ((W.exs h).post fun f s1 h=>?_))))))) fun F=>?_
  ·cases f <;> exact W.pure h
  ·show ck_ P.K P.cs F fd args d s=_;unfold ck_;rw [hb,hf];try rfl
 ·show callM P.K P.prims P.cs F (.glob a) args (d+1) s=_;unfold callM;dsimp only;rw [hp];dsimp only;rw [hK]
theorem W.par0{Q:Unit->S->Prop}(q:Q () s):W P (fun _=>bc_ ρ []) Q E s:=W.pure q
theorem W.parL{x:Str}{v:V}{r:List (Str×V)}{Q:Unit->S->Prop}(hx:ρ.scope.names.lookup x=some .local)(h:W P (fun _=>bc_ ρ r) Q E {s with l:=putA x v s.l}):W P (fun _=>bc_ ρ ((x,v)::r)) Q E s:=
 W.bind (W.ret (fun F=>by show si_ ρ x v s=_;unfold si_;rw [hx];rfl) h)
theorem W.parC{x:Str}{v:V}{n:Nat}{w:Option V}{r:List (Str×V)}{Q:Unit->S->Prop}(hx:ρ.scope.names.lookup x=some .cell)(hn:ρ.cells.lookup x=some n)(hc:s.h[n]? =some (.cell w))(h:W P (fun _=>bc_ ρ r) Q E {s with h:=s.h.set n (.cell (some v))}):W P (fun _=>bc_ ρ ((x,v)::r)) Q E s:=
 W.bind (W.ret (fun F=>by
  show si_ ρ x v s=_;unfold si_ cellM;rw [hx,hn];show M.bind (Mine.opt (some n)) _ s=_;unfold M.bind Mine.opt;show M.bind (Mine.geto n) _ s=_;unfold M.bind Mine.geto;rw [hc];dsimp only;show Mine.seto n _ s=_;unfold Mine.seto;rw [if_pos (List.getElem?_eq_some_iff.mp hc).1]) h)
end
end
section
section
variable {P:Prg} {E:Addr->S->Prop} {s:S} {ρ:Ev}
theorem W.lo{x:Str}{p:Pos}{v:V}{Q:V->S->Prop}(hv:s.l.lookup x=some v)(q:Q v s)(hx:ρ.scope.names.lookup x=some .local:=by rfl)(hd:x≠"__debug__":=by decide):W P (fun F=>F.ev (.Name x p) ρ) Q E s:=W.local hx hd hv q
theorem W.cI{x:Str}{p:Pos}{n:Nat}{v:V}{Q:V->S->Prop}(hv:s.h[n]? =some (.cell (some v)))(q:Q v s)(hx:ρ.scope.names.lookup x=some .cell:=by rfl)(hn:ρ.cells.lookup x=some n:=by rfl)(hd:x≠"__debug__":=by decide)(hc:x≠"__classdict__":=by decide):W P (fun F=>F.ev (.Name x p) ρ) Q E s:=W.cellV (.inl hx) hd hc hn hv q
theorem W.cF{x:Str}{p:Pos}{n:Nat}{v:V}{Q:V->S->Prop}(hv:s.h[n]? =some (.cell (some v)))(q:Q v s)(hx:ρ.scope.names.lookup x=some .free:=by rfl)(hn:ρ.cells.lookup x=some n:=by rfl)(hd:x≠"__debug__":=by decide)(hc:x≠"__classdict__":=by decide):W P (fun F=>F.ev (.Name x p) ρ) Q E s:=W.cellV (.inr hx) hd hc hn hv q
theorem W.gl{x:Str}{p:Pos}{v:V}{Q:V->S->Prop}(hv:gd_ P.K x=some v)(q:Q v s)(hx:ρ.scope.names.lookup x=some .globalImplicit:=by rfl)(hd:x≠"__debug__":=by decide):W P (fun F=>F.ev (.Name x p) ρ) Q E s:=W.glob hx hd hv q
theorem W.cG{x:Str}{p1 p:Pos}{args:List Expr}{fv:V}{Q:V->S->Prop}(hv:gd_ P.K x=some fv)(h:WL P ρ E args (fun vs s2=>cj_ P.K fv s2=some (.ok (),s2)/\W P (fun F=>F.call fv vs ρ.d) Q E s2) s)(hx:ρ.scope.names.lookup x=some .globalImplicit:=by rfl)(hd:x≠"__debug__":=by decide)(hl:decide (args.length < 20)=true:=by rfl)(hn:args.all na_=true:=by rfl):W P (fun F=>F.ev (.Call (.Name x p1) args [] p) ρ) Q E s:=
 W.callN (by intros;simp) hl hn (W.glob hx hd hv h)
theorem W.it{o i:Expr}{p:Pos}{Q:V->S->Prop}(h:W P (fun F=>F.ev o ρ) (fun a s1=>W P (fun F=>F.ev i ρ) (fun b s2=>W P (fun _=>itemM a b) Q E s2) E s1) E s)(hi:∀ a b c d,i≠ .Slice a b c d:=by intros;simp):W P (fun F=>F.ev (.Subscript o i p) ρ) Q E s:=W.item hi h
theorem W.aI{o i:Expr}{p:Pos}{v:V}{Q:Unit->S->Prop}(h:W P (fun F=>F.ev o ρ) (fun a s1=>W P (fun F=>F.ev i ρ) (fun b s2=>W P (fun _=>sk_ a b v) Q E s2) E s1) E s)(hi:∀ a b c d,i≠ .Slice a b c d:=by intros;simp):W P (fun F=>aa_ P.K F (.Subscript o i p) ρ v) Q E s:=W.asI hi h
theorem W.a1{x:Expr}{xs:List Expr}{v:V}{vs:List V}{Q:Unit->S->Prop}(h:W P (fun F=>aa_ P.K F x ρ v) (fun _ s1=>W P (fun F=>ab_ P.K F xs ρ vs) Q E s1) E s)(hx:∀ a b c,x≠ .Tuple a b c:=by intros;simp):W P (fun F=>ab_ P.K F (x::xs) ρ (v::vs)) Q E s:=W.as1 hx h
theorem W.sA{t x:Expr}{p:Pos}{Q:Flow->S->Prop}(h:W P (fun F=>F.ev x ρ) (fun v s1=>W P (fun F=>aa_ P.K F t ρ v) (fun _ s2=>Q .next s2) E s1) E s)(hn:noComp x=true:=by rfl)(hs:swapOf [t] x ρ=some none:=by rfl):W P (fun F=>eb_ P.K F (.Assign [t] x p) ρ) Q E s:=W.sAssign hn hs h
theorem W.f{a:Addr}{c:Value}{dd:Option Addr}{sl:Array (Option Value)}{fd:FuncData}{body:List Stmt}{args vs:List V}{d:Nat}{l:List (Str×V)}{sc:Scope}{lq:Option (Addr×Addr×Str)}{Q:V->S->Prop}(hp:P.prims a args=none)
  (h:W P (fun F=>e_ P.K F body {scope:=sc,cells:= [],d,lq:=lq,stm:=true}) (fun f s1=>match f with | .next=>Q .none {s1 with l:=s.l} | .ret v=>Q v {s1 with l:=s.l}) (fun C s1=>E C {s1 with l:=s.l}) {h:=s.h,l:=l})
  (hK:P.K.lookup a=some ⟨c,dd,.func fd,sl⟩:=by rfl) (hb:fd.body= .stmts body:=by rfl) (hf:ff_ P.K fd args=some vs:=by rfl) (hok:fdOk P.K fd=true:=by rfl)
  (hs:fd.scope=sc:=by rfl) (hq:lqOf P.cs fd=lq:=by rfl) (hc:∀ s:S,ch_ sc.names [] s=some (.ok [],s):=by intro _;rfl) (hl:∀ h,bc_ {scope:=sc,cells:= [],d,lq:=lq,stm:=true} ((fd.params.args.map (·.arg)).zip vs) {h:=h,l:= []}=some (.ok (),{h:=h,l:=l}):=by intro _;rfl):
  W P (fun F=>F.call (.glob a) args (d+1)) Q E s:=W.fn hp hK hb hf hok hs hq hc hl h
end
end
theorem join_law{w:World}{prog:Program}{base h:Heap}{p:Program}{loose:List Str}{mean:ExcName->Option Value}{mg mb m:Str->Option Value}{K:Frag}{prims:Addr->List V->Option V}{cs:List (Addr×Addr×Str)}
  {A:Around} {env:Env} {D:Addr} {os0:List (Addr×Obj)} {ws:List Value} {ns:List Int} {news:List (Addr×Obj)} {body:List Stmt} {ρ:Ev} {os:OsState} {drawn:Drawn} {gens:Array GenState} {tk:Tok} {x:Str}
  {Q:PySem.Flow->Shared->Prop} {E:Value->Shared->Prop}
  (P:PrimOk prog ⟨w,base,cs,os⟩ prims) (X:K.In base) (T:Top p loose mean mg mb base) (F:Fr base env.locals h m) (N:News base env.locals h news)
  (hcs:∀ q∈cs,CodeHd base q.1 q.2.1) (one:∀ p∈cs,∀ q∈cs,p.2.1=q.2.1->p=q) (htab:∀ q∈cs,(q.2.1,tabObj #[])∈news) (htl:∀ q∈cs,q.2.1 < env.locals)
  (hD:(D,W.listOf ws.toArray 0)∈news) (hws:IntsAre ws ns) (hos:∀ q∈os0,q∈news/\q.2.data= .cell none) (hlt:∀ q∈os0,env.locals < q.1) (hD2:env.locals < D) (nd:(D::os0.map (·.1)).Nodup)
  (hm:m x=some (.ref D)) (hsm:sysModules < env.locals) (hg:gens= #[])
  (hA:OkA ⟨⟨w,base,cs,os⟩,prog,A,env,[],[env]⟩ ρ.d) (hsc:env.scope=ρ.scope) (hk:ρ.scope.kind= .function) (hc:CellsR (D::os0.map (·.1)) ρ.cells env.cells) (hgl:env.globals=mainGlobals) (hbl:env.builtins=builtinsNs) (hfr:env.frame=some env.locals)
  (hlq:∀ q,ρ.lq=some q->env.code= .ref q.1/\env.qual++"<lambda>"=q.2.2/\q∈cs)
  (run:W ⟨K,prims,cs⟩ (fun F=>e_ K F body ρ) (fun f _=>f= .ret (.bool true)) (fun _ _=>False) ⟨.list (ns.map V.int)::os0.map (fun _=>O.cell none),[(x,.ref 0)]⟩)
  (hQ:∀ r:Shared,(∀ b o,base.get? b=some o->r.heap.get? b=some o)->r.gens= #[]->r.os=os->(∀ q∈cs,GrownAt q.2.1 r.heap)->Q (.ret (.bool true)) r):
  wpAny (model prog w) A (execs body env) Q E ⟨h,gens,drawn,tk,os⟩:=by
 have Wd0:Wd ⟨w,base,cs,os⟩ K:={X:=X,T:=⟨p,loose,mean,mg,mb,T⟩,codes:=hcs,one:=one};rcases run with ⟨f,s',hf,N0,hr⟩ | ⟨_,_,h1,_⟩
 ·have hr:e_ K (fns K prims cs N0) body ρ ⟨.list (ns.map V.int)::os0.map (fun _=>O.cell none),[(x,.ref 0)]⟩=some (.ok f,s'):=hr N0 (Nat.le_refl _);subst hf;have fresh:base.get? env.locals=none:=by
   cases q:base.get? env.locals with
   | none=>rfl
   | some o=>exact absurd (Nat.lt_of_lt_of_le (Heap.lt_size q) F.above) (Nat.lt_irrefl _)
  have So:=sound (prog:=prog) (G:=⟨w,base,cs,os⟩) Wd0 P (N0+1);have ER:EvR ⟨⟨w,base,cs,os⟩,prog,A,env,[],[env]⟩ (D::os0.map (·.1)) ρ:={a:=hA,scope:=hsc,kind:=hk,cells:=hc,glob:=hgl,blt:=hbl,head:=fun _=>⟨[],env.locals,rfl,hfr⟩,lq:=hlq};have st:St ⟨w,base,cs,os⟩ env.locals [] (D::os0.map (·.1)) ⟨.list (ns.map V.int)::os0.map (fun _=>O.cell none),[(x,.ref 0)]⟩ ⟨h,gens,drawn,tk,os⟩:=by
   refine {base:=F.keep,ns:=⟨m,F.ns,?_⟩,kept:=(fun _ hq=>by cases hq),low:=⟨hsm,?_⟩,len:=by simp,objs:=?_,inj:=?_,fresh:=⟨fresh,(fun _ hq=>by cases hq)⟩,more:=?_,gens:=hg,os:=rfl}
   ·intro y v e;rw [List.lookup_cons] at e;split at e
    ·rename_i hy;cases e;have:y=x:=by simpa using hy
     subst this;exact ⟨_,hm,D,rfl,rfl⟩
    ·cases e
   ·intro n a e z;subst z;have hmem:=List.mem_of_getElem? e;rcases List.mem_cons.mp hmem with hmem | hmem
    ·rw [<-hmem] at hD2;exact absurd hsm (Nat.not_lt.mpr (Nat.le_of_lt hD2))
    ·obtain ⟨q,hq,e2⟩:=List.mem_map.mp hmem;have:=hlt q hq;rw [e2] at this;exact absurd hsm (Nat.not_lt.mpr (Nat.le_of_lt this))
   ·intro n o a e hd ea;cases n with
    | zero=>
     simp only [List.getElem?_cons_zero,Option.some.injEq] at e ea;subst e ea;obtain ⟨n1,n2,n3⟩:=N _ hD;exact ⟨⟨_,n1,⟨rfl,rfl,rfl⟩,ws,0,rfl,ints_R hws⟩,Ne.symm (Nat.ne_of_lt hD2),(fun _ hq=>by cases hq),n3⟩
    | succ n=>
     simp only [List.getElem?_cons_succ,List.getElem?_map] at e ea;cases eq:os0[n]? with
     | none=>rw [eq] at e;cases e
     | some q=>
      rw [eq] at e ea;cases e;cases ea;have hq:=List.mem_of_getElem? eq;obtain ⟨n1,n2,n3⟩:=N _ (hos q hq).1;exact ⟨⟨_,n1,none,(hos q hq).2,trivial⟩,n2,(fun _ hq=>by cases hq),n3⟩
   ·intro n k a _ _ e1 e2;exact (List.getElem?_inj (List.getElem?_eq_some_iff.mp e1).1 nd).mp (e1.trans e2.symm)
   ·refine ⟨cs.map fun q=>(q.2.1,tabObj #[]),?_,?_,?_⟩
    ·intro q hq;exact ⟨#[],List.mem_map.mpr ⟨q,hq,rfl⟩,trivial,fun pos cv e=>by simp [codeAmong] at e⟩
    ·intro z hz;obtain ⟨q,hq,rfl⟩:=List.mem_map.mp hz;obtain ⟨n1,n2,n3⟩:=N _ (htab q hq);refine ⟨n1,n2,(fun _ hq=>by cases hq),n3,fun n _ e=>?_⟩;have hlow:=htl q hq;have hmem:=List.mem_of_getElem? e;rcases List.mem_cons.mp hmem with hmem | hmem
     ·dsimp only at hmem;rw [hmem] at hlow;exact absurd hD2 (Nat.not_lt.mpr (Nat.le_of_lt hlow))
     ·obtain ⟨q2,hq2,e2⟩:=List.mem_map.mp hmem;have:=hlt q2 hq2;dsimp only at e2;rw [e2] at this;exact absurd hlow (Nat.not_lt.mpr (Nat.le_of_lt this))
    ·intro n b sc ce a ob e;exfalso;cases n with
     | zero=>simp at e
     | succ n=>
      simp only [List.getElem?_cons_succ,List.getElem?_map] at e;cases eq:os0[n]? with
      | none=>rw [eq] at e;cases e
      | some q=>rw [eq] at e;cases e
  refine wpAny_mono ((So.exs _ ρ (D::os0.map (·.1)) body rfl rfl ER).run _ _ _ Q (fun _ _=>False) (Ext.refl _) st PassesOwn.never (fun z=>by have z2:=hr.symm.trans z;cases z2) (fun a s'' e φ' b r' _ st' hR=>?_) (fun c s'' e=>?_)) (fun _ _ h=>h) fun _ _ h=>h.elim
  ·have e2:e_ K (fns K prims cs N0) body ρ ⟨.list (ns.map V.int)::os0.map (fun _=>O.cell none),[(x,.ref 0)]⟩=some (.ok a,s''):=e;have hr2:e_ K (fns K prims cs N0) body ρ ⟨.list (ns.map V.int)::os0.map (fun _=>O.cell none),[(x,.ref 0)]⟩=some (.ok (.ret (.bool true)),s'):=hr;rw [hr2] at e2;cases e2;cases hR with
   | ret hv=>
    cases hv;obtain ⟨xs,tb,hx,_⟩:=st'.more;refine hQ r' st'.base st'.gens st'.os fun q hq=>?_;obtain ⟨ps,hp,_⟩:=tb q hq;exact ⟨ps,(hx _ hp).1⟩
  ·have e2:e_ K (fns K prims cs N0) body ρ ⟨.list (ns.map V.int)::os0.map (fun _=>O.cell none),[(x,.ref 0)]⟩=some (.exc c,s''):=e;have hr2:e_ K (fns K prims cs N0) body ρ ⟨.list (ns.map V.int)::os0.map (fun _=>O.cell none),[(x,.ref 0)]⟩=some (.ok (.ret (.bool true)),s'):=hr;rw [hr2] at e2;cases e2
 ·exact h1.elim
end
open_top hd for PySem.Challenge.rw_np0196_01
section
open PySem PySem.Spec PySem.Calls PySem.W PyProof.Rows
section
variable (prims:Addr->List V->Option V) (cs:List (Addr×Addr×Str))
noncomputable abbrev pw(w:World):Prg:=⟨Mine.hd.heap_39 w.params,prims,cs⟩
variable {prims cs} {w:World}
theorem gk_last:getOk (Mine.hd.heap_39 w.params) 226 "last"=true:=by rfl
theorem gf_:getOk (Mine.hd.heap_39 w.params) 226 "notes"=true:=by rfl
theorem gk_zaps:getOk (Mine.hd.heap_39 w.params) 226 "zaps"=true:=by rfl
abbrev ownD(last:Int)(N Z:Nat):List (V×V):= [(.str "last",.int last),(.str "notes",.ref N),(.str "zaps",.ref Z)]
structure Base(s:S)(b bd N Z:Nat)(last:Int)(notes zaps:List (V×V)):Prop where
 inst:s.h[b]? =some (.inst 226 bd)
 own:∃ k,s.h[bd]? =some (.dict (ownD last N Z) k)
 nts:∃ k,s.h[N]? =some (.dict notes k)
 zps:∃ k,s.h[Z]? =some (.dict zaps k)
 nk:i_ notes=true/\notes.length<=900
 zk:i_ zaps=true/\zaps.length<=900
 ne:bd≠N/\bd≠Z/\N≠Z
theorem l_{es:List (V×V)}(h:i_ es=true)(i:Int):(kd_ (.int i) && k_ (.int i) es)=true:=by
 unfold i_ at h;unfold k_;simp only [kd_,Bool.true_and];rw [List.all_eq_true] at h ⊢;intro e he;have:=h e he;obtain ⟨k,v⟩:=e;cases k <;> first | rfl | cases this
theorem note_W{s:S}{b bd N Z:Nat}{last p:Int}{notes zaps:List (V×V)}{v:V}{d:Nat}{Q:V->S->Prop}{E:Addr->S->Prop}(hp:∀ a,prims 160 a=none)(B:Base s b bd N Z last notes zaps)(hx:f_ (.int p) notes=some v)(q:Q v s):
  W (pw prims cs w) (fun F=>F.call (.glob 160) [.ref b,.int p] (d+1)) Q E s:=by
 obtain ⟨k1,own⟩:=B.own;obtain ⟨k2,nts⟩:=B.nts;refine W.f (P:=pw prims cs w) (hp _) ?_;dsimp only;refine W.stC (W.sIf (W.t_ rfl (W.lo rfl (W.a_ rfl (W.lo rfl (W.g_ B.inst own gf_ rfl rfl (W.notInD nts (l_ B.nk.1 p) ?_)))))));rw [hx];refine W.stN ?_;refine W.stC (W.s_ (W.it (W.a_ rfl (W.lo rfl (W.g_ B.inst own gf_ rfl rfl (W.lo rfl (W.itemD nts (l_ B.nk.1 p) hx q)))))))
theorem mk_note:mb_ (Mine.hd.heap_39 w.params) 226 "note" 160=true:=by rfl
theorem mk_rows:mb_ (Mine.hd.heap_39 w.params) 226 "rows" 195=true:=by rfl
theorem mk_new_zap:mb_ (Mine.hd.heap_39 w.params) 226 "new_zap" 188=true:=by rfl
theorem rows_W{s:S}{b bd N Z:Nat}{last p:Int}{notes zaps:List (V×V)}{v:V}{d:Nat}{Q:V->S->Prop}{E:Addr->S->Prop}(hp:∀ a,prims 195 a=none)(B:Base s b bd N Z last notes zaps)(hx:f_ (.int p) zaps=some v)(q:Q v s):
  W (pw prims cs w) (fun F=>F.call (.glob 195) [.ref b,.int p] (d+1)) Q E s:=by
 obtain ⟨k1,own⟩:=B.own;obtain ⟨k2,zps⟩:=B.zps;refine W.f (P:=pw prims cs w) (hp _) ?_;dsimp only;refine W.stC (W.sIf (W.t_ rfl (W.lo rfl (W.a_ rfl (W.lo rfl (W.g_ B.inst own gk_zaps rfl rfl (W.notInD zps (l_ B.zk.1 p) ?_)))))));rw [hx];refine W.stN ?_;refine W.stC (W.s_ (W.it (W.a_ rfl (W.lo rfl (W.g_ B.inst own gk_zaps rfl rfl (W.lo rfl (W.itemD zps (l_ B.zk.1 p) hx q)))))))
theorem set_note_W{s:S}{b bd N Z:Nat}{last p:Int}{notes zaps:List (V×V)}{v:V}{x:Array UInt8}{d:Nat}{Q:V->S->Prop}{E:Addr->S->Prop}(hp:∀ a,prims 160 a=none)(hp2:∀ a,prims 167 a=none)(B:Base s b bd N Z last notes zaps)(hx:f_ (.int p) notes=some v)
  (q:∀ k,s.h[N]? =some (.dict notes k)->Q .none {s with h:=s.h.set N (putD (.int p) (.bytes x) notes k)}):
  W (pw prims cs w) (fun F=>F.call (.glob 167) [.ref b,.int p,.bytes x] (d+2)) Q E s:=by
 obtain ⟨k1,own⟩:=B.own;obtain ⟨k2,nts⟩:=B.nts;refine W.f (P:=pw prims cs w) (hp2 _) ?_;dsimp only;refine W.stC (W.sc_ rfl (W.cc_ rfl rfl rfl (W.lo rfl (W.m_ B.inst own mk_note rfl rfl (W.lo rfl ⟨by rfl,?_⟩)))));refine note_W hp ⟨B.inst,⟨k1,own⟩,⟨k2,nts⟩,B.zps,B.nk,B.zk,B.ne⟩ hx ?_;refine W.stC (W.sA (W.cG (by rfl) ((W.lo rfl ⟨rfl,W.ty (W.p_ (fun _=>rfl) ?_)⟩))));refine W.aI (W.a_ rfl (W.lo rfl (W.g_ B.inst own gf_ rfl rfl (W.lo rfl (W.setD nts ?_ ?_)))))
 ·rw [l_ B.nk.1 p];simpa using B.nk.2
 ·exact W.stN (q k2 nts)
theorem get_W{s:S}{b bd N Z z k:Nat}{last p:Int}{name:Str}{notes zaps es:List (V×V)}{d:Nat}{Q:V->S->Prop}{E:Addr->S->Prop}(hp:∀ a,prims 195 a=none)(hp2:∀ a,prims 202 a=none)(B:Base s b bd N Z last notes zaps)(hx:f_ (.int p) zaps=some (.ref z))(hz:s.h[z]? =some (.dict es k))(hl:k_ (.str name) es=true)
  (q:Q ((f_ (.str name) es).getD .none) s):
  W (pw prims cs w) (fun F=>F.call (.glob 202) [.ref b,.int p,.str name] (d+2)) Q E s:=by
 obtain ⟨k1,own⟩:=B.own;refine W.f (P:=pw prims cs w) (hp2 _) ?_;dsimp only;refine W.stC (W.s_ (W.cc_ rfl rfl rfl (W.cc_ rfl rfl rfl (W.lo rfl (W.m_ B.inst own mk_rows rfl rfl (W.lo rfl ⟨by rfl,?_⟩))))));refine rows_W hp ⟨B.inst,⟨k1,own⟩,B.nts,B.zps,B.nk,B.zk,B.ne⟩ hx ?_;exact W.getM hz (W.lo rfl ⟨rfl,W.bi (W.getB hz (by rw [hl];rfl) q)⟩)
theorem put_W{s:S}{b bd N Z z k:Nat}{last p n:Int}{name:Str}{notes zaps es:List (V×V)}{d:Nat}{Q:V->S->Prop}{E:Addr->S->Prop}(hp:∀ a,prims 195 a=none)(hp2:∀ a,prims 209 a=none)(B:Base s b bd N Z last notes zaps)(hx:f_ (.int p) zaps=some (.ref z))(hz:s.h[z]? =some (.dict es k))(hl:k_ (.str name) es=true)(hl2:es.length<=900)
  (hn:0<=n/\n < 2 ^ 64) (q:Q .none {s with h:=s.h.set z (putD (.str name) (.int n) es k)}):
  W (pw prims cs w) (fun F=>F.call (.glob 209) [.ref b,.int p,.str name,.int n] (d+2)) Q E s:=by
 obtain ⟨k1,own⟩:=B.own;refine W.f (P:=pw prims cs w) (hp2 _) ?_;dsimp only;refine W.stC (W.sIf (W.trNot (W.trCmp2 rfl (W.c_ rfl (W.lo rfl (W.p_ (fun _=>rfl) ?_))))));rw [decide_eq_true hn.1,if_pos rfl];refine W.b_ (W.c_ rfl (W.c_ rfl (W.p_ (fun _=>rfl) (W.p_ (fun _=>rfl) ?_))));have:decide (n < (2:Int) ^ Int.toNat 64)=true:=decide_eq_true hn.2;rw [this];refine W.stN ?_;refine W.stC (W.sA (W.lo rfl ?_));refine W.aI (W.cc_ rfl rfl rfl (W.lo rfl (W.m_ B.inst own mk_rows rfl rfl (W.lo rfl ⟨by rfl,?_⟩))));refine rows_W hp ⟨B.inst,⟨k1,own⟩,B.nts,B.zps,B.nk,B.zk,B.ne⟩ hx ?_;refine W.lo rfl (W.setD hz ?_ ?_)
 ·rw [hl];simpa [kd_] using hl2
 ·exact W.stN q
theorem names_W{s:S}{b bd N Z z k:Nat}{last p:Int}{notes zaps es:List (V×V)}{vs:List V}{d:Nat}{Q:V->S->Prop}{E:Addr->S->Prop}(hp:∀ a,prims 195 a=none)(hp2:∀ a,prims 223 a=none)(B:Base s b bd N Z last notes zaps)(hx:f_ (.int p) zaps=some (.ref z))(hz:s.h[z]? =some (.dict es k))(hl2:es.length < 64)
  (hv:sn_ (es.map (·.1))=some vs) (q:Q (.ref s.h.length) {s with h:=s.h++ [.list vs]}):
  W (pw prims cs w) (fun F=>F.call (.glob 223) [.ref b,.int p] (d+2)) Q E s:=by
 obtain ⟨k1,own⟩:=B.own;refine W.f (P:=pw prims cs w) (hp2 _) ?_;dsimp only;refine W.stC (W.s_ (W.cG (by rfl) ((W.cc_ rfl rfl rfl (W.lo rfl (W.m_ B.inst own mk_rows rfl rfl (W.lo rfl ⟨by rfl,?_⟩)))))));refine rows_W hp ⟨B.inst,⟨k1,own⟩,B.nts,B.zps,B.nk,B.zk,B.ne⟩ hx ⟨rfl,W.bi (W.sortedD hz (by simpa using hl2) hv q)⟩
theorem sk_last:setOk (Mine.hd.heap_39 w.params) 226 "last"=true:=by rfl
theorem take_W{s:S}{b bd N Z z k:Nat}{last p:Int}{name:Str}{notes zaps es:List (V×V)}{v:V}{d:Nat}{Q:V->S->Prop}{E:Addr->S->Prop}(hp:∀ a,prims 195 a=none)(hp2:∀ a,prims 216 a=none)(B:Base s b bd N Z last notes zaps)(hx:f_ (.int p) zaps=some (.ref z))(hz:s.h[z]? =some (.dict es k))(hl:k_ (.str name) es=true)(hl2:es.length<=900)
  (hv:f_ (.str name) es=some v) (q:Q v {s with h:=s.h.set z (.dict (da_ (.str name) es) (k+1))}):
  W (pw prims cs w) (fun F=>F.call (.glob 216) [.ref b,.int p,.str name] (d+2)) Q E s:=by
 obtain ⟨k1,own⟩:=B.own;refine W.f (P:=pw prims cs w) (hp2 _) ?_;dsimp only;refine W.stC (W.sA (W.cc_ rfl rfl rfl (W.lo rfl (W.m_ B.inst own mk_rows rfl rfl (W.lo rfl ⟨by rfl,?_⟩)))));refine rows_W hp ⟨B.inst,⟨k1,own⟩,B.nts,B.zps,B.nk,B.zk,B.ne⟩ hx ?_;refine W.asN rfl ?_;refine W.stC (W.sIf (W.t_ rfl (W.lo rfl (W.lo rfl (W.notInD hz (by rw [hl];rfl) ?_)))));rw [hv];refine W.stN ?_;refine W.stC (W.s_ (W.cc_ rfl rfl rfl (W.lo rfl (W.dpopM hz (W.lo rfl ⟨rfl,W.bi (W.popB hz ?_ hv q)⟩)))));rw [hl];simpa [kd_] using hl2
theorem is_there_W{s:S}{b bd N Z:Nat}{last p:Int}{notes zaps:List (V×V)}{d:Nat}{Q:V->S->Prop}{E:Addr->S->Prop}(hp2:∀ a,prims 146 a=none)(B:Base s b bd N Z last notes zaps)
  (q:Q (.bool ((f_ (.int p) notes).isSome || (f_ (.int p) zaps).isSome)) s):
  W (pw prims cs w) (fun F=>F.call (.glob 146) [.ref b,.int p] (d+1)) Q E s:=by
 obtain ⟨k1,own⟩:=B.own;obtain ⟨k2,nts⟩:=B.nts;obtain ⟨k3,zps⟩:=B.zps;refine W.f (P:=pw prims cs w) (hp2 _) ?_;dsimp only;refine W.stC (W.s_ (W.or ?_));refine W.cmp1 rfl (W.lo rfl (W.a_ rfl (W.lo rfl (W.g_ B.inst own gf_ rfl rfl (W.inD nts (l_ B.nk.1 p) ?_)))));refine W.pure ?_;cases hn:(f_ (.int p) notes).isSome with
 | true=>rw [hn] at q;exact q
 | false=>
  rw [hn] at q;exact W.cmp1 rfl (W.lo rfl (W.a_ rfl (W.lo rfl (W.g_ B.inst own gk_zaps rfl rfl (W.inD zps (l_ B.zk.1 p) q)))))
theorem findLast{last:Int}{N Z:Nat}:(f_ (.str "last") (ownD last N Z)).bind handV=some (.int last):=by rfl
theorem putLast{last l2:Int}{N Z k:Nat}:putD (.str "last") (.int l2) (ownD last N Z) k= .dict (ownD l2 N Z) k:=by rfl
theorem new_note_W{s:S}{b bd N Z:Nat}{last:Int}{notes zaps:List (V×V)}{x:Array UInt8}{d:Nat}{Q:V->S->Prop}{E:Addr->S->Prop}(hp2:∀ a,prims 153 a=none)(B:Base s b bd N Z last notes zaps)
  (q:∀ k1 k2,s.h[bd]? =some (.dict (ownD last N Z) k1)->s.h[N]? =some (.dict notes k2)->Q (.int (last+1)) {s with h:=(s.h.set bd (.dict (ownD (last+1) N Z) k1)).set N (putD (.int (last+1)) (.bytes x) notes k2)}):
  W (pw prims cs w) (fun F=>F.call (.glob 153) [.ref b,.bytes x] (d+1)) Q E s:=by
 obtain ⟨k1,own⟩:=B.own;obtain ⟨k2,nts⟩:=B.nts;have hne:bd≠b:=fun z=>by have:=B.inst;rw [<-z,own] at this;cases this
 refine W.f (P:=pw prims cs w) (hp2 _) ?_;dsimp only;refine W.stC (W.sA (W.b_ (W.a_ rfl (W.lo rfl (W.g_ B.inst own gk_last rfl findLast (W.c_ rfl (W.p_ (fun _=>rfl) ?_)))))));refine W.asA (W.lo rfl (W.sh_ B.inst own sk_last (by rfl) ?_));rw [putLast];have i1:=gb_ (p:= .dict (ownD (last+1) N Z) k1) hne B.inst;have o1:=ge_ (p:= .dict (ownD (last+1) N Z) k1) own;have n1:=gb_ (p:= .dict (ownD (last+1) N Z) k1) B.ne.1 nts;have hne2:N≠b:=fun z=>by have:=B.inst;rw [<-z,nts] at this;cases this
 have i2:=gb_ (p:=putD (.int (last+1)) (.bytes x) notes k2) hne2 i1;have o2:=gb_ (p:=putD (.int (last+1)) (.bytes x) notes k2) (Ne.symm B.ne.1) o1;refine W.stC (W.sA (W.cG (by rfl) ((W.lo rfl ⟨rfl,W.ty (W.p_ (fun _=>rfl) ?_)⟩))));refine W.aI (W.a_ rfl (W.lo rfl (W.g_ i1 o1 gf_ rfl rfl (W.a_ rfl (W.lo rfl (W.g_ i1 o1 gk_last rfl findLast (W.setD n1 ?_ ?_)))))))
 ·rw [l_ B.nk.1];simpa using B.nk.2
 refine W.stC (W.s_ (W.a_ rfl (W.lo rfl (W.g_ i2 o2 gk_last rfl findLast (q k1 k2 own nts)))))
theorem new_zap_W{s:S}{b bd N Z:Nat}{last:Int}{notes zaps:List (V×V)}{d:Nat}{Q:V->S->Prop}{E:Addr->S->Prop}(hp2:∀ a,prims 188 a=none)(B:Base s b bd N Z last notes zaps)
  (q:∀ k1 k2,s.h[bd]? =some (.dict (ownD last N Z) k1)->s.h[Z]? =some (.dict zaps k2)->Q (.int (last+1)) {s with h:=(s.h.set bd (.dict (ownD (last+1) N Z) k1)++ [O.dict [] 0]).set Z (putD (.int (last+1)) (.ref s.h.length) zaps k2)}):
  W (pw prims cs w) (fun F=>F.call (.glob 188) [.ref b] (d+1)) Q E s:=by
 obtain ⟨k1,own⟩:=B.own;obtain ⟨k2,zps⟩:=B.zps;have hne:bd≠b:=fun z=>by have:=B.inst;rw [<-z,own] at this;cases this
 refine W.f (P:=pw prims cs w) (hp2 _) ?_;dsimp only;refine W.stC (W.sA (W.b_ (W.a_ rfl (W.lo rfl (W.g_ B.inst own gk_last rfl findLast (W.c_ rfl (W.p_ (fun _=>rfl) ?_)))))));refine W.asA (W.lo rfl (W.sh_ B.inst own sk_last (by rfl) ?_));rw [putLast];have hne2:Z≠b:=fun z=>by have:=B.inst;rw [<-z,zps] at this;cases this
 have i1:=ga_ (t:= [O.dict [] 0]) (gb_ (p:= .dict (ownD (last+1) N Z) k1) hne B.inst);have o1:=ga_ (t:= [O.dict [] 0]) (ge_ (p:= .dict (ownD (last+1) N Z) k1) own);have n1:=ga_ (t:= [O.dict [] 0]) (gb_ (p:= .dict (ownD (last+1) N Z) k1) B.ne.2.1 zps);refine W.stC (W.sA (W.dict0 ?_));have hlen:(s.h.set bd (.dict (ownD (last+1) N Z) k1)).length=s.h.length:=List.length_set;dsimp only;rw [hlen];have i2:=gb_ (p:=putD (.int (last+1)) (.ref s.h.length) zaps k2) hne2 i1;have o2:=gb_ (p:=putD (.int (last+1)) (.ref s.h.length) zaps k2) (Ne.symm B.ne.2.1) o1;refine W.aI (W.a_ rfl (W.lo rfl (W.g_ i1 o1 gk_zaps rfl rfl (W.a_ rfl (W.lo rfl (W.g_ i1 o1 gk_last rfl findLast (W.setD n1 ?_ ?_)))))))
 ·rw [l_ B.zk.1];simpa using B.zk.2
 refine W.stC (W.s_ (W.a_ rfl (W.lo rfl (W.g_ i2 o2 gk_last rfl findLast (q k1 k2 own zps)))))
theorem drop_note_W{s:S}{b bd N Z:Nat}{last p:Int}{notes zaps:List (V×V)}{v:V}{d:Nat}{Q:V->S->Prop}{E:Addr->S->Prop}(hp2:∀ a,prims 181 a=none)(B:Base s b bd N Z last notes zaps)(hv:f_ (.int p) notes=some v)
  (q:∀ k,s.h[N]? =some (.dict notes k)->Q .none {s with h:=s.h.set N (.dict (da_ (.int p) notes) (k+1))}):
  W (pw prims cs w) (fun F=>F.call (.glob 181) [.ref b,.int p] (d+1)) Q E s:=by
 obtain ⟨k1,own⟩:=B.own;obtain ⟨k2,nts⟩:=B.nts;refine W.f (P:=pw prims cs w) (hp2 _) ?_;dsimp only;refine W.stC (W.sIf (W.t_ rfl (W.lo rfl (W.a_ rfl (W.lo rfl (W.g_ B.inst own gf_ rfl rfl (W.inD nts (l_ B.nk.1 p) ?_)))))));rw [hv];refine W.stC (W.sDelete (W.a_ rfl (W.lo rfl (W.g_ B.inst own gf_ rfl rfl (W.lo rfl (W.delD nts ?_ ?_))))))
 ·rw [l_ B.nk.1,hv];simpa using B.nk.2
 exact W.stN (W.stN (q k2 nts))
theorem drop_zap_W{s:S}{b bd N Z:Nat}{last p:Int}{notes zaps:List (V×V)}{v:V}{d:Nat}{Q:V->S->Prop}{E:Addr->S->Prop}(hp2:∀ a,prims 181 a=none)(B:Base s b bd N Z last notes zaps)(hn:f_ (.int p) notes=none)(hv:f_ (.int p) zaps=some v)
  (q:∀ k,s.h[Z]? =some (.dict zaps k)->Q .none {s with h:=s.h.set Z (.dict (da_ (.int p) zaps) (k+1))}):
  W (pw prims cs w) (fun F=>F.call (.glob 181) [.ref b,.int p] (d+1)) Q E s:=by
 obtain ⟨k1,own⟩:=B.own;obtain ⟨k2,nts⟩:=B.nts;obtain ⟨k3,zps⟩:=B.zps;refine W.f (P:=pw prims cs w) (hp2 _) ?_;dsimp only;refine W.stC (W.sIf (W.t_ rfl (W.lo rfl (W.a_ rfl (W.lo rfl (W.g_ B.inst own gf_ rfl rfl (W.inD nts (l_ B.nk.1 p) ?_)))))));rw [hn];refine W.stC (W.sIf (W.t_ rfl (W.lo rfl (W.a_ rfl (W.lo rfl (W.g_ B.inst own gk_zaps rfl rfl (W.inD zps (l_ B.zk.1 p) ?_)))))));rw [hv];refine W.stC (W.sDelete (W.a_ rfl (W.lo rfl (W.g_ B.inst own gk_zaps rfl rfl (W.lo rfl (W.delD zps ?_ ?_))))))
 ·rw [l_ B.zk.1,hv];simpa using B.zk.2
 exact W.stN (W.stN (W.stN (q k3 zps)))
theorem mk_init:findIn (Mine.hd.heap_39 w.params) (.ref 226) "__init__"=some (some (.ref 139)):=by rfl
theorem sk_notes:setOk (Mine.hd.heap_39 w.params) 226 "notes"=true:=by rfl
theorem sk_zaps:setOk (Mine.hd.heap_39 w.params) 226 "zaps"=true:=by rfl
def newBase(n k1 k2:Nat):List O:= [.dict (ownD 1 (n+2) (n+3)) k1,.inst 226 n,.dict [] 0,.dict [(.int 1,.ref (n+4))] k2,.dict [] 0]
theorem base_W{s:S}{d:Nat}{Q:V->S->Prop}{E:Addr->S->Prop}(hp:prims 226 []=none)(hp2:∀ a,prims 188 a=none)
  (q:∀ k1 k2,Q (.ref (s.h.length+1)) {s with h:=s.h++newBase s.h.length k1 k2}):
  W (pw prims cs w) (fun F=>F.call (.glob 226) [] (d+3)) Q E s:=by
 refine W.make (P:=pw prims cs w) hp (hK:=by rfl) mk_init (hK2:=by rfl) (by rfl) ?_;refine W.fd (P:=pw prims cs w) (hb:=rfl) (hf:=rfl) (hok:=by rfl) (hs:=rfl) (hq:=rfl) (hc:=fun _=>rfl) (hl:=fun _=>rfl) ?_;dsimp only;generalize hn:s.h.length=n;have a0:(s.h++ [O.dict [] 0]++ [.inst 226 n])[n]? =some (.dict [] 0):=by subst hn;simp
 have b0:(s.h++ [O.dict [] 0]++ [.inst 226 n])[n+1]? =some (.inst 226 n):=by subst hn;simp
 refine W.stC (W.sA (W.c_ rfl (W.asA (W.lo rfl (W.sh_ b0 a0 sk_last (by rfl) ?_)))));refine W.heap (h':=s.h++ [.dict [(.str "last",.int 0)] 1,.inst 226 n]) (by subst hn;simp [putD,putK,f_]) ?_;refine W.stC (W.sA (W.dict0 ?_));refine W.asA (W.lo rfl (W.sh_ (C:=226) (d:=n) (es:= [(.str "last",.int 0)]) (k:=1) (by subst hn;simp) (by subst hn;simp) sk_notes (by rfl) ?_));refine W.heap (h':=s.h++ [.dict [(.str "last",.int 0),(.str "notes",.ref (n+2))] 2,.inst 226 n,.dict [] 0]) (by
  dsimp only;rw [show putD (.str "notes") (.ref (s.h++ [O.dict [(.str "last",.int 0)] 1,.inst 226 n]).length) [(.str "last",.int 0)] 1=O.dict [(.str "last",.int 0),(.str "notes",.ref (s.h++ [O.dict [(.str "last",.int 0)] 1,.inst 226 n]).length)] 2 from rfl];subst hn;simp) ?_
 refine W.stC (W.sA (W.dict0 ?_));refine W.asA (W.lo rfl (W.sh_ (C:=226) (d:=n) (es:= [(.str "last",.int 0),(.str "notes",.ref (n+2))]) (k:=2) (by subst hn;simp) (by subst hn;simp) sk_zaps (by rfl) ?_));refine W.heap (h':=s.h++ [.dict (ownD 0 (n+2) (n+3)) 3,.inst 226 n,.dict [] 0,.dict [] 0]) (by
  dsimp only;generalize hm:(s.h++ [O.dict [(.str "last",.int 0),(.str "notes",.ref (n+2))] 2,.inst 226 n,.dict [] 0]).length=m;have hm:m=n+3:=by subst hn;rw [<-hm];simp
  rw [show putD (.str "zaps") (.ref m) [(.str "last",.int 0),(.str "notes",.ref (n+2))] 2=O.dict [(.str "last",.int 0),(.str "notes",.ref (n+2)),(.str "zaps",.ref m)] 3 from rfl];subst hm hn;simp) ?_
 have B:Base {h:=s.h++ [.dict (ownD 0 (n+2) (n+3)) 3,.inst 226 n,.dict [] 0,.dict [] 0],l:= [(Str.ofString "self",.ref (n+1))]} (n+1) n (n+2) (n+3) 0 [] []:=
  {inst:=by subst hn;simp,own:=⟨3,by subst hn;simp⟩,nts:=⟨0,by subst hn;simp⟩,zps:=⟨0,by subst hn;simp⟩,nk:=⟨rfl,by simp⟩,zk:=⟨rfl,by simp⟩,ne:=by omega}
 refine W.stC (W.sc_ rfl (W.cc_ rfl rfl rfl (W.lo rfl (W.m_ (C:=226) (d:=n) (es:=ownD 0 (n+2) (n+3)) (k:=3) B.inst (by subst hn;simp) mk_new_zap rfl rfl ⟨by rfl,?_⟩))));refine new_zap_W hp2 B fun k1 k2 e1 e2=>?_;refine W.stN ⟨rfl,?_⟩;have key:∀ h',h'=s.h++newBase s.h.length k1 (k2+1)->Q (.ref (s.h.length+1)) {h:=h',l:=s.l}:=fun h' e=>e▸q k1 (k2+1);subst hn;refine key _ ?_;have e3:putD (.int (0+1)) (.ref (s.h++ [O.dict (ownD 0 (s.h.length+2) (s.h.length+3)) 3,.inst 226 s.h.length,.dict [] 0,.dict [] 0]).length) [] k2=O.dict [(.int 1,.ref (s.h.length+4))] (k2+1):=by
  rw [List.length_append];rfl
 dsimp only;rw [e3];simp [newBase]
end
section
def numOf:List UInt8->Nat
 | []=>0
 | b::r=>b.toNat+256*numOf r
def octs:Nat->Nat->List UInt8
 | 0,_=> []
 | k+1,n=>UInt8.ofNat (n % 256)::octs k (n / 256)
def pr0(_:Addr)(_:List V):Option V:=none
theorem pr0_none{a:Addr}(_:a≠235)(_:a≠240)(vs:List V):pr0 a vs=none:=rfl
theorem ol_:∀ k n,(octs k n).length=k
 | 0,_=>rfl
 | k+1,n=>by simp [octs,ol_ k]
theorem numOf_octs:∀ k n,n < 256 ^ k->numOf (octs k n)=n
 | 0,n,h=>by simp at h;simp [octs,numOf,h]
 | k+1,n,h=>by
  have ih:=numOf_octs k (n / 256) (by rw [Nat.pow_succ] at h;exact Nat.div_lt_of_lt_mul (by omega));simp only [octs,numOf,ih];have:(UInt8.ofNat (n % 256)).toNat=n % 256:=by simp
  rw [this];omega
theorem sum_mul(c:Int):∀ l:List Int,(l.map fun x=>c*x).sum=c*l.sum
 | []=>by simp
 | x::r=>by rw [List.map_cons,List.sum_cons,List.sum_cons,sum_mul c r,Int.mul_add]
theorem numOf_sum:∀ l:List UInt8,((List.range l.length).map fun j=>((l.getD j 0).toNat:Int)*2 ^ (8*j)).sum=(numOf l:Int)
 | []=>rfl
 | b::r=>by
  have ih:=numOf_sum r;rw [List.length_cons,List.range_succ_eq_map,List.map_cons,List.sum_cons,List.map_map];have e:(List.range r.length).map ((fun j=>(((b::r).getD j 0).toNat:Int)*2 ^ (8*j))∘Nat.succ)=((List.range r.length).map fun j=>((r.getD j 0).toNat:Int)*2 ^ (8*j)).map fun x=>256*x:=by
   rw [List.map_map];refine List.map_congr_left fun j _=>?_;simp only [Function.comp,List.getD_cons_succ];have:(2:Int) ^ (8*Nat.succ j)=256*2 ^ (8*j):=by
    rw [show 8*Nat.succ j=8*j+8 from rfl,Int.pow_add];rw [Int.mul_comm];rfl
   rw [this,<-Int.mul_assoc,<-Int.mul_assoc,Int.mul_comm _ 256]
  rw [e,sum_mul,ih];simp [numOf]
def rowB(ns:List Int):Array UInt8:=Builtin.Bytes.joined #[] (ns.map fun n=>(octs 8 n.toNat).toArray)
theorem bytesOf_map:∀ bs:List (Array UInt8),bytesOf (bs.map V.bytes)=some bs
 | []=>rfl
 | b::r=>by simp [bytesOf,bytesOf_map r]
theorem ints_of(l:List Int):ic_ (l.map V.int)=some l:=by
 induction l with
 | nil=>rfl
 | cons x r ih=>rw [List.map_cons];unfold ic_;rw [ih];rfl
theorem it_{s:S}{n:Nat}{vs:List V}(h:s.h[n]? =some (.tup vs)):itemsM (.ref n) s=some (.ok vs,s):=by
 show M.bind (Mine.geto n) _ s=_;unfold M.bind Mine.geto;rw [h];rfl
theorem put_ne{x y:Str}{v u:V}(h:y≠x):∀ {l:List (Str×V)},l.lookup y=some u->(putA x v l).lookup y=some u
 | [],e=>by cases e
 | (z,t)::r,e=>by
  unfold putA;rw [List.lookup_cons] at e;by_cases hz:z=x
  ·rw [if_pos hz,List.lookup_cons];have h2:(y==z)=false:=by rw [hz];simpa using h
   rw [h2] at e ⊢;exact e
  ·rw [if_neg hz,List.lookup_cons];cases q:(y==z) with
   | true=>rw [q] at e;exact e
   | false=>rw [q] at e;exact put_ne h e
section
variable {P:Prg} {E:Addr->S->Prop} {s:S} {ρ:Ev}
theorem W.bjoin{n:Nat}{bs:List (Array UInt8)}{b:Array UInt8}{Q:V->S->Prop}(hn:s.h[n]? =some (.list (bs.map V.bytes)))(hz:decide (2<=bs.length/\b.size=0/\(bs.map (·.size)).sum<=100000)=true)(q:Q (.bytes (Builtin.Bytes.joined b bs)) s):W P (fun _=>cd_ "bytes.join" [.bytes b,.ref n]) Q E s:=
 W.bind (W.gc_ hn (W.pure (W.opt (bytesOf_map bs) (W.n_ hz (W.pure q)))))
theorem W.bjoinM{b:Array UInt8}{Q:V×List V->S->Prop}(q:Q (.bi "bytes.join",[.bytes b]) s):W P (fun _=>ma_ P.K (.bytes b) "join") Q E s:=W.p_ (fun _=>rfl) q
theorem W.sumL{n:Nat}{xs:List Int}{Q:V->S->Prop}(hn:s.h[n]? =some (.list (xs.map V.int)))(q:Q (.int xs.sum) s):W P (fun _=>cd_ "sum" [.ref n]) Q E s:=W.bind (W.gc_ hn (W.pure (W.opt (ints_of xs) (W.pure q))))
theorem W.bytesL{n:Nat}{xs:List Int}{Q:V->S->Prop}(hn:s.h[n]? =some (.list (xs.map V.int)))(hz:xs.length<=1000)(hr:∀ x∈xs,0<=x/\x < 256)(q:Q (.bytes (byteArr xs)) s):W P (fun _=>callTy "bytes" [.ref n]) Q E s:=
 W.bind (W.gc_ hn (W.pure (W.opt (ints_of xs) (W.n_ (by
  rw [Bool.and_eq_true,List.length_map,List.all_eq_true];exact ⟨decide_eq_true hz,fun x hx=>decide_eq_true (hr x hx)⟩) (W.pure q)))))
theorem W.enumT{b:Array UInt8}{Q:V->S->Prop}(q:Q (.ref (s.h.length+1)) {s with h:=s.h++ [.itB b 0,.itE s.h.length 0 none]}):W P (fun _=>callTy "enumerate" [.bytes b]) Q E s:=
 W.bind (W.alloc (W.bind (W.alloc (W.pure (by simpa using q)))))
theorem W.iterE{e n i:Nat}{o:Option Nat}{Q:Nat->S->Prop}(he:s.h[e]? =some (.itE n i o))(q:Q e s):W P (fun _=>id_ (.ref e)) Q E s:=W.gc_ he (W.pure q)
theorem W.ownE{xs:List Expr}{k k2:Nat}{p:Pos}{it n i:Nat}{Q:Unit->S->Prop}(hi:s.h[it]? =some (.itE n i (some k2)))(q:Q () {s with h:=s.h.set it (.itE n i none)}):W P (fun _=>ownM (.Tuple xs k p) it (.ref k2)) Q E s:=
 W.gc_ hi (W.n_ (decide_eq_true rfl) (W.seto (gl_ hi) q))
theorem W.nextE{it n i:Nat}{b:Array UInt8}{Q:Option V->S->Prop}(hi:s.h[it]? =some (.itE n i none))(hn:s.h[n]? =some (.itB b i))(hle:i<=b.size)(hne:n≠it)
  (h1:∀ c,b[i]? =some c->Q (some (.ref s.h.length)) {s with h:=(s.h.set n (.itB b (i+1))).set it (.itE n (i+1) (some s.h.length))++ [.tup [.int i,.int (c.toNat:Int)]]})
  (h2:b[i]? =none->Q none {s with h:=s.h.set n .dead}):W P (fun _=>nextM it) Q E s:=by
 refine W.gc_ hi (W.gc_ hn (W.n_ (decide_eq_true ⟨rfl,hle,hne⟩) ?_));cases e:b[i]? with
 | some c=>exact W.ret (a:=some (.ref s.h.length)) (fun _=>rfl) (h1 c e)
 | none=>exact W.bind (W.seto (gl_ hn) (W.pure (h2 e)))
theorem W.coE{x1 x2:Str}{p1 p2 p3:Pos}{k:Nat}{elt:Expr}{n e acc:Nat}{h0:List O}{b:Array UInt8}{f:Nat->UInt8->Int}(hx1:ρ.scope.names.lookup x1=some .local)(hx2:ρ.scope.names.lookup x2=some .local)(hne:x1≠x2)(hz:b.size<=1000)(l1:h0.length<=n)(l2:h0.length<=e)(l3:h0.length<=acc)(d1:n≠e)(d2:acc≠n)(d3:acc≠e)
  (el:∀ i c h lo,b[i]? =some c->Pre h0 h->lo.lookup x1=some (.int (i:Int))->lo.lookup x2=some (.int (c.toNat:Int))->W P (fun F=>F.ev elt ρ) (fun y s'=>y= .int (f i c)/\Pre h s'.h/\s'.l=lo) (fun _ _=>False) {h:=h,l:=lo}):
  ∀ (m i:Nat) (s:S),i+m=b.size->Pre h0 s.h->s.h[n]? =some (.itB b i)->s.h[e]? =some (.itE n i none)->s.h[acc]? =some (.list (((List.range i).map fun j=>f j (b.toList.getD j 0)).map V.int))->
   W P (fun F=>F.co (.Tuple [.Name x1 p1,.Name x2 p2] k p3) elt [] e acc ρ) (fun _ s'=>Pre h0 s'.h/\s'.h[acc]? =some (.list (((List.range b.size).map fun j=>f j (b.toList.getD j 0)).map V.int))) (fun _ _=>False) s
 | 0,i,s,hm,hp,hn,he,ha=>by
  have hi:i=b.size:=by omega
  subst hi;refine W.coT (W.nextE he hn (Nat.le_refl _) d1 (fun c hc=>?_) fun _=>⟨hp.set l1,gb_ (Ne.symm d2) ha⟩);have:=(Array.getElem?_eq_some_iff.mp hc).1;omega
 | m+1,i,s,hm,hp,hn,he,ha=>by
  refine W.coT (W.nextE he hn (by omega) d1 (fun c hc=>?_) fun hc=>?_)
  ·have len1:((s.h.set n (.itB b (i+1))).set e (.itE n (i+1) (some s.h.length))).length=s.h.length:=by simp
   have le:=gl_ he;have lacc:=gl_ ha;have ln:=gl_ hn;generalize hs1:(s.h.set n (.itB b (i+1))).set e (.itE n (i+1) (some s.h.length))=h1 at len1;have q1:h1[n]? =some (.itB b (i+1)):=by subst hs1;exact gb_ (Ne.symm d1) (ge_ hn)
   have q2:h1[e]? =some (.itE n (i+1) (some s.h.length)):=by subst hs1;exact ge_ (gb_ d1 he)
   have q3:=ha;replace q3:h1[acc]? =some (.list (((List.range i).map fun j=>f j (b.toList.getD j 0)).map V.int)):=by subst hs1;exact gb_ (Ne.symm d3) (gb_ (Ne.symm d2) q3)
   have hp1:Pre h0 h1:=by subst hs1;exact (hp.set l1).set l2
   refine W.ownE (ga_ q2) ?_;have q4:((h1++ [O.tup [.int i,.int (c.toNat:Int)]]).set e (.itE n (i+1) none))[s.h.length]? =some (.tup [.int i,.int (c.toNat:Int)]):=gb_ (by omega) (by rw [<-len1];exact gn_);refine W.asT (it_ q4) rfl (W.a1 (W.asN hx1 (W.a1 (W.asN hx2 (W.as0 (W.test0 ?_))))));rw [if_pos rfl];have hp2:Pre h0 ((h1++ [O.tup [.int i,.int (c.toNat:Int)]]).set e (.itE n (i+1) none)):=(hp1.trans (Pre.app _ _)).set l2;refine (el i c _ _ hc hp2 ?_ ?_).post fun y s3 ⟨hy,hp4,hl3⟩=>?_
   ·exact put_ne hne (lp_ _)
   ·exact lp_ _
   subst hy;have a1:=hp4.get (gb_ (p:=O.itE n (i+1) none) (Ne.symm d3) (ga_ (t:= [O.tup [.int i,.int (c.toNat:Int)]]) q3));refine W.appendB a1 (decide_eq_true (by simp;omega)) ?_;refine W.coE hx1 hx2 hne hz l1 l2 l3 d1 d2 d3 el m (i+1) _ (by omega) ((hp2.trans hp4).set l3) (gb_ d2 (hp4.get (gb_ (Ne.symm d1) (ga_ q1)))) (gb_ d3 (hp4.get (ge_ (ga_ q2)))) ?_;have hg:b.toList.getD i 0=c:=by rw [List.getD_eq_getElem?_getD,Array.getElem?_toList,hc];rfl
   rw [List.range_succ,List.map_append,List.map_append,List.map_cons,List.map_nil,hg];exact ge_ a1
  ·have:=Array.getElem?_eq_none_iff.mp hc;omega
end
variable {cs:List (Addr×Addr×Str)} {w:World}
theorem number_of_W{s:S}{b:Array UInt8}{d:Nat}{Q:V->S->Prop}{E:Addr->S->Prop}(hb:b.size<=8)(q:∀ h,Pre s.h h->Q (.int (numOf b.toList)) {h:=h,l:=s.l}):
  W (pw pr0 cs w) (fun F=>F.call (.glob 235) [.bytes b] (d+1)) Q E s:=by
 refine W.f (P:=pw pr0 cs w) (rfl:pr0 235 [.bytes b]=none) ?_;dsimp only;refine W.stC (W.s_ (W.cG (by rfl) ((W.comp (cells:= []) rfl rfl (W.cG (by rfl) ((W.lo rfl ⟨rfl,W.ty (W.enumT (W.iterE (n:=s.h.length) (i:=0) (o:=none) (by simp) ?_))⟩)))))));dsimp only;have hl:(s.h++ [O.itB b 0,O.itE s.h.length 0 none]).length=s.h.length+2:=by simp
 have p1:Pre s.h (s.h++ [O.itB b 0,O.itE s.h.length 0 none]++ [O.list []]):=(Pre.app _ _).trans (Pre.app _ _);refine (W.coE (h0:=s.h) (b:=b) (n:=s.h.length) (f:=fun i c=>(c.toNat:Int)*2 ^ (8*i)) rfl rfl (by decide) (by omega) (by omega) (by omega) (by rw [hl];omega) (by omega) (by rw [hl];omega) (by rw [hl];omega) ?_ b.size 0 _ (by omega) p1 (by simp) (by simp) ?_).mono (fun _ s3 ⟨h1,h2⟩=>?_) (fun _ _ h=>h.elim)
 ·intro i c h lo hc hp hi hcc;have hi8:i < 8:=by have:=(Array.getElem?_eq_some_iff.mp hc).1;omega
  have hc8:=c.toNat_lt;refine W.b_ (W.lo hcc (W.b_ (W.c_ rfl (W.lo hi (W.p_ (a:= .int (8*(i:Int))) (fun _=>?_) (W.p_ (a:= .int ((c.toNat:Int)*2 ^ (8*i))) (fun _=>?_) ⟨rfl,Pre.refl _,rfl⟩))))))
  ·show (if (8:Int).natAbs < 2 ^ 64/\(i:Int).natAbs < 2 ^ 64 then Pure.pure (V.int (8*(i:Int))) else Mine.fail)=_;rw [if_pos ⟨by decide,by omega⟩]
  ·show (if (c.toNat:Int).natAbs < 2 ^ 64/\0<=8*(i:Int)/\8*(i:Int)<=64 then Pure.pure (V.int ((c.toNat:Int)*2 ^ (8*(i:Int)).toNat)) else Mine.fail)=_;rw [if_pos ⟨by omega,by omega,by omega⟩];have:(8*(i:Int)).toNat=8*i:=by omega
   rw [this]
 ·exact gn_
 ·refine ⟨rfl,W.bi (W.sumL h2 ?_)⟩;have key:=numOf_sum b.toList;rw [Array.length_toList] at key;rw [key];exact q s3.h h1
theorem octs_get:∀ (k n i:Nat),i < k->(octs k n)[i]? =some (UInt8.ofNat (n / 256 ^ i % 256))
 | 0,n,i,h=>by omega
 | k+1,n,0,h=>by simp [octs]
 | k+1,n,i+1,h=>by
  have ih:=octs_get k (n / 256) i (by omega);rw [octs,List.getElem?_cons_succ,ih,Nat.div_div_eq_div_mul,Nat.pow_succ,Nat.mul_comm 256]
theorem octets_of_W{s:S}{n:Int}{d:Nat}{Q:V->S->Prop}{E:Addr->S->Prop}(hn:0<=n/\n < 256 ^ 8)(q:∀ h,Pre s.h h->Q (.bytes (octs 8 n.toNat).toArray) {h:=h,l:=s.l}):
  W (pw pr0 cs w) (fun F=>F.call (.glob 240) [.int n,.int 8] (d+1)) Q E s:=by
 refine W.fnK (P:=pw pr0 cs w) (rfl:pr0 240 [.int n,.int 8]=none) (hK:=by rfl) (hb:=rfl) (hf:=rfl) (hok:=by rfl) (hs:=rfl) (hq:=rfl) (hbs:=rfl) (hc:=rfl) ?_;dsimp only;refine W.parC rfl rfl gn_ (W.parL rfl (W.par0 ?_));dsimp only;refine W.heap (h':=s.h++ [.cell (some (.int n))]) (by simp) ?_;dsimp only;have hc:(s.h++ [O.cell (some (.int n))])[s.h.length]? =some (.cell (some (.int n))):=gn_;refine W.stC (W.sIf (W.trNot (W.trCmp2 rfl (W.c_ rfl (W.cI hc (W.p_ (a:=decide (0<=n)) (fun _=>rfl) ?_))))));rw [decide_eq_true hn.1,if_pos rfl];refine W.b_ (W.c_ rfl (W.lo rfl (W.p_ (a:= .int (256 ^ 8)) (fun _=>rfl) (W.p_ (a:=decide (n < 256 ^ 8)) (fun _=>rfl) ?_))));rw [decide_eq_true hn.2];refine W.stN (W.stC (W.s_ (W.cG (by rfl) ((W.compR (cells:= [("number",s.h.length)]) rfl rfl rfl (W.cG (by rfl) ((W.lo rfl ⟨rfl,W.ty ?_⟩))))))));refine W.bind (W.alloc (W.pure ⟨_,0,8,1,8,fun v=>match v with | .int i=> .int (n / 256 ^ i.toNat % 256) | v=>v,fun _=>true,rfl,gn_,by decide,by decide,by decide,⟨?_,?_⟩,?_⟩))
 ·intro v hv h lo hp hlo;exact W.test0 ⟨rfl,Pre.refl _,rfl⟩
 ·intro v hv _ h lo hp hlo;obtain ⟨i,hi,rfl⟩:=List.mem_map.mp hv;have hi:i < 8:=by simpa using hi
  have e0:(0:Int)+1*(i:Int)=(i:Int):=by omega
  rw [e0] at hlo ⊢;have hc':=hp.get (ga_ (t:= [O.rng 0 8 1]) hc);refine W.b_ (W.b_ (W.cI hc' (W.b_ (W.c_ rfl (W.lo hlo (W.p_ (a:= .int (8*(i:Int))) (fun _=>?_) (W.p_ (a:= .int (n / 256 ^ i)) (fun _=>?_) (W.c_ rfl (W.p_ (a:= .int (n / 256 ^ i % 256)) (fun _=>?_) ⟨rfl,Pre.refl _,rfl⟩)))))))))
  ·show (if (8:Int).natAbs < 2 ^ 64/\(i:Int).natAbs < 2 ^ 64 then Pure.pure (V.int (8*(i:Int))) else Mine.fail)=_;rw [if_pos ⟨by decide,by omega⟩]
  ·show (if 0<=8*(i:Int)/\8*(i:Int)<=64 then Pure.pure (V.int (n.fdiv (2 ^ (8*(i:Int)).toNat))) else Mine.fail)=_;rw [if_pos ⟨by omega,by omega⟩];have e1:(8*(i:Int)).toNat=8*i:=by omega
   have e2:(2:Int) ^ (8*i)=256 ^ i:=by rw [Int.pow_mul];rfl
   rw [e1,e2,Int.fdiv_eq_ediv_of_nonneg _ (Int.le_of_lt (Int.pow_pos (by decide)))]
  ·show Pure.pure (V.int (Builtin.bitAnd (n / 256 ^ i) 255))=_;rw [bitAnd_m8]
 ·intro h acc hp ha hacc;have e9:List.map (fun v=>match v with | V.int i=>V.int (n / 256 ^ i.toNat % 256) | v=>v) (List.filter (fun _=>true) ((List.range 8).map fun i:Nat=>V.int (0+1*(i:Int))))=((List.range 8).map fun i:Nat=>n / 256 ^ i % 256).map V.int:=by
   rw [List.filter_eq_self.mpr (fun _ _=>rfl),List.map_map,List.map_map];refine List.map_congr_left fun i _=>?_;have:(0+1*(i:Int)).toNat=i:=by omega
   simp only [Function.comp,this]
  rw [e9] at hacc;refine ⟨rfl,W.ty (W.bytesL hacc (by simp) (fun x hx=>?_) ?_)⟩
  ·obtain ⟨i,_,rfl⟩:=List.mem_map.mp hx;exact ⟨Int.emod_nonneg _ (by decide),Int.emod_lt_of_pos _ (by decide)⟩
  ·have e10:byteArr ((List.range 8).map fun i:Nat=>n / 256 ^ i % 256)=(octs 8 n.toNat).toArray:=by
    unfold byteArr;congr 1;refine List.ext_getElem? fun i=>?_;rw [List.map_map,List.getElem?_map];by_cases hi:i < 8
    ·rw [List.getElem?_range hi,octs_get 8 _ i hi];simp only [Option.map_some,Function.comp,Option.some.injEq];have hN:(n.toNat:Int)=n:=by omega
     have:n / 256 ^ i % 256=((n.toNat / 256 ^ i % 256:Nat):Int):=by rw [Int.natCast_emod,Int.natCast_ediv,hN,Int.natCast_pow];rfl
     rw [this];rfl
    ·rw [List.getElem?_eq_none (by simp;omega),List.getElem?_eq_none (by rw [ol_];omega)];rfl
   rw [e10];exact q h ((Pre.app _ _).trans ((Pre.app _ _).trans hp))
def octV:V->V
 | .int n=> .bytes (octs 8 n.toNat).toArray
 | v=>v
theorem row_octets_W{s:S}{l:Nat}{ns:List Int}{d:Nat}{Q:V->S->Prop}{E:Addr->S->Prop}(hl:s.h[l]? =some (.list (ns.map V.int)))(hn:∀ n∈ns,0<=n/\n < 256 ^ 8)(h2:2<=ns.length)(h3:ns.length<=100)(q:∀ h,Pre s.h h->Q (.bytes (rowB ns)) {h:=h,l:=s.l}):
  W (pw pr0 cs w) (fun F=>F.call (.glob 245) [.ref l] (d+2)) Q E s:=by
 refine W.f (P:=pw pr0 cs w) (d:=d+1) (rfl:pr0 245 [.ref l]=none) ?_;dsimp only;refine W.stC (W.s_ (W.cc_ rfl rfl rfl (W.c_ rfl (W.bjoinM (W.compL (cells:= []) rfl rfl rfl (W.lo rfl ⟨l,ns.map V.int,octV,fun _=>true,rfl,hl,by simpa using Nat.le_trans h3 (by decide),?_,?_,?_⟩))))))
 ·intro v hv h lo hp hlo;exact W.test0 ⟨rfl,Pre.refl _,rfl⟩
 ·intro v hv _ h lo hp hlo;obtain ⟨n,hn1,rfl⟩:=List.mem_map.mp hv;exact W.cG (by rfl) ((W.lo hlo (W.gl (by rfl) ⟨by rfl,octets_of_W (hn n hn1) fun h' p'=>⟨rfl,p',rfl⟩⟩)))
 ·intro h acc hp ha hacc;refine ⟨rfl,W.bi (W.bjoin (bs:=ns.map fun n:Int=>(octs 8 n.toNat).toArray) ?_ ?_ (q h hp))⟩
  ·rw [hacc,show List.filter (fun _=>true) (ns.map V.int)=ns.map V.int from List.filter_eq_self.mpr fun _ _=>rfl,List.map_map,List.map_map];rfl
  ·have hs:∀ l:List Int,((l.map fun n:Int=>(octs 8 n.toNat).toArray).map (·.size)).sum=8*l.length:=by
    intro l
    induction l with
    | nil=>rfl
    | cons n r ih=>simp only [List.map_cons,List.sum_cons,ih,List.size_toArray,ol_,List.length_cons];omega
   rw [hs];simp only [List.length_map,decide_eq_true_eq];exact ⟨h2,rfl,by omega⟩
end
def csL:List (Addr×Addr×Str):= [(486,484,"_law_dropped.<locals>.<lambda>"),(481,477,"_law_moved.<locals>.<lambda>"),(474,470,"_law_added.<locals>.<lambda>"),(517,515,"law.<locals>.<lambda>")]
def cellsL:List (Str×Nat):= [("rows",3),("place",2),("base",1)]
def lqL:Option (Addr×Addr×Str):=some (517,515,"law.<locals>.<lambda>")
theorem join4{w:World}{prog:Program}{base h:Heap}{p:Program}{loose:List Str}{mean:ExcName->Option Value}{mg mb m:Str->Option Value}{K:Frag}{prims:Addr->List V->Option V}
  {sc:Scope} {L fa:Nat} {D a1 a2 a3:Nat} {o1 o2 o3:Obj} {ws:List Value} {ns:List Int} {body:List Stmt} {os:OsState} {drawn:Drawn} {gens:Array GenState} {tk:Tok}
  {Q:PySem.Flow->Shared->Prop} {E:Value->Shared->Prop}
  (P:PrimOk prog ⟨w,base,csL,os⟩ prims) (X:K.In base) (T:Top p loose mean mg mb base) (F:Fr base L h m) (N:News base L h [(D,W.listOf ws.toArray 0),(a3,o3),(a2,o2),(a1,o1),(484,tabObj #[]),(477,tabObj #[]),(470,tabObj #[]),(515,tabObj #[])])
  (hws:IntsAre ws ns) (c1:CodeHd base 486 484) (c2:CodeHd base 481 477) (c3:CodeHd base 474 470) (c4:CodeHd base 517 515) (e1:o1.data= .cell none) (e2:o2.data= .cell none) (e3:o3.data= .cell none) (lt:L < a1/\a1 < a2/\a2 < a3/\a3 < D) (hL:515 < L)
  (hm:m "script"=some (.ref D)) (hg:gens= #[]) (hk:sc.kind= .function) (hc:cellsFrom (L+1) sc.names []= [(("rows" :Str),a3),(("place" :Str),a2),(("base" :Str),a1)])
  (run:W ⟨K,prims,csL⟩ (fun F=>e_ K F body {scope:=sc,cells:=cellsL,d:=60,lq:=lqL,stm:=true}) (fun f _=>f= .ret (.bool true)) (fun _ _=>False) ⟨[.list (ns.map V.int),.cell none,.cell none,.cell none],[("script",.ref 0)]⟩)
  (hQ:∀ r:Shared,(∀ b o,base.get? b=some o->r.heap.get? b=some o)->r.gens= #[]->r.os=os->(∀ q∈csL,GrownAt q.2.1 r.heap)->Q (.ret (.bool true)) r):
  wpAny (model prog w) (callerA.deeper (envOfC "law" sc L fa (.ref 517))) (execs body (envOfC "law" sc L fa (.ref 517))) Q E ⟨h,gens,drawn,tk,os⟩:=by
 obtain ⟨l1,l2,l3,l4⟩:=lt;refine join_law (x:="script") (cs:=csL) (D:=D) (os0:= [(a1,o1),(a2,o2),(a3,o3)]) (ρ:={scope:=sc,cells:=cellsL,d:=60,lq:=lqL,stm:=true})
  (P:=P) (X:=X) (T:=T) (F:=F) (N:=N) (hws:=hws) ?_ ?_ ?_ ?_ ?_ ?_ ?_ ?_ ?_ hm ?_ hg ?_ rfl hk ?_ rfl rfl rfl ?_ run hQ
 ·intro q hq;simp only [csL,List.mem_cons,List.not_mem_nil,or_false] at hq;rcases hq with rfl | rfl | rfl | rfl <;> assumption
 ·intro p hp q hq;simp only [csL,List.mem_cons,List.not_mem_nil,or_false] at hp hq;rcases hp with rfl | rfl | rfl | rfl <;> rcases hq with rfl | rfl | rfl | rfl <;> intro h <;> first | rfl | (exfalso;revert h;decide)
 ·intro q hq;simp only [csL,List.mem_cons,List.not_mem_nil,or_false] at hq;rcases hq with rfl | rfl | rfl | rfl <;> simp
 ·intro q hq;show q.2.1 < L;simp only [csL,List.mem_cons,List.not_mem_nil,or_false] at hq;rcases hq with rfl | rfl | rfl | rfl
  ·exact (by omega:484 < L)
  ·exact (by omega:477 < L)
  ·exact (by omega:470 < L)
  ·exact (by omega:515 < L)
 ·simp
 ·intro q hq;simp only [List.mem_cons,List.not_mem_nil,or_false] at hq;rcases hq with rfl | rfl | rfl <;> refine ⟨by simp,by assumption⟩
 ·intro q hq;simp only [List.mem_cons,List.not_mem_nil,or_false] at hq;rcases hq with rfl | rfl | rfl
  ·exact ((by omega):L < a1)
  ·exact ((by omega):L < a2)
  ·exact ((by omega):L < a3)
 ·show L < D;omega
 ·have n1:D≠a1:=by omega
  have n2:D≠a2:=by omega
  have n3:D≠a3:=by omega
  have n4:a1≠a2:=by omega
  have n5:a1≠a3:=by omega
  have n6:a2≠a3:=by omega
  simp [n1,n2,n3,n4,n5,n6]
 ·show sysModules < L;exact Nat.lt_trans (show sysModules < 515 by decide) hL
 ·refine {frames:=Around.frames_deeper rfl,handled:=rfl,depth:=(by decide+kernel:1+claimMargin+1+3*60+20 < recursionLimit),units:=(by decide+kernel:4+3+40*60+100 < cLine),cover:=?_};intro env he;simp only [List.mem_cons,List.not_mem_nil,or_false] at he;subst he;exact ⟨by show sc.kind≠_;rw [hk];decide,L,rfl,.inl rfl⟩
 ·show CellsR _ cellsL (cellsFrom (L+1) sc.names []);rw [hc];exact ⟨rfl,rfl,rfl,rfl,rfl,rfl,trivial⟩
 ·intro q hq;cases hq;exact ⟨rfl,(by decide+kernel:Str.ofString "law"++Str.ofString ".<locals>."++Str.ofString "<lambda>"=Str.ofString "law.<locals>.<lambda>"),by simp [csL]⟩
theorem joined_nil(ps:List (Array UInt8)):(Builtin.Bytes.joined #[] ps).toList=(ps.map (·.toList)).flatten:=by
 unfold Builtin.Bytes.joined;have key:∀ (l:List (Array UInt8×Nat)) (a:Array UInt8),(l.foldl (fun out (p,i)=>(if i > 0 then out++ #[] else out)++p) a).toList=a.toList++(l.map (·.1.toList)).flatten:=by
  intro l
  induction l with
  | nil=>intro a;simp
  | cons x r ih=>
   intro a;rw [List.foldl_cons,ih];obtain ⟨p,i⟩:=x;simp
 rw [key];have:∀ (l:List (Array UInt8)) (k:Nat),((l.zipIdx k).map (·.1.toList))=l.map (·.toList):=by
  intro l
  induction l with
  | nil=>intro k;rfl
  | cons x r ih=>intro k;simp [List.zipIdx_cons,ih]
 rw [this];simp
theorem range_pick{α:Type}(l:List α):∀ (m a:Nat),a+m<=l.length->((List.range m).map fun k=>a+k).filterMap (l[·]?)=(l.drop a).take m
 | 0,a,_=>by simp
 | m+1,a,h=>by
  have ih:=range_pick l m (a+1) (by omega);rw [List.range_succ_eq_map,List.map_cons,List.filterMap_cons,List.map_map];have ha:l[a+0]? =some l[a]:=by rw [Nat.add_zero];exact List.getElem?_eq_getElem (by omega)
  rw [ha];dsimp only;have e:(List.map ((fun k=>a+k)∘Nat.succ) (List.range m))=(List.range m).map fun k=>(a+1)+k:=by
   apply List.map_congr_left;intro k _;simp;omega
  rw [e,ih,List.drop_eq_getElem_cons (by omega:a < l.length),List.take_succ_cons]
theorem picked_cut{b:Array UInt8}{a m:Nat}(h:a+m<=b.size)(hm:0 < m):KBy.picked b (some (a:Int)) (some ((a:Int)+m))=((b.toList.drop a).take m).toArray:=by
 unfold KBy.picked Builtin.Bytes.sliced sliceBounds sliceRange;dsimp only;congr 1;have e1:¬ ((a:Int) < 0):=by omega
 have e2:¬ ((a:Int)+m < 0):=by omega
 have e3:(1:Int) > 0:=by decide
 have x1:max 0 (min (a:Int) (b.size:Int))=a:=by omega
 have x2:max 0 (min ((a:Int)+m) (b.size:Int))=a+m:=by omega
 have e4:(a:Int) < a+m:=by omega
 simp only [Option.getD_none,e1,e2,e3,if_false,if_true,x1,x2,e4];have c:(((a:Int)+m - a+1 - 1) / 1).toNat=m:=by omega
 rw [c];have key:=range_pick b.toList m a (by simpa using h);rw [<-key];have e:((List.range m).map fun k:Nat=>((a:Int)+1*(k:Int)).toNat)=(List.range m).map fun k=>a+k:=by
  apply List.map_congr_left;intro k _;omega
 rw [e];simp only [Array.getElem?_toList]
theorem rowB_list(ns:List Int):(rowB ns).toList=(ns.map fun n=>octs 8 n.toNat).flatten:=by
 unfold rowB;rw [joined_nil,List.map_map];rfl
theorem rowB_size(ns:List Int):(rowB ns).size=8*ns.length:=by
 rw [<-Array.length_toList,rowB_list]
 induction ns with
 | nil=>rfl
 | cons n r ih=>rw [List.map_cons,List.flatten_cons,List.length_append,ih,ol_,List.length_cons];omega
theorem rows_cut:∀ (ns:List Int) (i:Nat) (x:Int),ns[i]? =some x->(((ns.map fun n=>octs 8 n.toNat).flatten).drop (8*i)).take 8=octs 8 x.toNat
 | [],i,x,h=>by simp at h
 | n::r,0,x,h=>by
  simp only [List.getElem?_cons_zero,Option.some.injEq] at h;subst h;rw [Nat.mul_zero,List.drop_zero,List.map_cons,List.flatten_cons,List.take_append_of_le_length (by rw [ol_];exact Nat.le_refl _),List.take_of_length_le (by rw [ol_];exact Nat.le_refl _)]
 | n::r,i+1,x,h=>by
  have ih:=rows_cut r i x (by simpa using h);rw [List.map_cons,List.flatten_cons,List.drop_append,ol_,List.drop_of_length_le (by rw [ol_];omega),List.nil_append];have e:8*(i+1) - 8=8*i:=by omega
  rw [e];exact ih
section
section
variable {P:Prg} {E:Addr->S->Prop} {s:S} {ρ:Ev}
theorem W.lenB{b:Array UInt8}{Q:V->S->Prop}(hz:b.size<=100000)(q:Q (.int b.size) s):W P (fun _=>cd_ "len" [.bytes b]) Q E s:=W.bind (W.n_ (decide_eq_true hz) (W.pure (W.pure q)))
theorem W.lenL{n:Nat}{vs:List V}{Q:V->S->Prop}(hn:s.h[n]? =some (.list vs))(hz:vs.length<=100000)(q:Q (.int vs.length) s):W P (fun _=>cd_ "len" [.ref n]) Q E s:=W.bind (W.gc_ hn (W.n_ (decide_eq_true hz) (W.pure (W.pure q))))
theorem W.lenS{x:Str}{Q:V->S->Prop}(hz:x.length<=100000)(q:Q (.int x.length) s):W P (fun _=>cd_ "len" [.str x]) Q E s:=W.bind (W.n_ (decide_eq_true hz) (W.pure (W.pure q)))
theorem W.range3{a b c:Int}{Q:V->S->Prop}(hz:0<=a/\a<=100000/\0<=b/\b<=100000/\0 < c/\c<=100000)(q:Q (.ref s.h.length) {s with h:=s.h++ [.rng a b c]}):W P (fun _=>callTy "range" [.int a,.int b,.int c]) Q E s:=W.n_ (decide_eq_true hz) (W.bind (W.alloc (W.pure q)))
theorem W.cutB{b:Array UInt8}{l u:Int}{Q:V->S->Prop}(h1:b.size<=100000)(h2:KBy.whole b (some l) (some u)=false)(q:Q (.bytes (KBy.picked b (some l) (some u))) s):W P (fun _=>sliceM (.bytes b) (.int l) (.int u) .none) Q E s:=
 W.n_ (by rw [h2,decide_eq_true h1];rfl) (W.pure q)
end
variable {w:World}
noncomputable abbrev pg(w:World):Prg:=pw pr0 csL w
theorem pn{a:Addr}(h:a≠235)(h':a≠240)(vs:List V):pr0 a vs=none:=pr0_none h h' vs
theorem pgp{a:Addr}{vs:List V}(h:a≠235)(h':a≠240):(pg w).prims a vs=none:=pr0_none h h' vs
theorem octets_row_W{s:S}{ns:List Int}{d:Nat}{Q:V->S->Prop}{E:Addr->S->Prop}(hn:∀ n∈ns,0<=n/\n < 256 ^ 8)(h3:ns.length=10)(q:∀ h r,Pre s.h h->s.h.length<=r->h[r]? =some (.list (ns.map V.int))->Q (.ref r) {h:=h,l:=s.l}):
  W (pg w) (fun F=>F.call (.glob 250) [.bytes (rowB ns)] (d+2)) Q E s:=by
 have hsz:(rowB ns).size=80:=by rw [rowB_size,h3]
 refine W.fnK (P:=pg w) (d:=d+1) rfl (hK:=by rfl) (hb:=rfl) (hf:=rfl) (hok:=by rfl) (hs:=rfl) (lq:=none) (hq:=by rfl) (hbs:=rfl) (hc:=rfl) ?_;refine W.parC rfl rfl gn_ (W.par0 ?_);dsimp only;refine W.heap (h':=s.h++ [.cell (some (.bytes (rowB ns)))]) (by simp) ?_;dsimp only;have hc:(s.h++ [O.cell (some (.bytes (rowB ns)))])[s.h.length]? =some (.cell (some (.bytes (rowB ns)))):=gn_;refine W.stC (W.sIf (W.t_ rfl (W.b_ (W.cG (by rfl) ((W.cI hc ⟨rfl,W.bi (W.lenB (by omega) (W.gl (by rfl) ?_))⟩))))));rw [hsz];refine W.p_ (fun _=>rfl) (W.c_ rfl (W.p_ (fun _=>rfl) ?_));refine W.stN ?_;refine W.stC (W.s_ (W.compR (cells:= [("octets",s.h.length)]) rfl rfl rfl (W.cG (by rfl) ((W.c_ rfl (W.cG (by rfl) ((W.cI hc ⟨rfl,W.bi (W.lenB (by omega) (W.gl (by rfl) ⟨rfl,W.ty ?_⟩))⟩))))))));rw [hsz];refine W.range3 (by omega) ⟨_,0,80,8,10,fun v=>match v with | .int i=> .int (ns.getD (i / 8).toNat 0) | v=>v,fun _=>true,rfl,gn_,by decide,by decide,by decide,⟨?_,?_⟩,?_⟩
 ·intro v hv h lo hp hlo;exact W.test0 ⟨rfl,Pre.refl _,rfl⟩
 ·intro v hv _ h lo hp hlo;obtain ⟨i,hi,rfl⟩:=List.mem_map.mp hv;have hi:i < 10:=by simpa using hi
  have e0:(0:Int)+8*(i:Int)=((8*i:Nat):Int):=by omega
  rw [e0] at hlo ⊢;have hc':=hp.get (ga_ (t:= [O.rng 0 80 8]) hc);have hget:ns[i]? =some (ns.getD i 0):=by
   have hlt:i < ns.length:=by omega
   rw [List.getElem?_eq_getElem hlt,List.getD_eq_getElem?_getD,List.getElem?_eq_getElem hlt];rfl
  refine W.cG (by rfl) ((W.slice (W.cI hc' (W.optS (W.lo hlo (W.optS (W.b_ (W.lo hlo (W.gl (by rfl) (W.p_ (fun _=>rfl) (W.optN (W.cutB (by omega) ?_ ?_))))))))))))
  ·have w1:(sliceBounds (some ((8*i:Nat):Int)) (some (((8*i:Nat):Int)+8)) none (rowB ns).size).2.1≠((rowB ns).size:Int)\/(sliceBounds (some ((8*i:Nat):Int)) (some (((8*i:Nat):Int)+8)) none (rowB ns).size).1≠0:=by
    unfold sliceBounds;rw [hsz];by_cases h0:i=0
    ·subst h0;left;decide
    ·right;simp;omega
   unfold KBy.whole;rcases w1 with w1 | w1
   ·have w2:=beq_eq_false_iff_ne.mpr w1;rw [w2];simp
   ·have w2:=beq_eq_false_iff_ne.mpr w1;rw [w2];simp
  ·refine ⟨rfl,?_⟩;have pc:=picked_cut (b:=rowB ns) (a:=8*i) (m:=8) (by omega) (by decide);rw [show (((8*i:Nat):Int)+8)=((8*i:Nat):Int)+((8:Nat):Int) from rfl,pc,rowB_list,rows_cut ns i _ hget];have hs:(octs 8 (ns.getD i 0).toNat).toArray.size<=8:=by rw [List.size_toArray,ol_];exact Nat.le_refl _
   refine number_of_W hs fun h9 p9=>⟨?_,p9,rfl⟩;have hmem:ns.getD i 0∈ns:=List.mem_of_getElem? hget;obtain ⟨b1,b2⟩:=hn _ hmem;have key:numOf (octs 8 (ns.getD i 0).toNat)=(ns.getD i 0).toNat:=numOf_octs 8 _ (by omega);dsimp only;rw [key];have e1:(((8*i:Nat):Int) / 8).toNat=i:=by omega
   rw [e1];congr 1;omega
 ·intro h acc hp ha hacc;refine q h acc ((Pre.app _ _).trans ((Pre.app _ _).trans hp)) (Nat.le_trans (by simp) ha) ?_;rw [hacc];congr 2;rw [List.filter_eq_self.mpr (fun _ _=>rfl),List.map_map];refine List.ext_getElem? fun i=>?_;rw [List.getElem?_map,List.getElem?_map];by_cases hi:i < 10
  ·rw [List.getElem?_range hi];have hlt:i < ns.length:=by omega
   rw [List.getElem?_eq_getElem hlt];have e1:((0+8*(i:Int)) / 8).toNat=i:=by omega
   simp only [Option.map_some,Function.comp,e1,List.getD_eq_getElem?_getD,List.getElem?_eq_getElem hlt,Option.getD_some]
  ·rw [List.getElem?_eq_none (by simp;omega),List.getElem?_eq_none (by omega)];rfl
end
section
structure Nd where
 place:Int
 par:Int
 used:Int
 bel:Int
 res:Int
 zr:Nat
 kids:List (Str×Int)
theorem cut_a(a b c d e f g h i j:V):pickV [a,b,c,d,e,f,g,h,i,j] none (some 5) none= [a,b,c,d,e]:=by rfl
theorem cut_b(a b c d e f g h i j:V):pickV [a,b,c,d,e,f,g,h,i,j] (some 5) none none= [f,g,h,i,j]:=by
 unfold pickV;have e:sliceBounds (some 5) none none ([a,b,c,d,e,f,g,h,i,j]:List V).length=(5,10,1):=by rfl
 rw [e];have e2:sliceRange 5 10 1= [5,6,7,8,9]:=by rfl
 rw [e2];rfl
def Nd.row(n:Nd):List Int:= [n.par,0,n.place - 2,n.place - 1,0,n.used,n.bel,0,n.res,0]
def Nd.share(n:Nd):Int:=max (n.used+n.bel) n.res
def Nd.Fit(n:Nd):Prop:=∀ x∈n.row,0<=x/\x < 256 ^ 8
abbrev ia_(n:Nd):List (V×V):= [(.str "parent",.int n.par),(.str "head",.int 0),(.str "children",.int (n.place - 2)),(.str "props",.int (n.place - 1)),(.str "origin",.int 0),(.str "used",.int n.used),(.str "below",.int n.bel),(.str "quota",.int 0),(.str "reserved",.int n.res),(.str "refquota",.int 0)]
structure Info(h:List O)(i di:Nat)(n:Nd):Prop where
 inst:h[i]? =some (.inst 274 di)
 own:∃ k,h[di]? =some (.dict (ia_ n) k)
 ne:i≠di
theorem Info.pre{h h':List O}{i di:Nat}{n:Nd}(x:Info h i di n)(p:Pre h h'):Info h' i di n:=⟨p.get x.inst,let ⟨k,e⟩:=x.own;⟨k,p.get e⟩,x.ne⟩
section
variable {P:Prg} {E:Addr->S->Prop} {s:S} {ρ:Ev}
theorem W.cutL{n:Nat}{vs ws:List V}{lo hi st:V}{l u t:Option Int}{Q:V->S->Prop}(h1:partOf lo=some l)(h2:partOf hi=some u)(h3:partOf st=some t)(hn:s.h[n]? =some (.list vs))(hz:t≠some 0/\vs.length<=100000)(hw:pickV vs l u t=ws)(q:Q (.ref s.h.length) {s with h:=s.h++ [.list ws]}):W P (fun _=>sliceM (.ref n) lo hi st) Q E s:=by
 subst hw;refine W.eq (m:=fun _=>Mine.geto n >>=fun o=>match o with | .list vs=>Mine.need (decide (t≠some 0/\vs.length<=100000)) >>=fun _=>Mine.alloc (.list (pickV vs l u t)) >>=fun r=>Pure.pure (V.ref r) | _=>Mine.fail) (W.gc_ hn (W.n_ (decide_eq_true hz) (W.bind (W.alloc (W.pure q))))) fun F=>?_;unfold sliceM;rw [h1,h2,h3];try rfl
theorem itemsM_list{n:Nat}{vs:List V}(h:s.h[n]? =some (.list vs)):itemsM (.ref n) s=some (.ok vs,s):=by
 show M.bind (Mine.geto n) _ s=_;unfold M.bind Mine.geto;rw [h];rfl
theorem W.setN{h0:List O}{n C d k:Nat}{es:List (V×V)}{name:Str}{v:V}{Q:Unit->S->Prop}(e:s.h=h0.set d (.dict es k))(hn:h0[n]? =some (.inst C d))(hd:d < h0.length)(hne:n≠d)(ho:setOk P.K C name=true)(hl:(k_ (.str name) es && decide (es.length<=900))=true)(q:Q () {h:=h0.set d (Mine.putD (.str name) v es k),l:=s.l}):
  W P (fun _=>setAttrM P.K (.ref n) name v) Q E s:=by
 refine W.sh_ (n:=n) (C:=C) (d:=d) (k:=k) (es:=es) (by rw [e];exact gb_ (Ne.symm hne) hn) (by rw [e];exact List.getElem?_set_self hd) ho hl ?_;rw [e,List.set_set];exact q
end
variable {w:World}
theorem sd(name:Str)(h:name∈(["parent","head","children","props","origin","used","below","quota","reserved","refquota"]:List Str)):setOk (Mine.hd.heap_39 w.params) 274 name=true:=by
 simp only [List.mem_cons,List.not_mem_nil,or_false] at h;rcases h with h | h | h | h | h | h | h | h | h | h <;> subst h <;> rfl
theorem gd(name:Str)(h:name∈(["parent","head","children","props","origin","used","below","quota","reserved","refquota"]:List Str)):getOk (Mine.hd.heap_39 w.params) 274 name=true:=by
 simp only [List.mem_cons,List.not_mem_nil,or_false] at h;rcases h with h | h | h | h | h | h | h | h | h | h <;> subst h <;> rfl
theorem mk_dirinit:findIn (Mine.hd.heap_39 w.params) (.ref 274) "__init__"=some (some (.ref 264)):=by rfl
theorem dirinfo_W{s:S}{l:Nat}{n:Nd}{d:Nat}{Q:V->S->Prop}{E:Addr->S->Prop}(hl:s.h[l]? =some (.list (n.row.map V.int)))(q:∀ h,Pre s.h h->Info h (s.h.length+1) s.h.length n->Q (.ref (s.h.length+1)) {h:=h,l:=s.l}):
  W (pg w) (fun F=>F.call (.glob 274) [.ref l] (d+2)) Q E s:=by
 refine W.make (P:=pg w) (show pr0 274 [.ref l]=none from pr0_none (by decide) (by decide) _) (hK:=by rfl) mk_dirinit (hK2:=by rfl) (by rfl) ?_;refine W.fd (P:=pg w) (hb:=rfl) (hf:=rfl) (hok:=by rfl) (hs:=rfl) (lq:=none) (hq:=by rfl) (hc:=fun _=>rfl) (hl:=fun _=>rfl) ?_;dsimp only;generalize hn:s.h.length=m;have hl1:(s.h++ [O.dict [] 0]++ [.inst 274 m])[l]? =some (.list (n.row.map V.int)):=ga_ (ga_ hl);refine W.stC (W.sA (W.slice (W.lo rfl (W.optN (W.optS (W.c_ rfl (W.optN (W.cutL (ws:= [.int n.par,.int 0,.int (n.place - 2),.int (n.place - 1),.int 0]) rfl rfl rfl hl1 ⟨by decide,by simp [Nd.row]⟩ (cut_a ..) ?_))))))));refine W.heap (h':=(s.h++ [O.dict [] 0,.inst 274 m,O.list [V.int n.par,V.int 0,V.int (n.place - 2),V.int (n.place - 1),V.int 0]]).set m (.dict [] 0)) (by subst hn;simp) ?_;refine W.asT (vs:= [V.int n.par,V.int 0,V.int (n.place - 2),V.int (n.place - 1),V.int 0]) ?_ rfl ?_
 ·exact itemsM_list (by rw [List.getElem?_set_ne (by subst hn;simp)];subst hn;simp)
 have hd:m < (s.h++ [O.dict [] 0,.inst 274 m,O.list [V.int n.par,V.int 0,V.int (n.place - 2),V.int (n.place - 1),V.int 0]]).length:=by subst hn;simp
 have hi:(s.h++ [O.dict [] 0,.inst 274 m,O.list [V.int n.par,V.int 0,V.int (n.place - 2),V.int (n.place - 1),V.int 0]])[m+1]? =some (.inst 274 m):=by subst hn;simp
 iterate 5 (refine W.a1 (W.asA (W.lo rfl (W.setN rfl hi hd (by omega) (sd _ (by simp)) rfl ?_))))
 refine W.as0 ?_;refine W.heap (h':=(s.h++ [O.dict [] 0,.inst 274 m,O.list [V.int n.par,V.int 0,V.int (n.place - 2),V.int (n.place - 1),V.int 0]]).set m (.dict [(.str "parent",.int n.par),(.str "head",.int 0),(.str "children",.int (n.place - 2)),(.str "props",.int (n.place - 1)),(.str "origin",.int 0)] 5)) rfl ?_;dsimp only;have hl2:((s.h++ [O.dict [] 0,.inst 274 m,O.list [V.int n.par,V.int 0,V.int (n.place - 2),V.int (n.place - 1),V.int 0]]).set m (.dict [(.str "parent",.int n.par),(.str "head",.int 0),(.str "children",.int (n.place - 2)),(.str "props",.int (n.place - 1)),(.str "origin",.int 0)] 5))[l]? =some (.list (n.row.map V.int)):=by
  have hlt:=gl_ hl;rw [List.getElem?_set_ne (by omega),List.getElem?_append_left hlt];exact hl
 refine W.stC (W.sA (W.slice (W.lo rfl (W.optS (W.c_ rfl (W.optN (W.optN (W.cutL (ws:= [.int n.used,.int n.bel,.int 0,.int n.res,.int 0]) rfl rfl rfl hl2 ⟨by decide,by simp [Nd.row]⟩ (cut_b ..) ?_))))))));generalize hX:O.list [V.int n.par,V.int 0,V.int (n.place - 2),V.int (n.place - 1),V.int 0]=X;generalize hY:O.list [V.int n.used,V.int n.bel,V.int 0,V.int n.res,V.int 0]=Y;refine W.heap (h':=(s.h++ [O.dict [] 0,.inst 274 m,X,Y]).set m (.dict [(.str "parent",.int n.par),(.str "head",.int 0),(.str "children",.int (n.place - 2)),(.str "props",.int (n.place - 1)),(.str "origin",.int 0)] 5)) (by subst hn;simp) ?_;refine W.asT (vs:= [.int n.used,.int n.bel,.int 0,.int n.res,.int 0]) ?_ rfl ?_
 ·subst hY;exact itemsM_list (by subst hn;simp)
 have hd:m < (s.h++ [O.dict [] 0,.inst 274 m,X,Y]).length:=by subst hn;simp
 have hi:(s.h++ [O.dict [] 0,.inst 274 m,X,Y])[m+1]? =some (.inst 274 m):=by subst hn;simp
 iterate 5 (refine W.a1 (W.asA (W.lo rfl (W.setN rfl hi hd (by omega) (sd _ (by simp)) rfl ?_))))
 refine W.as0 (W.stN ?_);have e2:∀ h':List O,h'=(s.h++ [O.dict [] 0,.inst 274 m,X,Y]).set m (.dict (ia_ n) 10)->V.none=V.none/\Q (V.ref (m+1)) {h:=h',l:=s.l}:=fun h' e=>⟨rfl,by
  subst e hn;refine q _ ?_ ⟨by simp,⟨10,by simp⟩,by omega⟩;exact (Pre.app _ _).set (Nat.le_refl _)⟩
 exact e2 _ rfl
end
section
section
variable {P:Prg} {E:Addr->S->Prop} {s:S} {ρ:Ev}
theorem W.addLL{x y:Nat}{u v:List V}{Q:V->S->Prop}(hx:s.h[x]? =some (.list u))(hy:s.h[y]? =some (.list v))(hz:u.length+v.length<=100000)(q:Q (.ref s.h.length) {s with h:=s.h++ [.list (u++v)]}):W P (fun _=>binM .Add (.ref x) (.ref y)) Q E s:=
 W.gc_ hx (W.gc_ hy (W.n_ (decide_eq_true hz) (W.bind (W.alloc (W.pure q)))))
end
theorem Base.pre{s s':S}{b bd N Z:Nat}{last:Int}{notes zaps:List (V×V)}(B:Base s b bd N Z last notes zaps)(p:Pre s.h s'.h):Base s' b bd N Z last notes zaps where
 inst:=p.get B.inst
 own:=let ⟨k,e⟩:=B.own;⟨k,p.get e⟩
 nts:=let ⟨k,e⟩:=B.nts;⟨k,p.get e⟩
 zps:=let ⟨k,e⟩:=B.zps;⟨k,p.get e⟩
 nk:=B.nk
 zk:=B.zk
 ne:=B.ne
variable {w:World}
theorem mk_set_note:mb_ (Mine.hd.heap_39 w.params) 226 "set_note" 167=true:=by rfl
theorem mk_is_there:mb_ (Mine.hd.heap_39 w.params) 226 "is_there" 146=true:=by rfl
theorem mk_new_note:mb_ (Mine.hd.heap_39 w.params) 226 "new_note" 153=true:=by rfl
theorem mk_drop:mb_ (Mine.hd.heap_39 w.params) 226 "drop" 181=true:=by rfl
theorem mk_get:mb_ (Mine.hd.heap_39 w.params) 226 "get" 202=true:=by rfl
theorem mk_put:mb_ (Mine.hd.heap_39 w.params) 226 "put" 209=true:=by rfl
theorem mk_take:mb_ (Mine.hd.heap_39 w.params) 226 "take" 216=true:=by rfl
theorem mk_names:mb_ (Mine.hd.heap_39 w.params) 226 "names" 223=true:=by rfl
theorem mk_row:mb_ (Mine.hd.heap_39 w.params) 274 "row" 271=true:=by rfl
theorem dir_row_W{s:S}{i di:Nat}{n:Nd}{d:Nat}{Q:V->S->Prop}{E:Addr->S->Prop}(I:Info s.h i di n)(q:∀ h r,Pre s.h h->s.h.length<=r->h[r]? =some (.list (n.row.map V.int))->Q (.ref r) {h:=h,l:=s.l}):
  W (pg w) (fun F=>F.call (.glob 271) [.ref i] (d+1)) Q E s:=by
 obtain ⟨k,own⟩:=I.own;refine W.f (P:=pg w) rfl ?_;dsimp only;refine W.stC (W.sA (W.list rfl rfl ?_));iterate 5 (refine W.a_ rfl (W.lo rfl (W.g_ I.inst own (gd _ (by simp)) rfl rfl ?_)))
 refine W.asN rfl (W.stC (W.s_ (W.b_ (W.lo rfl (W.list rfl rfl ?_)))));generalize hX:O.list [V.int n.par,V.int 0,V.int (n.place - 2),V.int (n.place - 1),V.int 0]=X;iterate 5 (refine W.a_ rfl (W.lo rfl (W.g_ (ga_ I.inst) (ga_ own) (gd _ (by simp)) rfl rfl ?_)))
 refine W.addLL (u:= [V.int n.par,V.int 0,V.int (n.place - 2),V.int (n.place - 1),V.int 0]) (v:= [V.int n.used,V.int n.bel,V.int 0,V.int n.res,V.int 0]) (by subst hX;simp) (by simp) (by simp) ?_;refine q _ _ ?_ ?_ ?_
 ·exact (Pre.app _ _).trans ((Pre.app _ _).trans (Pre.app _ _))
 ·simp
 ·exact gn_
theorem store_dir_W{s:S}{b bd N Z i di:Nat}{last p:Int}{notes zaps:List (V×V)}{v:V}{n:Nd}{d:Nat}{Q:V->S->Prop}{E:Addr->S->Prop}(B:Base s b bd N Z last notes zaps)(hx:f_ (.int p) notes=some v)(I:Info s.h i di n)(hf:n.Fit)
  (q:∀ h k,Pre s.h h->h[N]? =some (.dict notes k)->Q .none {h:=h.set N (putD (.int p) (.bytes (rowB n.row)) notes k),l:=s.l}):
  W (pg w) (fun F=>F.call (.glob 292) [.ref b,.int p,.ref i] (d+3)) Q E s:=by
 obtain ⟨k1,own⟩:=B.own;obtain ⟨k2,own2⟩:=I.own;refine W.f (P:=pg w) rfl ?_;dsimp only;refine W.stC (W.sc_ rfl (W.cc_ rfl rfl rfl (W.lo rfl (W.m_ B.inst own mk_set_note rfl rfl (W.lo rfl (W.cG (by rfl) ((W.cc_ rfl rfl rfl (W.lo rfl (W.m_ I.inst own2 mk_row rfl rfl ⟨by rfl,?_⟩))))))))));refine dir_row_W I fun h r hp hr hl=>?_;refine ⟨by rfl,row_octets_W (ns:=n.row) hl hf (by simp [Nd.row]) (by simp [Nd.row]) fun h2 hp2=>⟨by rfl,?_⟩⟩;refine set_note_W (fun _=>rfl) (fun _=>rfl) (B.pre (s':=⟨h2,_⟩) (hp.trans hp2)) hx fun k hk=>?_;exact W.stN (q h2 k (hp.trans hp2) hk)
theorem load_dir_W{s:S}{b bd N Z:Nat}{last p:Int}{notes zaps:List (V×V)}{n:Nd}{d:Nat}{Q:V->S->Prop}{E:Addr->S->Prop}(B:Base s b bd N Z last notes zaps)(hx:f_ (.int p) notes=some (.bytes (rowB n.row)))(hf:n.Fit)
  (q:∀ h i di,Pre s.h h->s.h.length<=i->s.h.length<=di->Info h i di n->Q (.ref i) {h:=h,l:=s.l}):
  W (pg w) (fun F=>F.call (.glob 285) [.ref b,.int p] (d+3)) Q E s:=by
 obtain ⟨k1,own⟩:=B.own;refine W.f (P:=pg w) rfl ?_;dsimp only;refine W.stC (W.s_ (W.cG (by rfl) ((W.cG (by rfl) ((W.cc_ rfl rfl rfl (W.lo rfl (W.m_ B.inst own mk_note rfl rfl (W.lo rfl ⟨by rfl,?_⟩)))))))));refine note_W (fun _=>rfl) (B.pre (s':=⟨s.h,_⟩) (Pre.refl _)) hx ⟨by rfl,octets_row_W hf rfl fun h r hp hr hl=>⟨by rfl,?_⟩⟩;refine dirinfo_W hl fun h2 hp2 I=>?_;have hlen:s.h.length<=h.length:=hp.len;exact q h2 _ _ (hp.trans hp2) (by dsimp only;omega) (by dsimp only;omega) I
theorem so_{s:S}{i di:Nat}{n:Nd}{d:Nat}{Q:V->S->Prop}{E:Addr->S->Prop}(I:Info s.h i di n)(q:Q (.int n.share) s):
  W (pg w) (fun F=>F.call (.glob 389) [.ref i] (d+1)) Q E s:=by
 obtain ⟨k,own⟩:=I.own;refine W.f (P:=pg w) rfl ?_;dsimp only;refine W.stC (W.s_ (W.cG (by rfl) ((W.b_ (W.a_ rfl (W.lo rfl (W.g_ I.inst own (gd _ (by simp)) rfl rfl ?_)))))));refine W.a_ rfl (W.lo rfl (W.g_ I.inst own (gd _ (by simp)) rfl rfl (W.p_ (fun _=>rfl) (W.a_ rfl (W.lo rfl (W.g_ I.inst own (gd _ (by simp)) rfl rfl ⟨rfl,W.bi (W.p_ (fun _=>rfl) q)⟩))))))
end
theorem fp_(k v:V):∀ (es:List (V×V)) (j:V),f_ j (putK k v es)=if k=j then some v else f_ j es
 | [],j=>by unfold putK f_;rfl
 | (y,u)::r,j=>by
  unfold putK;by_cases h:y=k
  ·subst h;rw [if_pos rfl];unfold f_;by_cases h2:y=j
   ·rw [if_pos h2,if_pos h2]
   ·rw [if_neg h2,if_neg h2,if_neg h2]
  ·rw [if_neg h]
   conv=>lhs;unfold f_
   conv=>rhs;rhs;unfold f_
   by_cases h2:y=j
   ·rw [if_pos h2,if_pos h2];have:k≠j:=fun e=>h (h2.trans e.symm);rw [if_neg this]
   ·rw [if_neg h2,if_neg h2];exact fp_ k v r j
theorem fd_(k:V):∀ (es:List (V×V)) (j:V),k≠j->f_ j (da_ k es)=f_ j es
 | [],j,_=>rfl
 | (y,u)::r,j,h=>by
  unfold da_;by_cases h2:y=k
  ·rw [if_pos h2]
   conv=>rhs;unfold f_
   rw [if_neg (fun e=>h (h2.symm.trans e))]
  ·rw [if_neg h2];unfold f_;rw [fd_ k r j h]
theorem findK_none{k:V}:∀ {es:List (V×V)},k∉es.map (·.1)->f_ k es=none
 | [],_=>rfl
 | (y,u)::r,h=>by
  unfold f_;rw [if_neg (fun e=>h (by rw [e];simp)),findK_none (fun e=>h (by simp at e ⊢;exact .inr e))]
theorem findK_mem{k v:V}:∀ {es:List (V×V)},f_ k es=some v->(k,v)∈es
 | [],h=>by cases h
 | (y,u)::r,h=>by
  unfold f_ at h;split at h
  ·rename_i e;cases h;subst e;exact .head _
  ·exact .tail _ (findK_mem h)
theorem findK_drop_eq(k:V):∀ (es:List (V×V)),(es.map (·.1)).Nodup->f_ k (da_ k es)=none
 | [],_=>rfl
 | (y,u)::r,h=>by
  simp only [List.map_cons,List.nodup_cons] at h;unfold da_;by_cases h2:y=k
  ·rw [if_pos h2];subst h2;exact findK_none h.1
  ·rw [if_neg h2];unfold f_;rw [if_neg h2];exact findK_drop_eq k r h.2
theorem dk_keys(k v:V):∀ (es:List (V×V)),(f_ k es).isSome=true->(putK k v es).map (·.1)=es.map (·.1)
 | [],h=>by cases h
 | (y,u)::r,h=>by
  unfold putK;by_cases h2:y=k
  ·rw [if_pos h2];rfl
  ·rw [if_neg h2];unfold f_ at h;rw [if_neg h2] at h;rw [List.map_cons,dk_keys k v r h];rfl
theorem putK_new(k v:V):∀ (es:List (V×V)),f_ k es=none->putK k v es=es++ [(k,v)]
 | [],_=>rfl
 | (y,u)::r,h=>by
  unfold putK;unfold f_ at h;by_cases h2:y=k
  ·rw [if_pos h2] at h;cases h
  ·rw [if_neg h2] at h ⊢;rw [putK_new k v r h];rfl
theorem findK_isNone{k:V}:∀ {es:List (V×V)},f_ k es=none->k∉es.map (·.1)
 | [],_=>by simp
 | (y,u)::r,h=>by
  unfold f_ at h;split at h
  ·cases h
  ·rename_i h2;simp only [List.map_cons,List.mem_cons,not_or];exact ⟨fun e=>h2 e.symm,findK_isNone h⟩
theorem pl_(k v:V):∀ (es:List (V×V)),(putK k v es).length<=es.length+1
 | []=>by simp [putK]
 | (y,u)::r=>by
  unfold putK;split
  ·simp
  ·have:=pl_ k v r;simp;omega
theorem dl_(k:V):∀ (es:List (V×V)),(da_ k es).length<=es.length
 | []=>by simp [da_]
 | (y,u)::r=>by
  unfold da_;split
  ·simp
  ·have:=dl_ k r;simp;omega
theorem dk_sub(k:V):∀ (es:List (V×V)),(da_ k es).Sublist es
 | []=>List.Sublist.refl _
 | (y,u)::r=>by
  unfold da_;split
  ·exact List.sublist_cons_self _ _
  ·exact (dk_sub k r).cons₂ _
theorem dk_nodup(k v:V)(es:List (V×V))(h:(es.map (·.1)).Nodup):((putK k v es).map (·.1)).Nodup:=by
 cases e:f_ k es with
 | none=>
  rw [putK_new k v es e,List.map_append];refine List.nodup_append.mpr ⟨h,by simp,?_⟩;intro a ha b hb e2;simp at hb;subst hb e2;exact findK_isNone e ha
 | some u=>rw [dk_keys k v es (by rw [e];rfl)];exact h
theorem putK_ints{i v:V}{es:List (V×V)}(hi:isIntV i=true)(h:i_ es=true):i_ (putK i v es)=true:=by
 unfold i_ at h ⊢
 induction es with
 | nil=>simp [putK,hi]
 | cons e r ih=>
  obtain ⟨y,u⟩:=e;simp only [List.all_cons,Bool.and_eq_true] at h;unfold putK;split
  ·simp only [List.all_cons,Bool.and_eq_true];exact h
  ·simp only [List.all_cons,Bool.and_eq_true];exact ⟨h.1,ih h.2⟩
theorem dropK_ints{i:V}{es:List (V×V)}(h:i_ es=true):i_ (da_ i es)=true:=by
 unfold i_ at h ⊢;rw [List.all_eq_true] at h ⊢;exact fun e he=>h e ((dk_sub i es).subset he)
section
def ndAt(ns:List Nd)(p:Int):Option Nd:=ns.find? fun n=>decide (n.place=p)
theorem nm_{ns:List Nd}{p:Int}{n:Nd}(h:ndAt ns p=some n):n∈ns/\n.place=p:=⟨List.mem_of_find?_eq_some h,by simpa using List.find?_some h⟩
structure Adr where
 b:Nat
 bd:Nat
 N:Nat
 Z:Nat
 zn:Nat
abbrev foot(A:Adr)(ns:List Nd):List Nat:=A.b::A.bd::A.N::A.Z::A.zn::ns.map (·.zr)
abbrev ke_(n:Nd):List (V×V):=n.kids.map fun e=>(.str e.1,.int e.2)
structure Rep(s:S)(A:Adr)(last:Int)(ns:List Nd)(notes zaps:List (V×V)):Prop where
 base:Base s A.b A.bd A.N A.Z last notes zaps
 hnotes:∀ p,f_ (.int p) notes=(ndAt ns p).map fun n=> .bytes (rowB n.row)
 nnd:(notes.map (·.1)).Nodup
 znames:f_ (.int 1) zaps=some (.ref A.zn)
 zkids:∀ n∈ns,f_ (.int (n.place - 2)) zaps=some (.ref n.zr)
 zprops:∀ n∈ns,(f_ (.int (n.place - 1)) zaps).isSome=true
 znone:∀ p,p % 3=1->p≠1->f_ (.int p) zaps=none
 lens:(notes.length:Int)<=last/\(zaps.length:Int)<=last
 root:∃ k,s.h[A.zn]? =some (.dict [(.str "root",.int 4)] k)
 kids:∀ n∈ns,∃ k,s.h[n.zr]? =some (.dict (ke_ n) k)
 fit:∀ n∈ns,n.Fit
 kok:∀ n∈ns,n.kids.length < 64/\(n.kids.map (·.1)).Nodup
 addr:(foot A ns).Nodup
 places:∀ n∈ns,n.place % 3=1/\4<=n.place/\n.place<=last
 pnd:(ns.map (·.place)).Nodup
 low:last % 3=1/\4<=last/\last<=800
theorem Rep.pre{s s':S}{A:Adr}{last:Int}{ns:List Nd}{notes zaps:List (V×V)}(R:Rep s A last ns notes zaps)(p:Pre s.h s'.h):Rep s' A last ns notes zaps:=
 {R with base:=R.base.pre p,root:=let ⟨k,e⟩:=R.root;⟨k,p.get e⟩,kids:=fun n hn=>let ⟨k,e⟩:=R.kids n hn;⟨k,p.get e⟩}
theorem Rep.loc{s:S}{A:Adr}{last:Int}{ns:List Nd}{notes zaps:List (V×V)}(R:Rep s A last ns notes zaps)(l:List (Str×V)):Rep ⟨s.h,l⟩ A last ns notes zaps:=R.pre (Pre.refl s.h)
theorem Rep.on{s:S}{A:Adr}{last:Int}{ns:List Nd}{notes zaps:List (V×V)}(R:Rep s A last ns notes zaps){h:List O}(p:Pre s.h h)(l:List (Str×V)):Rep ⟨h,l⟩ A last ns notes zaps:=R.pre p
theorem likeStr(x:Str)(n:Nd):k_ (.str x) (ke_ n)=true:=by
 unfold k_;rw [List.all_eq_true];intro e he;obtain ⟨q,_,rfl⟩:=List.mem_map.mp he;rfl
def kidV(n:Nd)(x:Str):V:=match n.kids.lookup x with
 | some c=> .int c
 | none=> .none
theorem find_kids(x:Str):∀ l:List (Str×Int),f_ (.str x) (l.map fun e=>(V.str e.1,V.int e.2))=(l.lookup x).map V.int
 | []=>rfl
 | (y,c)::r=>by
  rw [List.map_cons,List.lookup_cons];unfold f_;by_cases h:y=x
  ·subst h;simp
  ·have h1:¬ (V.str y=V.str x):=fun e=>h (V.str.inj e);have h2:(x==y)=false:=by simpa using fun e:x=y=>h e.symm
   rw [if_neg h1,h2];exact find_kids x r
theorem kid_find(n:Nd)(x:Str):(f_ (.str x) (ke_ n)).getD .none=kidV n x:=by
 unfold ke_ kidV;rw [find_kids];cases n.kids.lookup x <;> rfl
theorem strs_of(l:List Str):strsOf (l.map V.str)=some l:=by
 induction l with
 | nil=>rfl
 | cons x r ih=>rw [List.map_cons];unfold strsOf;rw [ih];rfl
theorem sort_strs(l:List Str):sn_ (l.map V.str)=some ((sa_ sd_ l).map V.str):=by
 cases l with
 | nil=>rfl
 | cons x r=>
  have h1:ic_ ((x::r).map V.str)=none:=rfl;unfold sn_;rw [h1,strs_of]
def ka_(n:Nd):List Str:=sa_ sd_ (n.kids.map (·.1))
variable {w:World}
section
variable {s:S} {A:Adr} {last:Int} {ns:List Nd} {notes zaps:List (V×V)} {d:Nat} {E:Addr->S->Prop}
theorem Rep.load(R:Rep s A last ns notes zaps){p:Int}{n:Nd}(hp:ndAt ns p=some n){Q:V->S->Prop}
  (q:∀ h i di,Pre s.h h->s.h.length<=i->s.h.length<=di->Info h i di n->Q (.ref i) {h:=h,l:=s.l}):W (pg w) (fun F=>F.call (.glob 285) [.ref A.b,.int p] (d+3)) Q E s:=
 load_dir_W R.base (by rw [R.hnotes,hp];rfl) (R.fit n (nm_ hp).1) q
theorem child_of_W(R:Rep s A last ns notes zaps){p:Int}{x:Str}{n:Nd}(hp:ndAt ns p=some n){Q:V->S->Prop}(q:∀ h,Pre s.h h->Q (kidV n x) {h:=h,l:=s.l}):
  W (pg w) (fun F=>F.call (.glob 325) [.ref A.b,.int p,.str x] (d+4)) Q E s:=by
 obtain ⟨k1,own⟩:=R.base.own;obtain ⟨hn,hpl⟩:=nm_ hp;refine W.f (P:=pg w) rfl ?_;dsimp only;refine W.stC (W.s_ (W.cc_ rfl rfl rfl (W.lo rfl (W.m_ R.base.inst own mk_get rfl rfl (W.a_ rfl (W.cG (by rfl) ((W.lo rfl (W.lo rfl ⟨by rfl,?_⟩)))))))));refine (R.loc _).load hp fun h i di hpre h1 h2 I=>?_;obtain ⟨k2,own2⟩:=I.own;refine W.g_ I.inst own2 (gd _ (by simp)) rfl rfl (W.lo rfl ⟨by rfl,?_⟩);have R2:=R.on hpre;obtain ⟨k3,hk⟩:=(R2 []).kids n hn;refine get_W (fun _=>rfl) (fun _=>rfl) (R2 _).base (R.zkids n hn) hk (likeStr x n) ?_;rw [kid_find];exact q h hpre
theorem child_names_W(R:Rep s A last ns notes zaps){p:Int}{n:Nd}(hp:ndAt ns p=some n){Q:V->S->Prop}(q:∀ h r,Pre s.h h->s.h.length<=r->h[r]? =some (.list ((ka_ n).map V.str))->Q (.ref r) {h:=h,l:=s.l}):
  W (pg w) (fun F=>F.call (.glob 332) [.ref A.b,.int p] (d+4)) Q E s:=by
 obtain ⟨k1,own⟩:=R.base.own;obtain ⟨hn,hpl⟩:=nm_ hp;refine W.f (P:=pg w) rfl ?_;dsimp only;refine W.stC (W.s_ (W.cc_ rfl rfl rfl (W.lo rfl (W.m_ R.base.inst own mk_names rfl rfl (W.a_ rfl (W.cG (by rfl) ((W.lo rfl (W.lo rfl ⟨by rfl,?_⟩)))))))));refine (R.loc _).load hp fun h i di hpre h1 h2 I=>?_;obtain ⟨k2,own2⟩:=I.own;refine W.g_ I.inst own2 (gd _ (by simp)) rfl rfl ⟨by rfl,?_⟩;have R2:=R.on hpre;obtain ⟨k3,hk⟩:=(R2 []).kids n hn;have hsv:sn_ ((ke_ n).map (·.1))=some ((ka_ n).map V.str):=by
  have e:=sort_strs (n.kids.map (·.1));rw [List.map_map] at e;rw [show (ke_ n).map (·.1)=n.kids.map (V.str∘fun x=>x.1) from by unfold ke_;rw [List.map_map];rfl];exact e
 refine names_W (fun _=>rfl) (fun _=>rfl) (R2 _).base (R.zkids n hn) hk (by simpa using (R.kok n hn).1) hsv ?_;exact q _ _ (hpre.trans (Pre.app _ _)) hpre.len gn_
theorem root_dir_W(R:Rep s A last ns notes zaps){Q:V->S->Prop}(q:∀ h,Pre s.h h->Q (.int 4) {h:=h,l:=s.l}):
  W (pg w) (fun F=>F.call (.glob 318) [.ref A.b] (d+3)) Q E s:=by
 obtain ⟨k1,own⟩:=R.base.own;obtain ⟨k2,hz⟩:=R.root;refine W.f (P:=pg w) rfl ?_;dsimp only;refine W.stC (W.sA (W.cc_ rfl rfl rfl (W.lo rfl (W.m_ R.base.inst own mk_get rfl rfl (W.gl (by rfl) (W.gl (by rfl) ⟨by rfl,?_⟩))))));refine get_W (fun _=>rfl) (fun _=>rfl) (R.loc _).base R.znames hz rfl ?_;refine W.asN rfl (W.stC (W.sIf (W.t_ rfl (W.lo rfl (W.c_ rfl (W.p_ (fun _=>rfl) ?_))))));refine W.stN (W.stC (W.s_ (W.lo rfl ?_)));exact q _ (Pre.refl _)
end
end
section
def LETS:Str:="abcdefghijklmnopqrstuvwxyz0123456789-_."
def lettersOk(x:Str):Bool:=(x.cps.toList.map fun c=>Txt.contains LETS ⟨#[c]⟩).all fun b=>b
def o_(x:Str):Bool:=(decide (1<=(x.length:Int)) && decide ((x.length:Int)<=12) && lettersOk x) && !(decide ("."=x) || (decide (".."=x) || false))
theorem bools_of(l:List Bool):boolsOf (l.map V.bool)=some l:=by
 induction l with
 | nil=>rfl
 | cons x r ih=>rw [List.map_cons];unfold boolsOf;rw [ih];rfl
section
variable {P:Prg} {E:Addr->S->Prop} {s:S} {ρ:Ev}
theorem W.allL{n:Nat}{bs:List Bool}{Q:V->S->Prop}(hn:s.h[n]? =some (.list (bs.map V.bool)))(q:Q (.bool (bs.all fun b=>b)) s):W P (fun _=>cd_ "all" [.ref n]) Q E s:=W.bind (W.gc_ hn (W.pure (W.opt (bools_of bs) (W.pure q))))
theorem W.addS{x y:Str}{Q:V->S->Prop}(hz:x.length+y.length<=100000)(q:Q (.str (x++y)) s):W P (fun _=>binM .Add (.str x) (.str y)) Q E s:=W.eq (m:=fun _=>Pure.pure (V.str (x++y))) (W.pure q) fun _=>by show (if x.length+y.length<=100000 then Pure.pure (V.str (x++y)) else Mine.fail) s=_;rw [if_pos hz]
theorem W.inT{n:Nat}{a:V}{vs:List V}{b:Bool}{Q:Bool->S->Prop}(hn:s.h[n]? =some (.tup vs))(hi:inL a vs=some b)(q:Q b s):W P (fun _=>cmpM .In a (.ref n)) Q E s:=W.gc_ hn (W.opt' hi q)
theorem W.notInT{n:Nat}{a:V}{vs:List V}{b:Bool}{Q:Bool->S->Prop}(hn:s.h[n]? =some (.tup vs))(hi:inL a vs=some b)(q:Q (!b) s):W P (fun _=>cmpM .NotIn a (.ref n)) Q E s:=W.bind (W.gc_ hn (W.opt' hi (W.pure q)))
end
variable {w:World}
section
variable {s:S} {d:Nat} {E:Addr->S->Prop}
theorem want_name_W{x:Str}(hz:x.cps.size<=1000){Q:V->S->Prop}(q:∀ h,Pre s.h h->o_ x=true->Q .none {h:=h,l:=s.l})(e:∀ h,Pre s.h h->o_ x=false->E 99 {h:=h,l:=s.l}):
  W (pg w) (fun F=>F.call (.glob 297) [.str x] (d+1)) Q E s:=by
 have hl:x.length<=1000:=hz;refine W.f (P:=pg w) rfl ?_;dsimp only;refine W.stC (W.sIf (W.trOr (W.anyC (W.trNot (W.trCmp2 rfl (W.c_ rfl (W.cG (by rfl) ((W.lo rfl ⟨rfl,W.bi (W.lenS (by omega) (W.p_ (fun _=>rfl) ?_))⟩)))))))));cases h1:decide (1<=(x.length:Int)) with
 | false=>
  exact W.stC (W.sRaise (C:=99) (by rfl) rfl (by rfl) (W.b_ (W.c_ rfl (W.lo rfl (W.addS (by show 9+x.length<=100000;omega) (e _ (Pre.refl _) (by unfold o_;rw [h1];rfl)))))))
 | true=>
  refine W.gl (by rfl) (W.p_ (fun _=>rfl) ?_);cases h2:decide ((x.length:Int)<=12) with
  | false=>
   exact W.stC (W.sRaise (C:=99) (by rfl) rfl (by rfl) (W.b_ (W.c_ rfl (W.lo rfl (W.addS (by show 9+x.length<=100000;omega) (e _ (Pre.refl _) (by unfold o_;rw [h1,h2];rfl)))))))
  | true=>
   refine W.anyC (W.trNot (W.ta_ rfl (W.cG (by rfl) ((W.compS (cells:= []) rfl rfl rfl (W.lo rfl ⟨x,fun v=>match v with | .str l=> .bool (Txt.contains LETS l) | v=>v,fun _=>true,rfl,hz,⟨?_,?_⟩,?_⟩))))))
   ·intro v hv h lo hp hlo;exact W.test0 ⟨rfl,Pre.refl _,rfl⟩
   ·intro v hv _ h lo hp hlo;obtain ⟨c,hc,rfl⟩:=List.mem_map.mp hv;exact W.cmp1 rfl (W.lo hlo (W.gl (by rfl) (W.p_ (fun _=>rfl) ⟨rfl,Pre.refl _,rfl⟩)))
   ·intro h acc hp ha hacc;refine ⟨rfl,W.bi (W.allL (bs:=x.cps.toList.map fun c=>Txt.contains LETS ⟨#[c]⟩) ?_ (W.p_ (fun _=>rfl) ?_))⟩
    ·rw [hacc,List.filter_eq_self.mpr (fun _ _=>rfl),List.map_map,List.map_map];rfl
    cases h3:lettersOk x with
    | false=>
     have h3':((x.cps.toList.map fun c=>Txt.contains LETS ⟨#[c]⟩).all fun b=>b)=false:=h3;rw [h3'];exact W.stC (W.sRaise (C:=99) (by rfl) rfl (by rfl) (W.b_ (W.c_ rfl (W.lo rfl (W.addS (by show 9+x.length<=100000;omega) (e _ hp (by unfold o_;rw [h3];simp)))))))
    | true=>
     have h3':((x.cps.toList.map fun c=>Txt.contains LETS ⟨#[c]⟩).all fun b=>b)=true:=h3;rw [h3'];refine W.any0 (W.stN ?_);refine W.stC (W.sIf (W.t_ rfl (W.lo rfl (W.tuple rfl rfl (W.c_ rfl (W.c_ rfl (W.inT gn_ (b:=decide ("."=x) || (decide (".."=x) || false)) rfl ?_)))))));cases h4:(decide ("."=x) || (decide (".."=x) || false)) with
     | false=>exact W.stN (W.stN (q _ (hp.trans (Pre.app _ _)) (by unfold o_;rw [h1,h2,h3,h4];rfl)))
     | true=>exact W.stC (W.sRaise (C:=99) (by rfl) rfl (by rfl) (W.b_ (W.c_ rfl (W.lo rfl (W.addS (by show 9+x.length<=100000;omega) (e _ (hp.trans (Pre.app _ _)) (by unfold o_;rw [h1,h2,h3,h4];rfl)))))))
end
end
section
theorem ln_{x y:Str}{v u:V}{l:List (Str×V)}(h:y≠x)(e:l.lookup y=some u):(putA x v l).lookup y=some u:=by rw [la_,if_neg h];exact e
theorem le_{x:Str}{v:V}{l:List (Str×V)}:(putA x v l).lookup x=some v:=by rw [la_,if_pos rfl]
abbrev has(l:List (Str×V))(x:Str)(v:V):Prop:=l.lookup x=some v
def pb_(p:Str):List Str:=if p="" then [] else Txt.split p "/"
def Closed(ns:List Nd):Prop:=∀ n∈ns,∀ e∈n.kids,(ndAt ns e.2).isSome=true
theorem lm_{x:Str}{c:Int}:∀ {l:List (Str×Int)},l.lookup x=some c->(x,c)∈l
 | [],h=>by cases h
 | (y,u)::r,h=>by
  rw [List.lookup_cons] at h;split at h
  ·rename_i e;cases h;have:x=y:=by simpa using e
   subst this;exact .head _
  ·exact .tail _ (lm_ h)
theorem Closed.kid{ns:List Nd}(C:Closed ns){n:Nd}(hn:n∈ns){x:Str}{c:Int}(h:n.kids.lookup x=some c):∃ m,ndAt ns c=some m:=Option.isSome_iff_exists.mp (C n hn _ (lm_ h))
def fc_(ns:List Nd):Int->List Str->Option Int
 | p,[]=>some p
 | p,x::r=>match (ndAt ns p).bind fun n=>n.kids.lookup x with
  | some c=>fc_ ns c r
  | none=>none
theorem fs_{ns:List Nd}{c:Int}{m:Nd}{x:Str}{r:List Str}(h:ndAt ns c=some m):fc_ ns c (x::r)=match m.kids.lookup x with
  | some c2=>fc_ ns c2 r
  | none=>none:=by
 show (match (ndAt ns c).bind _ with | some c=>fc_ ns c r | none=>none)=_;rw [h];rfl
section
variable {P:Prg} {E:Addr->S->Prop} {s:S} {ρ:Ev}
theorem W.splitB{x y:Str}{Q:V->S->Prop}(hz:0 < y.length/\x.length<=100000)(q:Q (.ref s.h.length) {s with h:=s.h++ [.list ((Txt.split x y).map V.str)]}):W P (fun _=>cd_ "str.split" [.str x,.str y]) Q E s:=W.n_ (decide_eq_true hz) (W.bind (W.alloc (W.pure q)))
end
variable {w:World}
section
variable {s:S} {A:Adr} {last:Int} {ns:List Nd} {notes zaps:List (V×V)} {d:Nat} {E:Addr->S->Prop}
theorem want_free_W(R:Rep s A last ns notes zaps){p:Int}{x:Str}{n:Nd}(hp:ndAt ns p=some n)(hz:x.cps.size<=1000){Q:V->S->Prop}(q:∀ h,Pre s.h h->o_ x=true->n.kids.lookup x=none->Q .none {h:=h,l:=s.l})
  (e1:∀ h,Pre s.h h->o_ x=false->E 99 {h:=h,l:=s.l}) (e2:∀ h c,Pre s.h h->o_ x=true->n.kids.lookup x=some c->E 63 {h:=h,l:=s.l}):
  W (pg w) (fun F=>F.call (.glob 339) [.ref A.b,.int p,.str x] (d+5)) Q E s:=by
 have hl:x.length<=1000:=hz;refine W.f (P:=pg w) rfl ?_;dsimp only;refine W.stC (W.sc_ rfl (W.cG (by rfl) ((W.lo rfl ⟨rfl,want_name_W hz (fun h hpre hok=>?_) fun h hpre hok=>e1 h hpre hok⟩))));refine W.stC (W.sIf (W.t_ rfl (W.cG (by rfl) ((W.lo rfl (W.lo rfl (W.lo rfl ⟨rfl,?_⟩)))))));refine child_of_W (R.on hpre _) hp fun h2 hpre2=>W.c_ rfl ?_;unfold kidV;cases hk:n.kids.lookup x with
 | some c=>
  exact W.p_ (fun _=>rfl) (W.stC (W.sRaise (C:=63) (by rfl) rfl (by rfl) (W.b_ (W.c_ rfl (W.lo rfl (W.addS (by show 22+x.length<=100000;omega) (e2 h2 c (hpre.trans hpre2) hok hk)))))))
 | none=>exact W.p_ (fun _=>rfl) (W.stN (W.stN (q h2 (hpre.trans hpre2) hok hk)))
theorem parts_of_W{p:Str}(hz:p.length<=90000){Q:V->S->Prop}(q:∀ h r,Pre s.h h->s.h.length<=r->h[r]? =some (.list ((pb_ p).map V.str))->Q (.ref r) {h:=h,l:=s.l}):
  W (pg w) (fun F=>F.call (.glob 354) [.str p] (d+1)) Q E s:=by
 refine W.f (P:=pg w) rfl ?_;dsimp only;refine W.stC (W.s_ (W.ifexp (W.t_ rfl (W.lo rfl (W.c_ rfl (W.p_ (a:=decide (p="")) (fun _=>rfl) ?_))))));by_cases h:p=""
 ·subst h;exact W.list rfl rfl (q _ _ (Pre.app _ _) (Nat.le_refl _) gn_)
 ·rw [decide_eq_false h];refine W.cc_ rfl rfl rfl (W.lo rfl (W.p_ (fun _=>rfl) (W.c_ rfl ⟨rfl,W.bi (W.splitB ⟨by decide,by omega⟩ (q _ _ (Pre.app _ _) (Nat.le_refl _) (by unfold pb_;rw [if_neg h];exact gn_)))⟩)))
theorem find_dir_W(R:Rep s A last ns notes zaps)(C:Closed ns){m0:Nd}(h4:ndAt ns 4=some m0){path:Str}(hz:path.length<=90000){Q:V->S->Prop}(q:∀ h c,Pre s.h h->fc_ ns 4 (pb_ path)=some c->Q (.int c) {h:=h,l:=s.l})
  (e1:∀ h,Pre s.h h->fc_ ns 4 (pb_ path)=none->E 51 {h:=h,l:=s.l}):
  W (pg w) (fun F=>F.call (.glob 361) [.ref A.b,.str path] (d+5)) Q E s:=by
 refine W.f (P:=pg w) rfl ?_;dsimp only;refine W.stC (W.sA (W.cG (by rfl) ((W.lo rfl ⟨rfl,root_dir_W (R.loc _) fun h1 p1=>W.asN rfl ?_⟩))));refine W.stC (W.sFor rfl (W.cG (by rfl) ((W.lo rfl ⟨rfl,parts_of_W hz fun h2 r p2 hr hl=>W.iterL hl ?_⟩))));have hlen:(h2++ [O.itL r 0]).length=h2.length+1:=by simp
 have p12:Pre s.h h2:=p1.trans p2;refine W.forL (vs:=(pb_ path).map V.str) (it:=h2.length) (l:=r) (I:=fun i s'=>Pre h2 s'.h/\s'.h[h2.length]? =some (.itL r i)/\has s'.l "base" (.ref A.b)/\has s'.l "path" (.str path)/\∃ c m,has s'.l "place" (.int c)/\ndAt ns c=some m/\fc_ ns 4 (pb_ path)=fc_ ns c ((pb_ path).drop i)) rfl (fun i s' h=>⟨h.2.1,h.1.get hl⟩) ?_ ?_ ((pb_ path).map V.str).length 0 _ (by omega) ?_
 ·intro i v s' ⟨i1,i2,i3,i4,c,m,i5,i6,i7⟩ hv;have hv2:∃ x,(pb_ path)[i]? =some x/\v= .str x:=by
   rw [List.getElem?_map] at hv;cases e:(pb_ path)[i]? with
   | none=>rw [e] at hv;cases hv
   | some x=>rw [e] at hv;cases hv;exact ⟨x,rfl,rfl⟩
  obtain ⟨x,hx,rfl⟩:=hv2;have hdrop:(pb_ path).drop i=x::(pb_ path).drop (i+1):=by
   have hlt:=(List.getElem?_eq_some_iff.mp hx).1;rw [List.drop_eq_getElem_cons hlt];congr 1;exact (List.getElem?_eq_some_iff.mp hx).2
  have i1':=i1.set (n:=h2.length) (o:=O.itL r (i+1)) (Nat.le_refl _);refine W.stC (W.sA (W.cG (by rfl) ((W.lo (ln_ (by decide) i3) (W.lo (ln_ (by decide) i5) (W.lo le_ ⟨rfl,?_⟩))))));refine child_of_W (R.on (p12.trans i1') _) i6 fun h3 p3=>W.asN rfl ?_;rw [hdrop,fs_ i6] at i7;refine W.stC (W.sIf (W.t_ rfl (W.lo le_ (W.c_ rfl ?_))));unfold kidV;cases hk:m.kids.lookup x with
  | none=>
   rw [hk] at i7;exact W.p_ (fun _=>rfl) (W.stC (W.sRaise (C:=51) (by rfl) rfl (by rfl) (W.b_ (W.c_ rfl (W.lo (ln_ (by decide) (ln_ (by decide) i4)) (W.addS (by show 17+path.length<=100000;omega) (e1 _ (p12.trans (i1'.trans p3)) i7)))))))
  | some c2=>
   rw [hk] at i7;obtain ⟨m2,hm2⟩:=C.kid (nm_ i6).1 hk;refine W.p_ (fun _=>rfl) (W.stN (W.stN ⟨i1'.trans p3,p3.get (ge_ i2),?_,?_,c2,m2,le_,hm2,i7⟩))
   ·exact ln_ (by decide) (ln_ (by decide) i3)
   ·exact ln_ (by decide) (ln_ (by decide) i4)
 ·intro s' ⟨i1,i2,i3,i4,c,m,i5,i6,i7⟩;rw [List.length_map,List.drop_length] at i7;exact W.stC (W.s_ (W.lo i5 (q _ c (p12.trans (i1.set (Nat.le_refl _))) i7)))
 ·exact ⟨Pre.app _ _,gn_,rfl,rfl,4,m0,rfl,h4,rfl⟩
end
end
section
section
variable {P:Prg} {E:Addr->S->Prop} {s:S} {ρ:Ev}
theorem W.whI{t:Expr}{b:List Stmt}{Q:Flow->S->Prop}(I:Nat->S->Prop)(step:∀ k s,I k s->W P (fun F=>F.tr t ρ) (fun c s1=>if c=true then W P (fun F=>e_ P.K F b ρ) (fun f s2=>match f with | .next=>∃ k',k' < k/\I k' s2 | .ret v=>Q (.ret v) s2) E s1 else Q .next s1) E s):
  ∀ k s,I k s->W P (fun F=>F.wh t b ρ) Q E s:=by
 intro k
 induction k using Nat.strongRecOn with
 | ind k ih=>
  intro s h;refine W.whT ((step k s h).post fun c s1 h1=>?_);cases c with
  | false=>exact h1
  | true=>
   refine W.post h1 fun f s2 h2=>?_;cases f with
   | next=>obtain ⟨k',hk,h3⟩:=h2;exact ih k' hk s2 h3
   | ret v=>exact h2
theorem W.sto0{Q:Unit->S->Prop}(q:Q () s):W P (fun _=>sr_ ρ [] []) Q E s:=W.pure q
theorem W.stoL{x:Str}{v:V}{xs:List Str}{vs:List V}{Q:Unit->S->Prop}(hx:ρ.scope.names.lookup x=some .local)(h:W P (fun _=>sr_ ρ xs vs) Q E {s with l:=putA x v s.l}):W P (fun _=>sr_ ρ (x::xs) (v::vs)) Q E s:=
 W.bind (W.ret (fun F=>by show si_ ρ x v s=_;unfold si_;rw [hx];rfl) h)
end
def ci_(ns:List Nd):Nat->Int->Prop
 | 0,p=>p=0
 | k+1,p=>p=0\/∃ n,ndAt ns p=some n/\ci_ ns k n.par
def isIn(ns:List Nd):Nat->Int->Int->Bool
 | 0,_,_=>false
 | k+1,p,o=>if p=0 then false else if p=o then true else match ndAt ns p with
  | some n=>isIn ns k n.par o
  | none=>false
def nd_(m:Nd)(p:Int):Str:=((ka_ m).find? fun x=>decide (m.kids.lookup x=some p)).getD ""
variable {w:World}
section
variable {s:S} {A:Adr} {last:Int} {ns:List Nd} {notes zaps:List (V×V)} {d:Nat} {E:Addr->S->Prop}
theorem is_within_W(R:Rep s A last ns notes zaps){p o:Int}{k:Nat}(hu:ci_ ns k p){Q:V->S->Prop}(q:∀ h,Pre s.h h->Q (.bool (isIn ns k p o)) {h:=h,l:=s.l}):
  W (pg w) (fun F=>F.call (.glob 382) [.ref A.b,.int p,.int o] (d+4)) Q E s:=by
 refine W.f (P:=pg w) rfl ?_;dsimp only;refine W.stC (W.sWhile (W.whI (fun j s'=>Pre s.h s'.h/\has s'.l "base" (.ref A.b)/\has s'.l "other" (.int o)/\∃ c,has s'.l "place" (.int c)/\ci_ ns j c/\isIn ns k p o=isIn ns j c o) ?_ k _ ⟨Pre.refl _,rfl,rfl,p,rfl,hu,rfl⟩));intro j s' ⟨i1,i2,i3,c,i4,i5,i6⟩;refine W.t_ rfl (W.lo i4 (W.c_ rfl (W.p_ (a:=!decide (c=0)) (fun _=>rfl) ?_)));by_cases hc:c=0
 ·rw [decide_eq_true hc];refine W.stC (W.s_ (W.c_ rfl ?_));have:isIn ns k p o=false:=by
   rw [i6];cases j with
   | zero=>rfl
   | succ j=>unfold isIn;rw [if_pos hc]
  rw [this] at q;exact q _ i1
 ·rw [decide_eq_false hc];cases j with
  | zero=>exact absurd i5 hc
  | succ j=>
   rw [show isIn ns (j+1) c o=if c=0 then false else if c=o then true else match ndAt ns c with | some n=>isIn ns j n.par o | none=>false from rfl,if_neg hc] at i6;refine W.stC (W.sIf (W.t_ rfl (W.lo i4 (W.lo i3 (W.p_ (a:=decide (c=o)) (fun _=>rfl) ?_)))));by_cases ho:c=o
   ·rw [decide_eq_true ho];rw [if_pos ho] at i6;refine W.stC (W.s_ (W.c_ rfl ?_));rw [show isIn ns k p o=true from i6] at q;exact q _ i1
   ·rw [decide_eq_false ho];rw [if_neg ho] at i6;rcases i5 with i5 | ⟨n,i5,i7⟩
    ·exact absurd i5 hc
    rw [i5] at i6;refine W.stN (W.stC (W.sA (W.a_ rfl (W.cG (by rfl) ((W.lo i2 (W.lo i4 ⟨rfl,?_⟩)))))));refine (R.on i1 _).load i5 fun h2 i di hp _ _ Inf=>?_;obtain ⟨k2,own2⟩:=Inf.own;refine W.g_ Inf.inst own2 (gd _ (by simp)) rfl rfl (W.asN rfl (W.stN ⟨j,Nat.lt_succ_self j,i1.trans hp,ln_ (by decide) i2,ln_ (by decide) i3,n.par,le_,i7,i6⟩))
theorem name_in_W(R:Rep s A last ns notes zaps){pp p:Int}{m:Nd}(hp:ndAt ns pp=some m){x0:Str}(hx0:((ka_ m).find? fun x=>decide (m.kids.lookup x=some p))=some x0){Q:V->S->Prop}(q:∀ h,Pre s.h h->Q (.str (nd_ m p)) {h:=h,l:=s.l}):
  W (pg w) (fun F=>F.call (.glob 368) [.ref A.b,.int pp,.int p] (d+4)) Q E s:=by
 obtain ⟨k1,own⟩:=R.base.own;obtain ⟨hm,_⟩:=nm_ hp;refine W.f (P:=pg w) rfl ?_;dsimp only;refine W.stC (W.sA (W.a_ rfl (W.cG (by rfl) ((W.lo rfl (W.lo rfl ⟨rfl,?_⟩))))));refine (R.loc _).load hp fun h1 i di p1 _ _ Inf=>?_;obtain ⟨k2,own2⟩:=Inf.own;refine W.g_ Inf.inst own2 (gd _ (by simp)) rfl rfl (W.asN rfl ?_);have R1:=R.on p1;obtain ⟨k3,hk⟩:=(R1 []).kids m hm;have hsv:sn_ ((ke_ m).map (·.1))=some ((ka_ m).map V.str):=by
  have e:=sort_strs (m.kids.map (·.1));rw [List.map_map] at e;rw [show (ke_ m).map (·.1)=m.kids.map (V.str∘fun x=>x.1) from by unfold ke_;rw [List.map_map];rfl];exact e
 refine W.stC (W.sFor rfl (W.cc_ rfl rfl rfl (W.lo rfl (W.m_ (R1 []).base.inst (p1.get own) mk_names rfl rfl (W.lo rfl ⟨by rfl,?_⟩)))));refine names_W (fun _=>rfl) (fun _=>rfl) (R1 _).base (R.zkids m hm) hk (by simpa using (R.kok m hm).1) hsv (W.iterL gn_ ?_);generalize hh2:h1++ [O.list ((ka_ m).map V.str)]=h2;have hl:h2[h1.length]? =some (.list ((ka_ m).map V.str)):=by subst hh2;exact gn_
 have p2:Pre h1 h2:=by subst hh2;exact Pre.app _ _
 have p12:Pre s.h h2:=p1.trans p2;refine W.forL (vs:=(ka_ m).map V.str) (it:=h2.length) (l:=h1.length) (I:=fun i s'=>Pre h2 s'.h/\s'.h[h2.length]? =some (.itL h1.length i)/\has s'.l "base" (.ref A.b)/\has s'.l "place" (.int p)/\has s'.l "children" (.int (m.place - 2))/\(((ka_ m).drop i).find? fun x=>decide (m.kids.lookup x=some p))=some x0) rfl (fun i s' h=>⟨h.2.1,h.1.get hl⟩) ?_ ?_ ((ka_ m).map V.str).length 0 _ (by omega) ?_
 ·intro i v s' ⟨i1,i2,i3,i4,i5,i6⟩ hv;have hv2:∃ x,(ka_ m)[i]? =some x/\v= .str x:=by
   rw [List.getElem?_map] at hv;cases e:(ka_ m)[i]? with
   | none=>rw [e] at hv;cases hv
   | some x=>rw [e] at hv;cases hv;exact ⟨x,rfl,rfl⟩
  obtain ⟨x,hx,rfl⟩:=hv2;have hdrop:(ka_ m).drop i=x::(ka_ m).drop (i+1):=by
   have hlt:=(List.getElem?_eq_some_iff.mp hx).1;rw [List.drop_eq_getElem_cons hlt];congr 1;exact (List.getElem?_eq_some_iff.mp hx).2
  have i1':=i1.set (n:=h2.length) (o:=O.itL h1.length (i+1)) (Nat.le_refl _);have R3:=R.on (p12.trans i1');obtain ⟨k4,own4⟩:=(R3 []).base.own;obtain ⟨k5,hk5⟩:=(R3 []).kids m hm;rw [hdrop,List.find?_cons] at i6;refine W.stC (W.sIf (W.t_ rfl (W.cc_ rfl rfl rfl (W.lo (ln_ (by decide) i3) (W.m_ (R3 []).base.inst own4 mk_get rfl rfl (W.lo (ln_ (by decide) i5) (W.lo le_ ⟨by rfl,?_⟩)))))));refine get_W (fun _=>rfl) (fun _=>rfl) (R3 _).base (R.zkids m hm) hk5 (likeStr x m) (W.lo (ln_ (by decide) i4) ?_);rw [kid_find];unfold kidV;by_cases hmt:m.kids.lookup x=some p
  ·rw [hmt];rw [decide_eq_true hmt] at i6;have i6:x=x0:=Option.some.inj i6;subst i6;refine W.p_ (a:=decide (p=p)) (fun _=>rfl) ?_;rw [decide_eq_true rfl];refine W.stC (W.s_ (W.lo le_ ?_));have hn:nd_ m p=x:=by unfold nd_;rw [hx0];rfl
   rw [<-hn];exact q _ (p12.trans i1')
  ·rw [decide_eq_false hmt] at i6;have hb:cmpM .Eq (match m.kids.lookup x with | some c=>V.int c | none=> .none) (.int p)=Pure.pure false:=by
    cases e:m.kids.lookup x with
    | none=>rfl
    | some c=>
     have h9:cmpM .Eq (V.int c) (.int p)=Pure.pure (decide (c=p)):=rfl;dsimp only;rw [h9,decide_eq_false (fun z=>hmt (by rw [e,z]))]
   refine W.p_ (a:=false) (fun _=>hb) (W.stN (W.stN ⟨i1',ge_ i2,ln_ (by decide) i3,ln_ (by decide) i4,ln_ (by decide) i5,i6⟩))
 ·intro s' ⟨i1,i2,i3,i4,i5,i6⟩;rw [List.length_map,List.drop_length] at i6;cases i6
 ·exact ⟨Pre.app _ _,gn_,rfl,rfl,rfl,hx0⟩
end
end
section
section
variable {P:Prg} {E:Addr->S->Prop} {s:S} {ρ:Ev}
theorem W.joinS{n:Nat}{x:Str}{xs:List Str}{Q:V->S->Prop}(hn:s.h[n]? =some (.list (xs.map V.str)))(hz:x.length<=16/\(xs.map (·.length)).sum+xs.length<=1048576)(q:Q (.str (Txt.join x xs)) s):W P (fun _=>cd_ "str.join" [.str x,.ref n]) Q E s:=
 W.bind (W.gc_ hn (W.pure (W.opt (strs_of xs) (W.n_ (decide_eq_true hz) (W.pure q)))))
theorem W.neNil{x y:Nat}{u:List V}{Q:Bool->S->Prop}(hx:s.h[x]? =some (.list u))(hy:s.h[y]? =some (.list []))(q:Q (!u.isEmpty) s):W P (fun _=>cmpM .NotEq (.ref x) (.ref y)) Q E s:=by
 refine W.bind (W.gc_ hx (W.gc_ hy ?_));cases u with
 | nil=>exact W.p_ (a:=true) (fun _=>rfl) (W.pure q)
 | cons a r=>
  refine W.eq (m:=fun _=>Pure.pure false) (W.pure (W.pure q)) fun F=>?_;rfl
end
def pathN(ns:List Nd):Nat->Int->List Str->List Str
 | 0,_,acc=>acc
 | k+1,p,acc=>match ndAt ns p with
  | some n=>if n.par=0 then acc else match ndAt ns n.par with
   | some m=>pathN ns k n.par (nd_ m p::acc)
   | none=>acc
  | none=>acc
def Named(ns:List Nd):Prop:=∀ n∈ns,n.par≠0->∃ m,ndAt ns n.par=some m/\∃ x0,((ka_ m).find? fun x=>decide (m.kids.lookup x=some n.place))=some x0
def kidPlaces(n:Nd):List Int:=(ka_ n).map fun x=>(n.kids.lookup x).getD 0
def dfs(ns:List Nd):Nat->List Int->List Int
 | 0,_=> []
 | _+1,[]=> []
 | k+1,p::r=>match ndAt ns p with
  | some n=>p::dfs ns k (kidPlaces n++r)
  | none=> []
def DfsOk(ns:List Nd):Nat->List Int->Prop
 | 0,ws=>ws= []
 | _+1,[]=>True
 | k+1,p::r=>∃ n,ndAt ns p=some n/\(kidPlaces n++r).length<=1000/\DfsOk ns k (kidPlaces n++r)
theorem insBy_mem{α:Type}(lt:α->α->Bool)(x:α):∀ (l:List α) (y:α),y∈ib_ lt x l ↔ y=x\/y∈l
 | [],y=>by simp [ib_]
 | z::r,y=>by
  unfold ib_;split
  ·rw [List.mem_cons,insBy_mem lt x r y,List.mem_cons];constructor
   ·rintro (h | h | h) <;> simp [h]
   ·rintro (h | h | h) <;> simp [h]
  ·simp
theorem sm_{α:Type}(lt:α->α->Bool):∀ (l:List α) (y:α),y∈sa_ lt l ↔ y∈l
 | [],y=>by simp [sa_]
 | x::r,y=>by unfold sa_;rw [insBy_mem,sm_ lt r y,List.mem_cons]
theorem insBy_len{α:Type}(lt:α->α->Bool)(x:α):∀ (l:List α),(ib_ lt x l).length=l.length+1
 | []=>rfl
 | z::r=>by
  unfold ib_;split
  ·simp [insBy_len lt x r]
  ·simp
theorem sortBy_len{α:Type}(lt:α->α->Bool):∀ (l:List α),(sa_ lt l).length=l.length
 | []=>rfl
 | x::r=>by unfold sa_;rw [insBy_len,sortBy_len lt r];rfl
theorem lookup_some{x:Str}:∀ {l:List (Str×Int)},x∈l.map (·.1)->∃ c,l.lookup x=some c
 | [],h=>by cases h
 | (y,u)::r,h=>by
  rw [List.lookup_cons];by_cases e:x=y
  ·subst e;simp
  ·have e2:(x==y)=false:=by simpa using e
   rw [e2];refine lookup_some ?_;rcases List.mem_cons.mp h with h | h
   ·exact absurd h e
   ·exact h
theorem kid_some{n:Nd}{x:Str}(h:x∈ka_ n):∃ c,n.kids.lookup x=some c:=lookup_some ((sm_ sd_ _ x).mp h)
theorem kidVs(n:Nd):(ka_ n).map (kidV n)=(kidPlaces n).map V.int:=by
 unfold kidPlaces;rw [List.map_map];refine List.map_congr_left fun x hx=>?_;obtain ⟨c,hc⟩:=kid_some hx;show _=V.int ((n.kids.lookup x).getD 0);unfold kidV;rw [hc];rfl
variable {w:World}
section
variable {s:S} {A:Adr} {last:Int} {ns:List Nd} {notes zaps:List (V×V)} {d:Nat} {E:Addr->S->Prop}
theorem path_of_W(R:Rep s A last ns notes zaps)(Nm:Named ns){p:Int}{k:Nat}{n0:Nd}(hp:ndAt ns p=some n0)(hu:ci_ ns k p)(hj:((pathN ns k p []).map (·.length)).sum+(pathN ns k p []).length<=1048576)(hk:k<=1000){Q:V->S->Prop}(q:∀ h,Pre s.h h->Q (.str (Txt.join "/" (pathN ns k p []))) {h:=h,l:=s.l}):
  W (pg w) (fun F=>F.call (.glob 375) [.ref A.b,.int p] (d+5)) Q E s:=by
 refine W.f (P:=pg w) rfl ?_;dsimp only;refine W.stC (W.sSwap (names:= ["names","parent"]) rfl rfl (W.tuple rfl rfl (W.list rfl rfl (W.a_ rfl (W.cG (by rfl) ((W.lo rfl (W.lo rfl ⟨rfl,?_⟩))))))));refine (R.on (Pre.app s.h [O.list []]) _).load hp fun h1 i di p1 _ _ Inf=>?_;obtain ⟨k2,own2⟩:=Inf.own;refine W.g_ Inf.inst own2 (gd _ (by simp)) rfl rfl ⟨_,it_ gn_,rfl,W.stoL rfl (W.stoL rfl (W.sto0 ?_))⟩;have hl0:(h1++ [O.tup [.ref s.h.length,.int n0.par]])[s.h.length]? =some (.list (([]:List Str).map V.str)):=ga_ (p1.get gn_);have p0:Pre s.h (h1++ [O.tup [.ref s.h.length,.int n0.par]]):=(Pre.app _ _).trans (p1.trans (Pre.app _ _));refine W.stC (W.sWhile (W.whI (fun j s'=>Pre s.h s'.h/\has s'.l "base" (.ref A.b)/\has s'.l "names" (.ref s.h.length)/\∃ c n acc,has s'.l "place" (.int c)/\has s'.l "parent" (.int n.par)/\ndAt ns c=some n/\ci_ ns j c/\j<=k/\s'.h[s.h.length]? =some (.list (acc.map V.str))/\acc.length+j<=k/\pathN ns k p []=pathN ns j c acc) ?_ k _ ⟨p0,rfl,rfl,p,n0,[],rfl,rfl,hp,hu,Nat.le_refl _,hl0,by simp,rfl⟩));intro j s' ⟨i1,i2,i3,c,n,acc,i4,i5,i6,i7,i8,i9,i10,i11⟩;obtain ⟨hn,hcp⟩:=nm_ i6;have hc0:c≠0:=by have:=(R.places n hn).2.1;omega
 refine W.t_ rfl (W.lo i5 (W.c_ rfl (W.p_ (a:=!decide (n.par=0)) (fun _=>rfl) ?_)));cases j with
 | zero=>exact absurd i7 hc0
 | succ j=>
  have i7:∃ n',ndAt ns c=some n'/\ci_ ns j n'.par:=by
   rcases i7 with i7 | i7
   ·exact absurd i7 hc0
   ·exact i7
  obtain ⟨n',e1,i7⟩:=i7;rw [i6] at e1;cases e1;have un:pathN ns (j+1) c acc=if n.par=0 then acc else match ndAt ns n.par with
    | some m=>pathN ns j n.par (nd_ m c::acc)
    | none=>acc:=by
   show (match ndAt ns c with | some n=>_ | none=>acc)=_;rw [i6]
  rw [un] at i11;by_cases hz:n.par=0
  ·rw [decide_eq_true hz];rw [if_pos hz] at i11;refine W.stC (W.s_ (W.cc_ rfl rfl rfl (W.c_ rfl (W.p_ (fun _=>rfl) (W.lo i3 ⟨rfl,W.bi (W.joinS i9 ⟨by decide,by rw [<-i11];exact hj⟩ ?_)⟩)))));rw [<-i11];exact q _ i1
  ·rw [decide_eq_false hz];rw [if_neg hz] at i11;obtain ⟨m,hm,x0,hx0⟩:=Nm n hn hz;rw [hcp] at hx0;rw [hm] at i11;refine W.stC (W.sc_ rfl (W.cc_ rfl rfl rfl (W.lo i3 (W.insertM i9 (W.c_ rfl (W.cG (by rfl) ((W.lo i2 (W.lo i5 (W.lo i4 ⟨rfl,?_⟩))))))))));refine name_in_W (R.on i1 _) hm hx0 fun h3 p3=>⟨rfl,W.bi (W.insertB (p3.get i9) (decide_eq_true (by rw [List.length_map];omega)) ?_)⟩;have p4:Pre s.h (h3.set s.h.length (.list (.str (nd_ m c)::acc.map V.str))):=(i1.trans p3).set (Nat.le_refl _);refine W.stC (W.sSwap (names:= ["place","parent"]) rfl rfl (W.tuple rfl rfl (W.lo i5 (W.a_ rfl (W.cG (by rfl) ((W.lo i2 (W.lo i5 ⟨rfl,?_⟩))))))));refine (R.on p4 _).load hm fun h5 i di p5 _ _ Inf=>?_;obtain ⟨k2,own2⟩:=Inf.own;refine W.g_ Inf.inst own2 (gd _ (by simp)) rfl rfl ⟨_,it_ gn_,rfl,W.stoL rfl (W.stoL rfl (W.sto0 (W.stN ⟨j,Nat.lt_succ_self j,p4.trans (p5.trans (Pre.app _ _)),?_,?_,n.par,m,nd_ m c::acc,le_,ln_ (by decide) le_,hm,i7,by omega,ga_ (p5.get (ge_ (p3.get i9))),by rw [List.length_cons];omega,i11⟩)))⟩
   ·exact ln_ (by decide) (ln_ (by decide) i2)
   ·exact ln_ (by decide) (ln_ (by decide) i3)
theorem all_dirs_W(R:Rep s A last ns notes zaps){k:Nat}(hu:DfsOk ns k [4])(hk:k<=1000){Q:V->S->Prop}(q:∀ h r,Pre s.h h->h[r]? =some (.list ((dfs ns k [4]).map V.int))->Q (.ref r) {h:=h,l:=s.l}):
  W (pg w) (fun F=>F.call (.glob 415) [.ref A.b] (d+5)) Q E s:=by
 refine W.fnK (P:=pg w) rfl (hK:=by rfl) (hb:=rfl) (hf:=rfl) (hok:=by rfl) (hs:=rfl) (lq:=none) (hq:=by rfl) (hbs:=rfl) (hc:=rfl) ?_;dsimp only;have hpl:(s.h++ [O.cell none]).length=s.h.length+1:=by simp
 rw [hpl];refine W.parC (w:=none) rfl rfl (by simp) (W.par0 ?_);refine W.heap (h':=s.h++ [.cell (some (.ref A.b)),.cell none]) (by simp) ?_;dsimp only;generalize hm:s.h.length=m;have c1:(s.h++ [O.cell (some (.ref A.b)),.cell none])[m]? =some (.cell (some (.ref A.b))):=by subst hm;simp
 have c2:(s.h++ [O.cell (some (.ref A.b)),.cell none])[m+1]? =some (.cell none):=by subst hm;simp
 refine W.stC (W.sSwap (names:= ["found","waiting"]) rfl rfl (W.tuple rfl rfl (W.list rfl rfl (W.list rfl rfl (W.cG (by rfl) ((W.cI (ga_ c1) ⟨rfl,?_⟩)))))));refine root_dir_W (R.on ((Pre.app s.h _).trans (Pre.app _ _)) _) fun h1 p1=>⟨_,it_ gn_,rfl,W.stoL rfl (W.stoL rfl (W.sto0 ?_))⟩;have hb2:(s.h++ [O.cell (some (.ref A.b)),.cell none]).length=m+2:=by subst hm;simp
 dsimp only;rw [hb2];generalize hX:O.tup [V.ref (m+2),V.ref h1.length]=X;have pp:Pre (s.h++ [O.cell (some (.ref A.b)),.cell none]++ [O.list []]) (h1++ [.list [.int 4]]++ [X]):=p1.trans ((Pre.app _ _).trans (Pre.app _ _));have l1:m+3<=h1.length:=by have:=p1.len;simp at this;omega
 have z1:(h1++ [O.list [V.int 4]]++ [X])[m]? =some (.cell (some (.ref A.b))):=pp.get (ga_ c1);have z2:(h1++ [O.list [V.int 4]]++ [X])[m+1]? =some (.cell none):=pp.get (ga_ c2);have z3:(h1++ [O.list [V.int 4]]++ [X])[m+2]? =some (.list []):=pp.get (by rw [<-hb2];exact gn_);have z4:(h1++ [O.list [V.int 4]]++ [X])[h1.length]? =some (.list [.int 4]):=ga_ gn_;have z5:Pre s.h (h1++ [O.list [V.int 4]]++ [X]):=((Pre.app _ _).trans (Pre.app _ _)).trans pp;refine W.stC (W.sWhile (W.whI (fun j s'=>Pre s.h s'.h/\s'.h[m]? =some (.cell (some (.ref A.b)))/\(∃ c,s'.h[m+1]? =some (.cell c))/\has s'.l "found" (.ref (m+2))/\∃ fs ws r,has s'.l "waiting" (.ref r)/\m+3<=r/\s'.h[m+2]? =some (.list (fs.map V.int))/\s'.h[r]? =some (.list (ws.map V.int))/\DfsOk ns j ws/\ws.length<=1000/\fs.length+j<=k/\dfs ns k [4]=fs++dfs ns j ws) ?_ k _ ⟨z5,z1,⟨_,z2⟩,rfl,[],[4],h1.length,rfl,l1,z3,z4,hu,by decide,by simp,rfl⟩));intro j s' ⟨i1,i2,⟨c0,i3⟩,i4,fs,ws,r,i5,i6,i7,i8,i9,i10,i11,i12⟩;refine W.t_ rfl (W.lo i5 (W.list rfl rfl (W.neNil (ga_ i8) gn_ ?_)));cases ws with
 | nil=>
  refine W.stC (W.s_ (W.lo i4 (q _ _ (i1.trans (Pre.app _ _)) ?_)));have:dfs ns j []= []:=by cases j <;> rfl
  rw [i12,this,List.append_nil];exact ga_ i7
 | cons p ws=>
  cases j with
  | zero=>cases i9
  | succ j=>
   obtain ⟨n,hn,hlen,i9⟩:=i9;have un:dfs ns (j+1) (p::ws)=p::dfs ns j (kidPlaces n++ws):=by
    show (match ndAt ns p with | some n=>_ | none=> [])=_;rw [hn]
   rw [un] at i12;have hr:r < s'.h.length:=gl_ i8;refine W.stC (W.sA (W.cc_ rfl rfl rfl (W.lo i5 (W.popM (ga_ i8) (W.c_ rfl ⟨rfl,W.bi (W.popL (v:= .int p) (vs:=ws.map V.int) (ga_ i8) (decide_eq_true (by rw [List.length_map];simp at i10;omega)) ?_)⟩)))));refine W.asC (w:=c0) rfl rfl (gb_ (by omega) (ga_ i3)) ?_;generalize hh2:((s'.h++ [O.list []]).set r (.list (ws.map V.int))).set (m+1) (.cell (some (.int p)))=h2;have p2:Pre s.h h2:=by subst hh2;exact ((i1.trans (Pre.app _ _)).set (by omega)).set (by omega)
   have y1:h2[m]? =some (.cell (some (.ref A.b))):=by subst hh2;exact gb_ (by omega) (gb_ (by omega) (ga_ i2))
   have y2:h2[m+1]? =some (.cell (some (.int p))):=by subst hh2;exact ge_ (gb_ (by omega) (ga_ i3))
   have y3:h2[m+2]? =some (.list (fs.map V.int)):=by subst hh2;exact gb_ (by omega) (gb_ (by omega) (ga_ i7))
   have y4:h2[r]? =some (.list (ws.map V.int)):=by subst hh2;exact gb_ (by omega) (ge_ (ga_ i8))
   refine W.stC (W.sc_ rfl (W.cc_ rfl rfl rfl (W.lo i4 (W.appendM y3 (W.cI y2 ⟨rfl,W.bi (W.appendB y3 (decide_eq_true (by rw [List.length_map];omega)) ?_)⟩)))));generalize hh3:h2.set (m+2) (.list (fs.map V.int++ [.int p]))=h3;have p3:Pre s.h h3:=by subst hh3;exact p2.set (by omega)
   have x1:h3[m]? =some (.cell (some (.ref A.b))):=by subst hh3;exact gb_ (by omega) y1
   have x2:h3[m+1]? =some (.cell (some (.int p))):=by subst hh3;exact gb_ (by omega) y2
   have x3:h3[m+2]? =some (.list (fs.map V.int++ [.int p])):=by subst hh3;exact ge_ y3
   have x4:h3[r]? =some (.list (ws.map V.int)):=by subst hh3;exact gb_ (by omega) y4
   have hkn:(ka_ n).length<=1000:=by
    unfold ka_;rw [sortBy_len,List.length_map];have:=(R.kok n (nm_ hn).1).1;omega
   refine W.stC (W.sA (W.b_ (W.compL (cells:=_) rfl rfl rfl (W.cG (by rfl) ((W.cI x1 (W.cI x2 ⟨rfl,?_⟩)))))));refine child_names_W (R.on p3 _) hn fun h4 r4 p4 hr4 hl4=>⟨r4,(ka_ n).map V.str,fun v=>match v with | .str x=>kidV n x | v=>v,fun _=>true,rfl,hl4,by rw [List.length_map];exact hkn,?_,?_,?_⟩
   ·intro v hv h lo hp hlo;exact W.test0 ⟨rfl,Pre.refl _,rfl⟩
   ·intro v hv _ h lo hp hlo;obtain ⟨x,hx,rfl⟩:=List.mem_map.mp hv;refine W.cG (by rfl) ((W.cI (hp.get (p4.get x1)) (W.cI (hp.get (p4.get x2)) (W.lo hlo ⟨rfl,?_⟩))));exact child_of_W (R.on (p3.trans (p4.trans hp)) _) hn fun h5 p5=>⟨rfl,p5,rfl⟩
   ·intro h acc hp ha hacc;have e9:List.map (fun v=>match v with | .str x=>kidV n x | v=>v) (List.filter (fun _=>true) ((ka_ n).map V.str))=(kidPlaces n).map V.int:=by
     rw [List.filter_eq_self.mpr (fun _ _=>rfl),List.map_map,<-kidVs];rfl
    rw [e9] at hacc;refine W.lo i5 (W.addLL hacc (hp.get (p4.get x4)) ?_ (W.asN rfl (W.stN ⟨j,Nat.lt_succ_self j,p3.trans (p4.trans (hp.trans (Pre.app _ _))),ga_ (hp.get (p4.get x1)),⟨_,ga_ (hp.get (p4.get x2))⟩,ln_ (by decide) i4,fs++ [p],kidPlaces n++ws,_,le_,?_,?_,?_,i9,hlen,?_,?_⟩)))
    ·rw [List.length_map,List.length_map,<-List.length_append];omega
    ·have h1:=gl_ (hp.get (p4.get x3));dsimp only;omega
    ·rw [List.map_append];exact ga_ (hp.get (p4.get x3))
    ·rw [List.map_append];exact gn_
    ·simp;omega
    ·rw [i12];simp
end
end
section
def Keep(F:List Nat)(h h':List O):Prop:=h.length<=h'.length/\∀ i o,h[i]? =some o->i∉F->h'[i]? =some o
theorem Keep.refl(F:List Nat)(h:List O):Keep F h h:=⟨Nat.le_refl _,fun _ _ e _=>e⟩
theorem Keep.of_pre{F:List Nat}{h h':List O}(p:Pre h h'):Keep F h h':=⟨p.len,fun _ _ e _=>p.get e⟩
theorem Keep.trans{F:List Nat}{a b c:List O}(x:Keep F a b)(y:Keep F b c):Keep F a c:=⟨Nat.le_trans x.1 y.1,fun i o e n=>y.2 i o (x.2 i o e n) n⟩
theorem Keep.trans'{F G:List Nat}{a b c:List O}(x:Keep F a b)(y:Keep G b c)(hG:∀ i∈G,i∈F\/a.length<=i):Keep F a c:=
 ⟨Nat.le_trans x.1 y.1,fun i o e n=>y.2 i o (x.2 i o e n) fun hi=>(hG i hi).elim n fun h=>absurd (gl_ e) (by omega)⟩
theorem Keep.set{F:List Nat}{a b:List O}(x:Keep F a b){n:Nat}{o:O}(h:n∈F\/a.length<=n):Keep F a (b.set n o):=
 ⟨by rw [List.length_set];exact x.1,fun i p e hi=>by
  have hne:n≠i:=by
   intro z;subst z;rcases h with h | h
   ·exact hi h
   ·exact absurd (gl_ e) (by omega)
  exact gb_ hne (x.2 i p e hi)⟩
def u_(ns:List Nd)(m:Nd):List Nd:=ns.map fun n=>if n.place=m.place then m else n
theorem nc_(n:Nd)(ns:List Nd)(p:Int):ndAt (n::ns) p=if n.place=p then some n else ndAt ns p:=by
 unfold ndAt;rw [List.find?_cons];by_cases h:n.place=p
 ·rw [decide_eq_true h,if_pos h]
 ·rw [decide_eq_false h,if_neg h]
theorem nu_(ns:List Nd)(m:Nd)(p:Int):ndAt (u_ ns m) p=if p=m.place then (ndAt ns p).map (fun _=>m) else ndAt ns p:=by
 induction ns with
 | nil=>unfold u_ ndAt;simp
 | cons n r ih=>
  have e:u_ (n::r) m=(if n.place=m.place then m else n)::u_ r m:=rfl;rw [e,nc_,nc_,ih];by_cases h1:n.place=m.place
  ·rw [if_pos h1];by_cases h2:p=m.place
   ·subst h2;simp [h1]
   ·have h3:¬ m.place=p:=fun z=>h2 z.symm;have h4:¬ n.place=p:=fun z=>h3 (h1▸z);rw [if_neg h2,if_neg h2,if_neg h3,if_neg h4]
  ·rw [if_neg h1];by_cases h2:p=m.place
   ·subst h2;rw [if_neg h1,if_pos rfl,if_neg h1,if_pos rfl]
   ·rw [if_neg h2,if_neg h2]
theorem um_{ns:List Nd}{m n:Nd}(h:n∈u_ ns m):n=m\/(n∈ns/\n.place≠m.place):=by
 obtain ⟨a,ha,e⟩:=List.mem_map.mp h;split at e
 ·exact .inl e.symm
 ·rename_i hne;subst e;exact .inr ⟨ha,hne⟩
theorem up_(ns:List Nd)(m:Nd):(u_ ns m).map (·.place)=ns.map (·.place):=by
 unfold u_;rw [List.map_map];refine List.map_congr_left fun n _=>?_;show (if n.place=m.place then m else n).place=n.place;split
 ·rename_i h;exact h.symm
 ·rfl
theorem no_{ns:List Nd}(nd:(ns.map (·.place)).Nodup){n:Nd}(h:n∈ns):ndAt ns n.place=some n:=by
 induction ns with
 | nil=>cases h
 | cons a r ih=>
  rw [nc_];rw [List.map_cons,List.nodup_cons] at nd;rcases List.mem_cons.mp h with rfl | h
  ·rw [if_pos rfl]
  ·have:a.place≠n.place:=fun z=>nd.1 (z▸List.mem_map_of_mem h);rw [if_neg this];exact ih nd.2 h
theorem upd_zr{ns:List Nd}(nd:(ns.map (·.place)).Nodup){n m:Nd}(h:n∈ns)(hp:m.place=n.place)(hz:m.zr=n.zr):(u_ ns m).map (·.zr)=ns.map (·.zr):=by
 unfold u_;rw [List.map_map];refine List.map_congr_left fun a ha=>?_;show (if a.place=m.place then m else a).zr=a.zr;split
 ·rename_i e;have e1:=no_ nd ha;have e2:=no_ nd h;rw [e,hp,e2] at e1;cases e1;exact hz
 ·rfl
theorem notes_int{es:List (V×V)}(h:i_ es=true){e:V×V}(he:e∈es):∃ i,e.1= .int i:=by
 unfold i_ at h;have:=List.all_eq_true.mp h e he;unfold isIntV at this;split at this
 ·rename_i i heq;exact ⟨i,heq⟩
 ·cases this
section
variable {s:S} {A:Adr} {last:Int} {ns:List Nd} {notes zaps:List (V×V)}
theorem Rep.len(R:Rep s A last ns notes zaps):∀ i∈foot A ns,i < s.h.length:=by
 intro i hi;simp only [List.mem_cons,List.mem_map] at hi;rcases hi with rfl | rfl | rfl | rfl | rfl | ⟨n,hn,rfl⟩
 ·exact gl_ R.base.inst
 ·exact gl_ R.base.own.choose_spec
 ·exact gl_ R.base.nts.choose_spec
 ·exact gl_ R.base.zps.choose_spec
 ·exact gl_ R.root.choose_spec
 ·exact gl_ (R.kids n hn).choose_spec
theorem Rep.store(R:Rep s A last ns notes zaps){n m:Nd}(hn:n∈ns)(hp:m.place=n.place)(hz:m.zr=n.zr)(hk:m.kids=n.kids)(hf:m.Fit){h:List O}{k:Nat}(pre:Pre s.h h)(hN:h[A.N]? =some (.dict notes k))(l:List (Str×V)):
  ∃ notes',Rep ⟨h.set A.N (putD (.int m.place) (.bytes (rowB m.row)) notes k),l⟩ A last (u_ ns m) notes' zaps/\foot A (u_ ns m)=foot A ns:=by
 have fe:foot A (u_ ns m)=foot A ns:=by unfold foot;rw [upd_zr R.pnd hn hp hz]
 have nd:=R.addr;have nb:A.N≠A.b:=by simp only [List.nodup_cons,List.mem_cons,not_or] at nd;omega
 have nbd:A.N≠A.bd:=by simp only [List.nodup_cons,List.mem_cons,not_or] at nd;omega
 have nZ:A.N≠A.Z:=by simp only [List.nodup_cons,List.mem_cons,not_or] at nd;omega
 have nzn:A.N≠A.zn:=by simp only [List.nodup_cons,List.mem_cons,not_or] at nd;omega
 have nzr:∀ a∈ns,A.N≠a.zr:=fun a ha z=>by
  simp only [List.nodup_cons,List.mem_cons,not_or] at nd;exact nd.2.2.1.2.2 (List.mem_map.mpr ⟨a,ha,z.symm⟩)
 have hold:=R.hnotes n.place;rw [no_ R.pnd hn] at hold;have hsome:(f_ (.int m.place) notes).isSome=true:=by rw [hp,hold];rfl
 have hlen:(putK (.int m.place) (.bytes (rowB m.row)) notes).length=notes.length:=by
  have:=congrArg List.length (dk_keys (.int m.place) (.bytes (rowB m.row)) notes hsome);simpa using this
 refine ⟨putK (.int m.place) (.bytes (rowB m.row)) notes,{base:={inst:=gb_ nb (pre.get R.base.inst),own:=(let ⟨k,e⟩:=R.base.own;⟨k,gb_ nbd (pre.get e)⟩),nts:=⟨_,(by unfold putD;exact ge_ hN)⟩,zps:=(let ⟨k,e⟩:=R.base.zps;⟨k,gb_ nZ (pre.get e)⟩),nk:=⟨putK_ints rfl R.base.nk.1,(by rw [hlen];exact R.base.nk.2)⟩,zk:=R.base.zk,ne:=R.base.ne},hnotes:=?_,nnd:=dk_nodup _ _ _ R.nnd,znames:=R.znames,zkids:=?_,zprops:=?_,znone:=R.znone,lens:=(by rw [hlen];exact R.lens),root:=(let ⟨k,e⟩:=R.root;⟨k,gb_ nzn (pre.get e)⟩),kids:=?_,fit:=?_,kok:=?_,addr:=(by rw [fe];exact R.addr),places:=?_,pnd:=(by rw [up_];exact R.pnd),low:=R.low},fe⟩
 ·intro p;rw [fp_,nu_,R.hnotes];by_cases h:p=m.place
  ·subst h;rw [if_pos rfl,if_pos rfl,hp,no_ R.pnd hn];rfl
  ·rw [if_neg (fun z=>h (V.int.inj z).symm),if_neg h]
 ·intro a ha;rcases um_ ha with rfl | ⟨ha,_⟩
  ·rw [hp,hz];exact R.zkids n hn
  ·exact R.zkids a ha
 ·intro a ha;rcases um_ ha with rfl | ⟨ha,_⟩
  ·rw [hp];exact R.zprops n hn
  ·exact R.zprops a ha
 ·intro a ha;rcases um_ ha with rfl | ⟨ha,_⟩
  ·obtain ⟨k,e⟩:=R.kids n hn;rw [hz];refine ⟨k,?_⟩;unfold ke_;rw [hk];exact gb_ (nzr n hn) (pre.get e)
  ·obtain ⟨k,e⟩:=R.kids a ha;exact ⟨k,gb_ (nzr a ha) (pre.get e)⟩
 ·intro a ha;rcases um_ ha with rfl | ⟨ha,_⟩
  ·exact hf
  ·exact R.fit a ha
 ·intro a ha;rcases um_ ha with rfl | ⟨ha,_⟩
  ·rw [hk];exact R.kok n hn
  ·exact R.kok a ha
 ·intro a ha;rcases um_ ha with rfl | ⟨ha,_⟩
  ·rw [hp];exact R.places n hn
  ·exact R.places a ha
end
end
section
def Nd.add(n:Nd)(u b:Int):Nd:={n with used:=n.used+u,bel:=n.bel+b}
def ca_:Nat->List Nd->Int->Int->Int->List Nd
 | 0,ns,_,_,_=>ns
 | k+1,ns,p,u,b=>if p≠0/\(u≠0\/b≠0) then match ndAt ns p with
   | some n=>ca_ k (u_ ns (n.add u b)) n.par 0 ((n.add u b).share - n.share)
   | none=>ns
  else ns
def CuOk:Nat->List Nd->Int->Int->Int->Prop
 | 0,_,p,u,b=>¬ (p≠0/\(u≠0\/b≠0))
 | k+1,ns,p,u,b=>(p≠0/\(u≠0\/b≠0))->∃ n,ndAt ns p=some n/\(n.add u b).Fit/\CuOk k (u_ ns (n.add u b)) n.par 0 ((n.add u b).share - n.share)
theorem putUsed{n:Nd}{x:Int}{k:Nat}:putD (.str "used") (.int x) (ia_ n) k= .dict (ia_ {n with used:=x}) k:=by rfl
theorem putBelow{n:Nd}{x:Int}{k:Nat}:putD (.str "below") (.int x) (ia_ n) k= .dict (ia_ {n with bel:=x}) k:=by rfl
theorem putRes{n:Nd}{x:Int}{k:Nat}:putD (.str "reserved") (.int x) (ia_ n) k= .dict (ia_ {n with res:=x}) k:=by rfl
theorem putPar{n:Nd}{x:Int}{k:Nat}:putD (.str "parent") (.int x) (ia_ n) k= .dict (ia_ {n with par:=x}) k:=by rfl
theorem foot_zr{A:Adr}{ns ns':List Nd}(h:foot A ns'=foot A ns):∀ i∈foot A ns',i∈foot A ns:=fun i hi=>h▸hi
variable {w:World}
section
variable {s:S} {A:Adr} {last:Int} {ns:List Nd} {notes zaps:List (V×V)} {d:Nat} {E:Addr->S->Prop}
theorem Rep.storeW{h0:List O}(R:Rep ⟨h0,[]⟩ A last ns notes zaps){n m:Nd}(hn:n∈ns)(hp:m.place=n.place)(hz:m.zr=n.zr)(hk:m.kids=n.kids)(hf:m.Fit){i di:Nat}(pre:Pre h0 s.h)(I:Info s.h i di m)(li:h0.length<=i)(ldi:h0.length<=di){Q:V->S->Prop}
  (q:∀ h notes',Rep ⟨h,[]⟩ A last (u_ ns m) notes' zaps->foot A (u_ ns m)=foot A ns->Keep (foot A ns) h0 h->Info h i di m->s.h.length<=h.length->Q .none {h:=h,l:=s.l}):
  W (pg w) (fun F=>F.call (.glob 292) [.ref A.b,.int m.place,.ref i] (d+3)) Q E s:=by
 have R1:=R.on pre;have hx:=R.hnotes m.place;rw [hp,no_ R.pnd hn] at hx;refine store_dir_W (R1 s.l).base (p:=m.place) (by rw [hp];exact hx) I hf fun h k hpre hN=>?_;obtain ⟨notes',R2,fe⟩:=R.store hn hp hz hk hf (pre.trans hpre) hN [];have hN0:A.N < h0.length:=R.len _ (by simp);have I2:=I.pre hpre;refine q _ notes' R2 fe ((Keep.of_pre (pre.trans hpre)).set (.inl (by simp))) ⟨gb_ (by omega) I2.inst,?_,I2.ne⟩ (by rw [List.length_set];exact hpre.len);obtain ⟨k2,e⟩:=I2.own;exact ⟨k2,gb_ (by omega) e⟩
theorem Rep.l0{s:S}(R:Rep s A last ns notes zaps):Rep ⟨s.h,[]⟩ A last ns notes zaps:=R.loc []
theorem cu_(R:Rep s A last ns notes zaps){p u b:Int}{k:Nat}(hc:CuOk k ns p u b){Q:V->S->Prop}
  (q:∀ h notes',Rep ⟨h,[]⟩ A last (ca_ k ns p u b) notes' zaps->foot A (ca_ k ns p u b)=foot A ns->Keep (foot A ns) s.h h->Q .none {h:=h,l:=s.l}):
  W (pg w) (fun F=>F.call (.glob 396) [.ref A.b,.int p,.int u,.int b] (d+4)) Q E s:=by
 refine W.f (P:=pg w) rfl ?_;dsimp only;refine W.stC (W.sWhile (W.whI (fun j s'=>has s'.l "base" (.ref A.b)/\∃ ns' notes' c u' b',has s'.l "place" (.int c)/\has s'.l "used" (.int u')/\has s'.l "below" (.int b')/\Rep ⟨s'.h,[]⟩ A last ns' notes' zaps/\foot A ns'=foot A ns/\Keep (foot A ns) s.h s'.h/\CuOk j ns' c u' b'/\ca_ k ns p u b=ca_ j ns' c u' b') ?_ k _ ⟨rfl,ns,notes,p,u,b,rfl,rfl,rfl,R.l0,rfl,Keep.refl _ _,hc,rfl⟩));intro j s' ⟨i1,ns',notes',c,u',b',i2,i3,i4,R',fe,kp,i5,i6⟩;have fin:¬ (c≠0/\(u'≠0\/b'≠0))->Q .none {h:=s'.h,l:=s.l}:=fun hno=>by
  have:ca_ j ns' c u' b'=ns':=by
   cases j with
   | zero=>rfl
   | succ j=>show (if _ then _ else _)=_;rw [if_neg hno]
  rw [this] at i6;rw [i6] at q;exact q _ notes' R' fe kp
 have go:c≠0->(u'≠0\/b'≠0)->∃ j',j=j'+1/\∃ n,ndAt ns' c=some n/\(n.add u' b').Fit/\CuOk j' (u_ ns' (n.add u' b')) n.par 0 ((n.add u' b').share - n.share)/\ca_ k ns p u b=ca_ j' (u_ ns' (n.add u' b')) n.par 0 ((n.add u' b').share - n.share):=fun h1 h2=>by
  cases j with
  | zero=>exact absurd ⟨h1,h2⟩ i5
  | succ j=>
   obtain ⟨n,e1,e2,e3⟩:=i5 ⟨h1,h2⟩;refine ⟨j,rfl,n,e1,e2,e3,?_⟩;rw [i6];show (if _ then _ else _)=_;rw [if_pos ⟨h1,h2⟩,e1]
 have body:(c≠0/\(u'≠0\/b'≠0))->∃ j',j=j'+1/\∃ n,ndAt ns' c=some n/\(n.add u' b').Fit/\CuOk j' (u_ ns' (n.add u' b')) n.par 0 ((n.add u' b').share - n.share)/\ca_ k ns p u b=ca_ j' (u_ ns' (n.add u' b')) n.par 0 ((n.add u' b').share - n.share):=fun h=>go h.1 h.2;have test:∀ {Q2:Bool->S->Prop},((c≠0/\(u'≠0\/b'≠0))->Q2 true s')->(¬ (c≠0/\(u'≠0\/b'≠0))->Q2 false s')->Q2 (decide (c≠0/\(u'≠0\/b'≠0))) s':=fun h1 h2=>by
  by_cases h:c≠0/\(u'≠0\/b'≠0)
  ·rw [decide_eq_true h];exact h1 h
  ·rw [decide_eq_false h];exact h2 h
 refine W.post (Q:=fun bb s1=>bb=decide (c≠0/\(u'≠0\/b'≠0))/\s1=s') ?_ fun bb s1 ⟨hb,hs⟩=>?_
 ·refine W.trAnd (W.allC (W.t_ rfl (W.lo i2 (W.c_ rfl (W.p_ (a:=!decide (c=0)) (fun _=>rfl) ?_)))));by_cases h1:c=0
  ·rw [decide_eq_true h1];exact ⟨by simp [h1],rfl⟩
  rw [decide_eq_false h1];refine W.allC (W.trOr (W.anyC (W.t_ rfl (W.lo i3 (W.c_ rfl (W.p_ (a:=!decide (u'=0)) (fun _=>rfl) ?_))))));by_cases h2:u'=0
  ·rw [decide_eq_true h2];refine W.anyC (W.t_ rfl (W.lo i4 (W.c_ rfl (W.p_ (a:=!decide (b'=0)) (fun _=>rfl) ?_))));by_cases h3:b'=0
   ·rw [decide_eq_true h3];exact W.any0 ⟨by simp [h2,h3],rfl⟩
   ·rw [decide_eq_false h3];exact W.all0 ⟨by simp [h1,h2,h3],rfl⟩
  ·rw [decide_eq_false h2];exact W.all0 ⟨by simp [h1,h2],rfl⟩
 subst hb;rw [hs];by_cases hcond:c≠0/\(u'≠0\/b'≠0)
 ·rw [decide_eq_true hcond,if_pos rfl];obtain ⟨j',rfl,n,e1,e2,e3,e4⟩:=body hcond;obtain ⟨hn,hcp⟩:=nm_ e1;refine W.stC (W.sA (W.cG (by rfl) ((W.lo i1 (W.lo i2 ⟨rfl,?_⟩)))));refine (R'.on (Pre.refl _) _).load e1 fun h1 i di p1 li ldi Inf=>W.asN rfl ?_;refine W.stC (W.sA (W.cG (by rfl) ((W.lo le_ ⟨rfl,so_ Inf (W.asN rfl ?_)⟩))));obtain ⟨k2,own2⟩:=Inf.own;refine W.stC (W.sA (W.b_ (W.a_ rfl (W.lo (ln_ (by decide) le_) (W.g_ Inf.inst own2 (gd _ (by simp)) rfl rfl (W.lo (ln_ (by decide) (ln_ (by decide) i3)) (W.p_ (fun _=>rfl) ?_)))))));refine W.asA (W.lo (ln_ (by decide) le_) (W.sh_ Inf.inst own2 (sd _ (by simp)) rfl ?_));rw [putUsed];have hli:s'.h.length<=di:=ldi;have I2:Info (h1.set di (.dict (ia_ {n with used:=n.used+u'}) k2)) i di {n with used:=n.used+u'}:=⟨gb_ (Ne.symm Inf.ne) Inf.inst,⟨k2,ge_ own2⟩,Inf.ne⟩;have p2:Pre s'.h (h1.set di (.dict (ia_ {n with used:=n.used+u'}) k2)):=p1.set hli;obtain ⟨k3,own3⟩:=I2.own;generalize (h1.set di (.dict (ia_ {n with used:=n.used+u'}) k2))=h2 at I2 p2 own3 ⊢;refine W.stC (W.sA (W.b_ (W.a_ rfl (W.lo (ln_ (by decide) le_) (W.g_ I2.inst own3 (gd _ (by simp)) rfl rfl (W.lo (ln_ (by decide) (ln_ (by decide) i4)) (W.p_ (fun _=>rfl) ?_)))))));refine W.asA (W.lo (ln_ (by decide) le_) (W.sh_ I2.inst own3 (sd _ (by simp)) rfl ?_));rw [putBelow];have I3:Info (h2.set di (.dict (ia_ (n.add u' b')) k3)) i di (n.add u' b'):=⟨gb_ (Ne.symm I2.ne) I2.inst,⟨k3,ge_ own3⟩,I2.ne⟩;have p3:Pre s'.h (h2.set di (.dict (ia_ (n.add u' b')) k3)):=p2.set hli;refine W.heap (h':=h2.set di (.dict (ia_ (n.add u' b')) k3)) rfl ?_;generalize (h2.set di (.dict (ia_ (n.add u' b')) k3))=h3 at I3 p3 ⊢;refine W.stC (W.sc_ rfl (W.cG (by rfl) ((W.lo (ln_ (by decide) (ln_ (by decide) i1)) (W.lo (ln_ (by decide) (ln_ (by decide) i2)) (W.lo (ln_ (by decide) le_) ⟨rfl,?_⟩))))));rw [<-hcp];refine R'.storeW (m:=n.add u' b') hn rfl rfl rfl e2 p3 I3 li ldi fun h4 notes4 R4 fe4 kp4 I4 l4=>?_;obtain ⟨k5,own5⟩:=I4.own;refine W.stC (W.sSwap (names:= ["used","below","place"]) rfl rfl (W.tuple rfl rfl (W.c_ rfl (W.b_ (W.cG (by rfl) ((W.lo (ln_ (by decide) le_) ⟨rfl,so_ I4 (W.lo le_ (W.p_ (fun _=>rfl) (W.a_ rfl (W.lo (ln_ (by decide) le_) (W.g_ I4.inst own5 (gd _ (by simp)) rfl rfl ⟨_,it_ gn_,rfl,W.stoL rfl (W.stoL rfl (W.stoL rfl (W.sto0 (W.stN ?_))))⟩)))))⟩)))))));refine ⟨j',Nat.lt_succ_self j',?_,u_ ns' (n.add u' b'),notes4,n.par,0,(n.add u' b').share - n.share,?_,?_,?_,R4.on (Pre.app _ _) [],fe4.trans fe,?_,e3,e4⟩
  ·exact ln_ (by decide) (ln_ (by decide) (ln_ (by decide) (ln_ (by decide) (ln_ (by decide) i1))))
  ·exact ln_ (by decide) (ln_ (by decide) le_)
  ·exact le_
  ·exact ln_ (by decide) le_
  ·refine (kp.trans' kp4 fun i hi=> .inl (fe▸hi)).trans (Keep.of_pre (Pre.app _ _))
 ·rw [decide_eq_false hcond];exact W.stN (fin hcond)
end
end
section
theorem Base.bne{s:S}{b bd N Z:Nat}{last:Int}{notes zaps:List (V×V)}(B:Base s b bd N Z last notes zaps):bd≠b/\N≠b/\Z≠b:=by
 obtain ⟨k1,own⟩:=B.own;obtain ⟨k2,nts⟩:=B.nts;obtain ⟨k3,zps⟩:=B.zps;refine ⟨fun z=>?_,fun z=>?_,fun z=>?_⟩
 ·have:=B.inst;rw [<-z,own] at this;cases this
 ·have:=B.inst;rw [<-z,nts] at this;cases this
 ·have:=B.inst;rw [<-z,zps] at this;cases this
variable {w:World}
section
variable {s:S} {b bd N Z:Nat} {last:Int} {notes zaps:List (V×V)} {d:Nat} {E:Addr->S->Prop}
theorem new_zap_B(B:Base s b bd N Z last notes zaps)(hz:zaps.length < 900){Q:V->S->Prop}(q:∀ h,Base ⟨h,[]⟩ b bd N Z (last+1) notes (putK (.int (last+1)) (.ref s.h.length) zaps)->Keep [bd,Z] s.h h->h[s.h.length]? =some (.dict [] 0)->h.length=s.h.length+1->Q (.int (last+1)) {h:=h,l:=s.l}):
  W (pg w) (fun F=>F.call (.glob 188) [.ref b] (d+1)) Q E s:=by
 obtain ⟨n1,n2,n3⟩:=B.bne;have lb:=gl_ B.inst;have lN:=gl_ B.nts.choose_spec;have lZ:=gl_ B.zps.choose_spec;have lbd:=gl_ B.own.choose_spec;refine new_zap_W (fun _=>rfl) B fun k1 k2 e1 e2=>?_;obtain ⟨k3,e3⟩:=B.nts;refine q _ {inst:=gb_ n3 (ga_ (gb_ n1 B.inst)),own:=⟨k1,gb_ (Ne.symm B.ne.2.1) (ga_ (ge_ e1))⟩,nts:=⟨k3,gb_ (Ne.symm B.ne.2.2) (ga_ (gb_ B.ne.1 e3))⟩,zps:=⟨_,(by unfold putD;exact ge_ (ga_ (gb_ B.ne.2.1 e2)))⟩,nk:=B.nk,zk:=⟨putK_ints rfl B.zk.1,Nat.le_trans (pl_ _ _ _) (by omega)⟩,ne:=B.ne} ?_ ?_ ?_
 ·exact (((Keep.refl _ _).set (.inl (by simp))).trans (Keep.of_pre (Pre.app _ _))).set (.inl (by simp))
 ·refine gb_ (by omega) ?_;have:=gn_ (h:=s.h.set bd (.dict (ownD (last+1) N Z) k1)) (o:=O.dict [] 0)
  rwa [List.length_set] at this
 ·simp
theorem new_note_B(B:Base s b bd N Z last notes zaps)(hz:notes.length < 900){x:Array UInt8}{Q:V->S->Prop}(q:∀ h,Base ⟨h,[]⟩ b bd N Z (last+1) (putK (.int (last+1)) (.bytes x) notes) zaps->Keep [bd,N] s.h h->h.length=s.h.length->Q (.int (last+1)) {h:=h,l:=s.l}):
  W (pg w) (fun F=>F.call (.glob 153) [.ref b,.bytes x] (d+1)) Q E s:=by
 obtain ⟨n1,n2,n3⟩:=B.bne;refine new_note_W (fun _=>rfl) B fun k1 k2 e1 e2=>?_;obtain ⟨k3,e3⟩:=B.zps;refine q _ {inst:=gb_ n2 (gb_ n1 B.inst),own:=⟨k1,gb_ (Ne.symm B.ne.1) (ge_ e1)⟩,nts:=⟨_,(by unfold putD;exact ge_ (gb_ B.ne.1 e2))⟩,zps:=⟨k3,gb_ B.ne.2.2 (gb_ B.ne.2.1 e3)⟩,nk:=⟨putK_ints rfl B.nk.1,Nat.le_trans (pl_ _ _ _) (by omega)⟩,zk:=B.zk,ne:=B.ne} ?_ ?_
 ·exact ((Keep.refl _ _).set (.inl (by simp))).set (.inl (by simp))
 ·simp
theorem Base.loc{s:S}(B:Base s b bd N Z last notes zaps)(l:List (Str×V)):Base ⟨s.h,l⟩ b bd N Z last notes zaps:=B.pre (Pre.refl s.h)
theorem Base.on{s:S}(B:Base s b bd N Z last notes zaps){h:List O}(p:Pre s.h h)(l:List (Str×V)):Base ⟨h,l⟩ b bd N Z last notes zaps:=B.pre p
theorem new_dir_B(B:Base s b bd N Z last notes zaps)(hz:zaps.length < 800)(hz2:notes.length < 900){par:Int}(hp:0<=par/\par < 256 ^ 8)(hl:0<=last/\last < 100000){Q:V->S->Prop}
  (q:∀ h z1 z2,Base ⟨h,[]⟩ b bd N Z (last+1+1+1) (putK (.int (last+1+1+1)) (.bytes (rowB [par,0,last+1,last+1+1,0,0,0,0,0,0])) notes) (putK (.int (last+1+1)) (.ref z2) (putK (.int (last+1)) (.ref z1) zaps))->Keep [bd,N,Z] s.h h->h[z1]? =some (.dict [] 0)->s.h.length<=z1->Q (.int (last+1+1+1)) {h:=h,l:=s.l}):
  W (pg w) (fun F=>F.call (.glob 304) [.ref b,.int par,.int 0] (d+3)) Q E s:=by
 obtain ⟨k1,own⟩:=B.own;refine W.f (P:=pg w) rfl ?_;dsimp only;refine W.stC (W.sA (W.list rfl rfl (W.lo rfl (W.c_ rfl (W.cc_ rfl rfl rfl (W.lo rfl (W.m_ B.inst own mk_new_zap rfl rfl ⟨by rfl,?_⟩)))))));refine new_zap_B (B.loc _) (by omega) fun h1 B1 kp1 e1 l1=>?_;obtain ⟨k2,own2⟩:=B1.own;refine W.cc_ rfl rfl rfl (W.lo rfl (W.m_ B1.inst own2 mk_new_zap rfl rfl ⟨by rfl,?_⟩));have hlz:=pl_ (.int (last+1)) (.ref s.h.length) zaps;refine new_zap_B (B1.loc _) (by dsimp only;omega) fun h2 B2 kp2 e2 l2=>?_;refine W.lo rfl (W.c_ rfl (W.c_ rfl (W.c_ rfl (W.c_ rfl (W.c_ rfl (W.asN rfl ?_))))));have zne:∀ x:Nat,x < s.h.length->x≠s.h.length:=fun x h=>Nat.ne_of_lt h;have lb:=gl_ B.zps.choose_spec;have lbd:=gl_ own;have lN:=gl_ B.nts.choose_spec;generalize hX:O.list [V.int par,.int 0,.int (last+1),.int (last+1+1),.int 0,.int 0,.int 0,.int 0,.int 0,.int 0]=X;have B3:=B2.on (h:=h2++ [X]) (Pre.app _ _);obtain ⟨k3,own3⟩:=(B3 []).own;refine W.stC (W.s_ (W.cc_ rfl rfl rfl (W.lo rfl (W.m_ (B3 []).inst own3 mk_new_note rfl rfl (W.cG (by rfl) ((W.lo rfl ⟨by rfl,?_⟩)))))));refine row_octets_W (ns:= [par,0,last+1,last+1+1,0,0,0,0,0,0]) (by subst hX;exact gn_) ?_ (by simp) (by simp) fun h4 p4=>⟨by rfl,?_⟩
 ·intro x hx;simp only [List.mem_cons,List.not_mem_nil,or_false] at hx;omega
 refine new_note_B ((B3 []).on p4 _) hz2 fun h5 B5 kp5 l5=>?_;have kp1':Keep [bd,N,Z] s.h h1:=⟨kp1.1,fun i o e hi=>kp1.2 i o e (fun z=>hi (by simp only [List.mem_cons,List.not_mem_nil,or_false] at z ⊢;omega))⟩;have kp2':Keep [bd,N,Z] h1 h2:=⟨kp2.1,fun i o e hi=>kp2.2 i o e (fun z=>hi (by simp only [List.mem_cons,List.not_mem_nil,or_false] at z ⊢;omega))⟩;have kp5':Keep [bd,N,Z] h4 h5:=⟨kp5.1,fun i o e hi=>kp5.2 i o e (fun z=>hi (by simp only [List.mem_cons,List.not_mem_nil,or_false] at z ⊢;omega))⟩;have kall:Keep [bd,N,Z] h1 h5:=kp2'.trans ((Keep.of_pre ((Pre.app _ _).trans p4)).trans kp5');refine q h5 s.h.length h1.length B5 (kp1'.trans kall) (kall.2 _ _ e1 ?_) (Nat.le_refl _);simp only [List.mem_cons,List.not_mem_nil,or_false];omega
end
end
section
theorem ndAt_app(ns:List Nd)(m:Nd)(p:Int):ndAt (ns++ [m]) p=match ndAt ns p with
  | some n=>some n
  | none=>if m.place=p then some m else none:=by
 induction ns with
 | nil=>rw [List.nil_append,nc_];rfl
 | cons a r ih=>
  rw [List.cons_append,nc_,nc_,ih];by_cases h:a.place=p
  ·rw [if_pos h,if_pos h]
  ·rw [if_neg h,if_neg h]
theorem ndAt_none{ns:List Nd}{p:Int}(h:∀ n∈ns,n.place≠p):ndAt ns p=none:=by
 unfold ndAt;rw [List.find?_eq_none];intro n hn;simpa using h n hn
theorem ni_{α β:Type}{f:α->β}:∀ {l:List α},(l.map f).Nodup->∀ {a b:α},a∈l->b∈l->f a=f b->a=b
 | [],_,_,_,h,_,_=>by cases h
 | x::r,nd,a,b,ha,hb,e=>by
  rw [List.map_cons,List.nodup_cons] at nd;rcases List.mem_cons.mp ha with h1 | h1
  ·rcases List.mem_cons.mp hb with h2 | h2
   ·rw [h1,h2]
   ·rw [h1] at e;exact absurd (e▸List.mem_map_of_mem h2) nd.1
  ·rcases List.mem_cons.mp hb with h2 | h2
   ·rw [h2] at e;exact absurd (e▸List.mem_map_of_mem h1) nd.1
   ·exact ni_ nd.2 h1 h2 e
def ne_(last par:Int)(z:Nat):Nd:=⟨last+1+1+1,par,0,0,0,z,[]⟩
theorem newRow(last par:Int)(z:Nat):(ne_ last par z).row= [par,0,last+1,last+1+1,0,0,0,0,0,0]:=by
 unfold ne_ Nd.row;simp only [List.cons.injEq,and_true,true_and];omega
section
variable {s:S} {A:Adr} {last:Int} {ns:List Nd} {notes zaps:List (V×V)}
theorem Rep.newDir(R:Rep s A last ns notes zaps){par:Int}(hp:0<=par/\par < 256 ^ 8)(hl:last+3<=800){h:List O}{z1 z2:Nat}(B:Base ⟨h,[]⟩ A.b A.bd A.N A.Z (last+1+1+1) (putK (.int (last+1+1+1)) (.bytes (rowB [par,0,last+1,last+1+1,0,0,0,0,0,0])) notes) (putK (.int (last+1+1)) (.ref z2) (putK (.int (last+1)) (.ref z1) zaps)))
  (kp:Keep [A.bd,A.N,A.Z] s.h h) (e1:h[z1]? =some (.dict [] 0)) (hz1:s.h.length<=z1):
  ∃ notes' zaps',Rep ⟨h,[]⟩ A (last+1+1+1) (ns++ [ne_ last par z1]) notes' zaps':=by
 have nd:=R.addr;have hpl:=R.places;have hlow:=R.low;have nzr:∀ a∈ns,a.zr≠A.bd/\a.zr≠A.N/\a.zr≠A.Z:=fun a ha=>by
  simp only [List.nodup_cons,List.mem_cons,not_or] at nd;exact ⟨fun z=>nd.2.1.2.2.2 (List.mem_map.mpr ⟨a,ha,z⟩),fun z=>nd.2.2.1.2.2 (List.mem_map.mpr ⟨a,ha,z⟩),fun z=>nd.2.2.2.1.2 (List.mem_map.mpr ⟨a,ha,z⟩)⟩
 refine ⟨_,_,{base:=B,hnotes:=?_,nnd:=dk_nodup _ _ _ R.nnd,znames:=?_,zkids:=?_,zprops:=?_,znone:=?_,lens:=?_,root:=?_,kids:=?_,fit:=?_,kok:=?_,addr:=?_,places:=?_,pnd:=?_,low:=by omega}⟩
 ·intro p;rw [fp_,ndAt_app,R.hnotes];by_cases h:p=last+1+1+1
  ·subst h;rw [if_pos rfl,ndAt_none (fun n hn z=>by have:=hpl n hn;omega)];have e9:(ne_ last par z1).place=last+1+1+1:=rfl;dsimp only;rw [if_pos e9,Option.map_some,newRow]
  ·rw [if_neg (fun z=>h (V.int.inj z).symm)];cases hq:ndAt ns p with
   | some n=>rfl
   | none=>
    have h2:¬ (ne_ last par z1).place=p:=fun z=>h z.symm;dsimp only;rw [if_neg h2]
 ·rw [fp_,fp_,if_neg (fun z=>by have:=V.int.inj z;omega),if_neg (fun z=>by have:=V.int.inj z;omega)];exact R.znames
 ·intro n hn;rw [fp_,fp_];rcases List.mem_append.mp hn with hn | hn
  ·have:=hpl n hn;rw [if_neg (fun z=>by have:=V.int.inj z;omega),if_neg (fun z=>by have:=V.int.inj z;omega)];exact R.zkids n hn
  ·rw [List.mem_singleton.mp hn];have e:(ne_ last par z1).place - 2=last+1:=by show last+1+1+1 - 2=last+1;omega
   rw [e,if_neg (fun z=>by have:=V.int.inj z;omega),if_pos rfl];rfl
 ·intro n hn;rw [fp_,fp_];rcases List.mem_append.mp hn with hn | hn
  ·have:=hpl n hn;rw [if_neg (fun z=>by have:=V.int.inj z;omega),if_neg (fun z=>by have:=V.int.inj z;omega)];exact R.zprops n hn
  ·rw [List.mem_singleton.mp hn];have e:(ne_ last par z1).place - 1=last+1+1:=by show last+1+1+1 - 1=last+1+1;omega
   rw [e,if_pos rfl];rfl
 ·intro p h1 h2;rw [fp_,fp_,if_neg (fun z=>by have:=V.int.inj z;omega),if_neg (fun z=>by have:=V.int.inj z;omega)];exact R.znone p h1 h2
 ·have a1:=pl_ (.int (last+1+1+1)) (.bytes (rowB [par,0,last+1,last+1+1,0,0,0,0,0,0])) notes;have a2:=pl_ (.int (last+1+1)) (.ref z2) (putK (.int (last+1)) (.ref z1) zaps);have a3:=pl_ (.int (last+1)) (.ref z1) zaps;have a4:=R.lens;omega
 ·obtain ⟨k,e⟩:=R.root;refine ⟨k,kp.2 _ _ e ?_⟩;simp only [List.nodup_cons,List.mem_cons,not_or] at nd;simp only [List.mem_cons,List.not_mem_nil,or_false];omega
 ·intro n hn;rcases List.mem_append.mp hn with hn | hn
  ·obtain ⟨k,e⟩:=R.kids n hn;have:=nzr n hn;exact ⟨k,kp.2 _ _ e (by simp only [List.mem_cons,List.not_mem_nil,or_false];omega)⟩
  ·rw [List.mem_singleton.mp hn];exact ⟨0,e1⟩
 ·intro n hn;rcases List.mem_append.mp hn with hn | hn
  ·exact R.fit n hn
  ·rw [List.mem_singleton.mp hn];intro x hx;rw [newRow] at hx;simp only [List.mem_cons,List.not_mem_nil,or_false] at hx;omega
 ·intro n hn;rcases List.mem_append.mp hn with hn | hn
  ·exact R.kok n hn
  ·rw [List.mem_singleton.mp hn];exact ⟨(by decide:0 < 64),List.nodup_nil⟩
 ·have e:foot A (ns++ [ne_ last par z1])=foot A ns++ [z1]:=by unfold foot;simp [ne_]
  rw [e];refine List.nodup_append.mpr ⟨nd,by simp,?_⟩;intro a ha b hb z;simp only [List.mem_singleton] at hb;have:=R.len a ha;omega
 ·intro n hn;rcases List.mem_append.mp hn with hn | hn
  ·have:=hpl n hn;omega
  ·rw [List.mem_singleton.mp hn];show (last+1+1+1) % 3=1/\4<=last+1+1+1/\last+1+1+1<=last+1+1+1;omega
 ·rw [List.map_append];refine List.nodup_append.mpr ⟨R.pnd,by simp,?_⟩;intro a ha b hb z;obtain ⟨n,hn,rfl⟩:=List.mem_map.mp ha;simp only [List.map_cons,List.map_nil,List.mem_singleton] at hb;have h2:b=last+1+1+1:=hb;have:=hpl n hn;omega
theorem Rep.kidSet(R:Rep s A last ns notes zaps){n:Nd}(hn:n∈ns){ks:List (Str×Int)}(h1:ks.length < 64)(h2:(ks.map (·.1)).Nodup)(k:Nat)(l:List (Str×V)):
  Rep ⟨s.h.set n.zr (.dict (ks.map fun e=>(.str e.1,.int e.2)) k),l⟩ A last (u_ ns {n with kids:=ks}) notes zaps/\foot A (u_ ns {n with kids:=ks})=foot A ns:=by
 have fe:foot A (u_ ns {n with kids:=ks})=foot A ns:=by unfold foot;rw [upd_zr (m:={n with kids:=ks}) R.pnd hn rfl rfl]
 have nd:=R.addr;have nn:n.zr≠A.b/\n.zr≠A.bd/\n.zr≠A.N/\n.zr≠A.Z/\n.zr≠A.zn:=by
  simp only [List.nodup_cons,List.mem_cons,not_or] at nd;exact ⟨fun z=>nd.1.2.2.2.2 (List.mem_map.mpr ⟨n,hn,z⟩),fun z=>nd.2.1.2.2.2 (List.mem_map.mpr ⟨n,hn,z⟩),fun z=>nd.2.2.1.2.2 (List.mem_map.mpr ⟨n,hn,z⟩),fun z=>nd.2.2.2.1.2 (List.mem_map.mpr ⟨n,hn,z⟩),fun z=>nd.2.2.2.2.1 (List.mem_map.mpr ⟨n,hn,z⟩)⟩
 have ndz:(ns.map (·.zr)).Nodup:=by
  simp only [List.nodup_cons] at nd;exact nd.2.2.2.2.2
 have hother:∀ a∈ns,a.place≠n.place->n.zr≠a.zr:=fun a ha hne z=>by
  have e1:a=n:=ni_ ndz ha hn z.symm;exact hne (by rw [e1])
 obtain ⟨k0,e0⟩:=R.kids n hn;refine ⟨{base:={inst:=gb_ nn.1 R.base.inst,own:=(let ⟨k,e⟩:=R.base.own;⟨k,gb_ nn.2.1 e⟩),nts:=(let ⟨k,e⟩:=R.base.nts;⟨k,gb_ nn.2.2.1 e⟩),zps:=(let ⟨k,e⟩:=R.base.zps;⟨k,gb_ nn.2.2.2.1 e⟩),nk:=R.base.nk,zk:=R.base.zk,ne:=R.base.ne},hnotes:=?_,nnd:=R.nnd,znames:=R.znames,zkids:=?_,zprops:=?_,znone:=R.znone,lens:=R.lens,root:=(let ⟨k,e⟩:=R.root;⟨k,gb_ nn.2.2.2.2 e⟩),kids:=?_,fit:=?_,kok:=?_,addr:=(by rw [fe];exact R.addr),places:=?_,pnd:=(by rw [up_];exact R.pnd),low:=R.low},fe⟩
 ·intro p;rw [nu_,R.hnotes];by_cases h:p=n.place
  ·subst h;rw [if_pos rfl,no_ R.pnd hn];rfl
  ·have h':¬ p=({n with kids:=ks}:Nd).place:=h;rw [if_neg h']
 ·intro a ha;rcases um_ ha with rfl | ⟨ha,_⟩
  ·exact R.zkids n hn
  ·exact R.zkids a ha
 ·intro a ha;rcases um_ ha with rfl | ⟨ha,_⟩
  ·exact R.zprops n hn
  ·exact R.zprops a ha
 ·intro a ha;rcases um_ ha with rfl | ⟨ha,hne⟩
  ·exact ⟨k,ge_ e0⟩
  ·obtain ⟨k,e⟩:=R.kids a ha;exact ⟨k,gb_ (hother a ha hne) e⟩
 ·intro a ha;rcases um_ ha with rfl | ⟨ha,_⟩
  ·exact R.fit n hn
  ·exact R.fit a ha
 ·intro a ha;rcases um_ ha with rfl | ⟨ha,_⟩
  ·exact ⟨h1,h2⟩
  ·exact R.kok a ha
 ·intro a ha;rcases um_ ha with rfl | ⟨ha,_⟩
  ·exact R.places n hn
  ·exact R.places a ha
end
end
section
def db_(x:Str):List (Str×Int)->List (Str×Int)
 | []=> []
 | (y,c)::r=>if y=x then r else (y,c)::db_ x r
theorem drop_kids(x:Str):∀ l:List (Str×Int),da_ (.str x) (l.map fun e=>(V.str e.1,V.int e.2))=(db_ x l).map fun e=>(V.str e.1,V.int e.2)
 | []=>rfl
 | (y,c)::r=>by
  rw [List.map_cons];unfold da_ db_;by_cases h:y=x
  ·subst h;rw [if_pos rfl,if_pos rfl]
  ·rw [if_neg (fun e=>h (V.str.inj e)),if_neg h,drop_kids x r];rfl
theorem dropL_sub(x:Str):∀ l:List (Str×Int),(db_ x l).Sublist l
 | []=>List.Sublist.refl _
 | (y,c)::r=>by
  unfold db_;split
  ·exact List.sublist_cons_self _ _
  ·exact (dropL_sub x r).cons_cons _
theorem lookup_none{x:Str}:∀ {l:List (Str×Int)},l.lookup x=none->x∉l.map (·.1)
 | [],_=>by simp
 | (y,u)::r,h=>by
  rw [List.lookup_cons] at h;split at h
  ·cases h
  ·rename_i e;simp only [List.map_cons,List.mem_cons,not_or];exact ⟨by simpa using e,lookup_none h⟩
def addNs(ns:List Nd)(last:Int)(n:Nd)(x:Str)(z:Nat):List Nd:=u_ (ns++ [ne_ last n.place z]) {n with kids:=n.kids++ [(x,last+1+1+1)]}
variable {w:World}
section
variable {s:S} {A:Adr} {last:Int} {ns:List Nd} {notes zaps:List (V×V)} {d:Nat} {E:Addr->S->Prop}
theorem Rep.putW(R:Rep s A last ns notes zaps){n:Nd}(hn:n∈ns){x:Str}{c:Int}(hx:n.kids.lookup x=none)(hl:n.kids.length < 63)(hc:0<=c/\c < 2 ^ 64){Q:V->S->Prop}
  (q:∀ h,Rep ⟨h,[]⟩ A last (u_ ns {n with kids:=n.kids++ [(x,c)]}) notes zaps->foot A (u_ ns {n with kids:=n.kids++ [(x,c)]})=foot A ns->Keep (foot A ns) s.h h->Q .none {h:=h,l:=s.l}):
  W (pg w) (fun F=>F.call (.glob 209) [.ref A.b,.int (n.place - 2),.str x,.int c] (d+2)) Q E s:=by
 obtain ⟨k,hk⟩:=R.kids n hn;refine put_W (fun _=>rfl) (fun _=>rfl) R.base (R.zkids n hn) hk (likeStr x n) (by rw [List.length_map];omega) hc ?_;have e1:f_ (.str x) (ke_ n)=none:=by unfold ke_;rw [find_kids,hx];rfl
 have e2:putD (.str x) (.int c) (ke_ n) k= .dict ((n.kids++ [(x,c)]).map fun e=>(.str e.1,.int e.2)) (k+1):=by
  unfold putD;rw [putK_new _ _ _ e1,e1,List.map_append];rfl
 rw [e2];obtain ⟨R2,fe⟩:=R.kidSet hn (ks:=n.kids++ [(x,c)]) (by rw [List.length_append];simp;omega) (by
  rw [List.map_append];refine List.nodup_append.mpr ⟨(R.kok n hn).2,by simp,?_⟩;intro a ha b hb z;simp only [List.map_cons,List.map_nil,List.mem_singleton] at hb;exact lookup_none hx (hb▸z▸ha)) (k+1) []
 exact q _ R2 fe ((Keep.refl _ _).set (.inl (by simp only [List.mem_cons,List.mem_map];exact .inr (.inr (.inr (.inr (.inr ⟨n,hn,rfl⟩)))))))
theorem Rep.takeW(R:Rep s A last ns notes zaps){n:Nd}(hn:n∈ns){x:Str}{c:Int}(hx:n.kids.lookup x=some c){Q:V->S->Prop}
  (q:∀ h,Rep ⟨h,[]⟩ A last (u_ ns {n with kids:=db_ x n.kids}) notes zaps->foot A (u_ ns {n with kids:=db_ x n.kids})=foot A ns->Keep (foot A ns) s.h h->Q (.int c) {h:=h,l:=s.l}):
  W (pg w) (fun F=>F.call (.glob 216) [.ref A.b,.int (n.place - 2),.str x] (d+2)) Q E s:=by
 obtain ⟨k,hk⟩:=R.kids n hn;have hlen:=(R.kok n hn).1;refine take_W (fun _=>rfl) (fun _=>rfl) R.base (R.zkids n hn) hk (likeStr x n) (by rw [List.length_map];omega) (v:= .int c) (by unfold ke_;rw [find_kids,hx];rfl) ?_;unfold ke_;rw [drop_kids];have hsub:=dropL_sub x n.kids;obtain ⟨R2,fe⟩:=R.kidSet hn (ks:=db_ x n.kids) (Nat.lt_of_le_of_lt hsub.length_le hlen) ((hsub.map _).nodup (R.kok n hn).2) (k+1) [];exact q _ R2 fe ((Keep.refl _ _).set (.inl (by simp only [List.mem_cons,List.mem_map];exact .inr (.inr (.inr (.inr (.inr ⟨n,hn,rfl⟩)))))))
theorem add_dir_W(R:Rep s A last ns notes zaps){n:Nd}(hp:ndAt ns n.place=some n){x:Str}(hz:x.cps.size<=1000)(hl:last+3<=800)(hk:n.kids.length < 63){Q:V->S->Prop}
  (q:∀ h z notes' zaps',Rep ⟨h,[]⟩ A (last+1+1+1) (addNs ns last n x z) notes' zaps'->Keep (foot A ns) s.h h->foot A (addNs ns last n x z)=foot A ns++ [z]->s.h.length<=z->o_ x=true->n.kids.lookup x=none->Q (.int (last+1+1+1)) {h:=h,l:=s.l})
  (e1:∀ h,Pre s.h h->o_ x=false->E 99 {h:=h,l:=s.l}) (e2:∀ h c,Pre s.h h->o_ x=true->n.kids.lookup x=some c->E 63 {h:=h,l:=s.l}):
  W (pg w) (fun F=>F.call (.glob 347) [.ref A.b,.int n.place,.str x] (d+6)) Q E s:=by
 obtain ⟨hn,_⟩:=nm_ hp;have hpl:=R.places n hn;have hlow:=R.low;refine W.f (P:=pg w) (vs:= [.ref A.b,.int n.place,.str x,.int 0]) rfl ?_;dsimp only;refine W.stC (W.sc_ rfl (W.cG (by rfl) ((W.lo rfl (W.lo rfl (W.lo rfl ⟨rfl,want_free_W (R.loc _) hp hz (fun h1 p1 ok1 no1=>?_) (fun h p ok=>e1 h p ok) (fun h c p ok hc=>e2 h c p ok hc)⟩))))));have R1:=R.on p1;refine W.stC (W.sA (W.cG (by rfl) ((W.lo rfl (W.lo rfl (W.lo rfl ⟨rfl,?_⟩))))));have hlens:=R.lens;refine new_dir_B (R1 _).base (by omega) (by omega) (by omega) (by omega) fun h2 z1 z2 B2 kp2 e3 hz1=>W.asN rfl ?_;obtain ⟨notes2,zaps2,R2⟩:=(R1 []).newDir (par:=n.place) (by omega) hl B2 kp2 e3 hz1;have hn2:n∈ns++ [ne_ last n.place z1]:=List.mem_append_left _ hn;have hp2:ndAt (ns++ [ne_ last n.place z1]) n.place=some n:=by rw [ndAt_app,hp]
 obtain ⟨k2,own2⟩:=R2.base.own;refine W.stC (W.sc_ rfl (W.cc_ rfl rfl rfl (W.lo rfl (W.m_ R2.base.inst own2 mk_put rfl rfl (W.a_ rfl (W.cG (by rfl) ((W.lo rfl (W.lo rfl ⟨rfl,?_⟩)))))))));refine (R2.on (Pre.refl _) _).load hp2 fun h3 i di p3 _ _ Inf=>?_;obtain ⟨k3,own3⟩:=Inf.own;refine W.g_ Inf.inst own3 (gd _ (by simp)) rfl rfl (W.lo rfl (W.lo rfl ⟨by rfl,?_⟩));refine (R2.on p3 _).putW hn2 no1 hk (by omega) fun h4 R4 fe4 kp4=>?_;have fe2:foot A (ns++ [ne_ last n.place z1])=foot A ns++ [z1]:=by unfold foot;simp [ne_]
 refine W.stC (W.s_ (W.lo rfl (q h4 z1 notes2 zaps2 R4 ?_ (fe4.trans fe2) ?_ ok1 no1)))
 ·have k1:Keep (foot A ns) s.h h3:=(Keep.of_pre p1).trans (Keep.trans ⟨kp2.1,fun i o e hi=>kp2.2 i o e (fun z=>hi (by simp only [List.mem_cons,List.not_mem_nil,or_false] at z ⊢;omega))⟩ (Keep.of_pre p3));refine k1.trans' kp4 fun i hi=>?_;rw [fe2] at hi;rcases List.mem_append.mp hi with hi | hi
  ·exact .inl hi
  ·rw [List.mem_singleton.mp hi];exact .inr (Nat.le_trans p1.len hz1)
 ·exact Nat.le_trans p1.len hz1
end
end
section
theorem Info.keep{F:List Nat}{h h':List O}{i di:Nat}{n:Nd}(I:Info h i di n)(k:Keep F h h')(h1:i∉F)(h2:di∉F):Info h' i di n:=
 ⟨k.2 _ _ I.inst h1,let ⟨k2,e⟩:=I.own;⟨k2,k.2 _ _ e h2⟩,I.ne⟩
abbrev mv1(ns:List Nd)(o:Nd)(x0:Str):List Nd:=u_ ns {o with kids:=db_ x0 o.kids}
abbrev mv2(ns:List Nd)(n:Nd)(x:Str)(o:Nd)(x0:Str)(t1:Nd):List Nd:=u_ (mv1 ns o x0) {t1 with kids:=t1.kids++ [(x,n.place)]}
abbrev mv3(ns:List Nd)(n:Nd)(x:Str)(o:Nd)(x0:Str)(t1:Nd)(k1:Nat):List Nd:=ca_ k1 (mv2 ns n x o x0 t1) n.par 0 (0 - n.share)
abbrev mv4(ns:List Nd)(n:Nd)(np:Int)(x:Str)(o:Nd)(x0:Str)(t1:Nd)(k1:Nat):List Nd:=u_ (mv3 ns n x o x0 t1 k1) {n with par:=np}
abbrev mv5(ns:List Nd)(n:Nd)(np:Int)(x:Str)(o:Nd)(x0:Str)(t1:Nd)(k1 k2:Nat):List Nd:=ca_ k2 (mv4 ns n np x o x0 t1 k1) np 0 n.share
structure MoveOk(ns:List Nd)(n:Nd)(np:Int)(x:Str)(o:Nd)(x0:Str)(t1:Nd)(k1 k2:Nat):Prop where
 ho:ndAt ns n.par=some o
 hx0:((ka_ o).find? fun y=>decide (o.kids.lookup y=some n.place))=some x0
 ht1:ndAt (mv1 ns o x0) np=some t1
 free:t1.kids.lookup x=none
 len:t1.kids.length < 63
 cu1:CuOk k1 (mv2 ns n x o x0 t1) n.par 0 (0 - n.share)
 hn3:ndAt (mv3 ns n x o x0 t1 k1) n.place=some n
 fit:({n with par:=np}:Nd).Fit
 cu2:CuOk k2 (mv4 ns n np x o x0 t1 k1) np 0 n.share
variable {w:World}
section
variable {s:S} {A:Adr} {last:Int} {ns:List Nd} {notes zaps:List (V×V)} {d:Nat} {E:Addr->S->Prop}
theorem Rep.storeW2(R:Rep s A last ns notes zaps){n m:Nd}(hn:n∈ns)(hp:m.place=n.place)(hz:m.zr=n.zr)(hk:m.kids=n.kids)(hf:m.Fit){i di:Nat}(I:Info s.h i di m)(li:i∉foot A ns)(ldi:di∉foot A ns){Q:V->S->Prop}
  (q:∀ h notes',Rep ⟨h,[]⟩ A last (u_ ns m) notes' zaps->foot A (u_ ns m)=foot A ns->Keep (foot A ns) s.h h->Info h i di m->Q .none {h:=h,l:=s.l}):
  W (pg w) (fun F=>F.call (.glob 292) [.ref A.b,.int m.place,.ref i] (d+3)) Q E s:=by
 have hx:=R.hnotes m.place;rw [hp,no_ R.pnd hn] at hx;refine store_dir_W R.base (p:=m.place) (by rw [hp];exact hx) I hf fun h k hpre hN=>?_;obtain ⟨notes',R2,fe⟩:=R.store hn hp hz hk hf hpre hN [];have I2:=I.pre hpre;have k2:Keep (foot A ns) s.h (h.set A.N (putD (.int m.place) (.bytes (rowB m.row)) notes k)):=(Keep.of_pre hpre).set (.inl (by simp));exact q _ notes' R2 fe k2 (I.keep k2 li ldi)
theorem move_dir_W(R:Rep s A last ns notes zaps){n t:Nd}(hp:ndAt ns n.place=some n){np:Int}(ht:ndAt ns np=some t){x:Str}(hz:x.cps.size<=1000){k:Nat}(hu:ci_ ns k np){k1 k2:Nat}
  (ok:n.par≠0->isIn ns k np n.place=false->o_ x=true->t.kids.lookup x=none->∃ o x0 t1,MoveOk ns n np x o x0 t1 k1 k2) {Q:V->S->Prop}
  (q:n.par≠0->isIn ns k np n.place=false->o_ x=true->t.kids.lookup x=none->∀ o x0 t1,MoveOk ns n np x o x0 t1 k1 k2->∀ h notes',Rep ⟨h,[]⟩ A last (mv5 ns n np x o x0 t1 k1 k2) notes' zaps->Keep (foot A ns) s.h h->foot A (mv5 ns n np x o x0 t1 k1 k2)=foot A ns->Q .none {h:=h,l:=s.l})
  (e0:∀ h,Pre s.h h->(n.par=0\/isIn ns k np n.place=true)->E 111 {h:=h,l:=s.l})
  (e1:∀ h,Pre s.h h->n.par≠0->isIn ns k np n.place=false->o_ x=false->E 99 {h:=h,l:=s.l}) (e2:∀ h c,Pre s.h h->n.par≠0->isIn ns k np n.place=false->o_ x=true->t.kids.lookup x=some c->E 63 {h:=h,l:=s.l}):
  W (pg w) (fun F=>F.call (.glob 403) [.ref A.b,.int n.place,.int np,.str x] (d+6)) Q E s:=by
 obtain ⟨hn,_⟩:=nm_ hp;have hpl:=R.places n hn;have hlow:=R.low;refine W.f (P:=pg w) rfl ?_;dsimp only;refine W.stC (W.sA (W.cG (by rfl) ((W.lo rfl (W.lo rfl ⟨rfl,?_⟩)))));refine (R.loc _).load hp fun h1 i di p1 li ldi Inf=>W.asN rfl ?_;have li:s.h.length<=i:=li;have ldi:s.h.length<=di:=ldi;have hli:i∉foot A ns:=fun hi=>by have:=R.len _ hi;omega
 have hldi:di∉foot A ns:=fun hi=>by have:=R.len _ hi;omega
 obtain ⟨kd,own1⟩:=Inf.own;refine W.stC (W.sIf (W.trOr (W.anyC (W.t_ rfl (W.a_ rfl (W.lo rfl (W.g_ Inf.inst own1 (gd _ (by simp)) rfl rfl (W.c_ rfl (W.p_ (a:=decide (n.par=0)) (fun _=>rfl) ?_)))))))));by_cases hz0:n.par=0
 ·rw [decide_eq_true hz0];exact W.stC (W.sRaise (C:=111) (by rfl) rfl (by rfl) (W.c_ rfl (e0 _ p1 (.inl hz0))))
 rw [decide_eq_false hz0];refine W.anyC (W.ta_ rfl (W.cG (by rfl) ((W.lo rfl (W.lo rfl (W.lo rfl ⟨rfl,?_⟩))))));refine is_within_W (R.on p1 _) hu fun h2 p2=>W.p_ (fun _=>rfl) ?_;have p12:=p1.trans p2;cases hin:isIn ns k np n.place with
 | true=>exact W.stC (W.sRaise (C:=111) (by rfl) rfl (by rfl) (W.c_ rfl (e0 _ p12 (.inr hin))))
 | false=>
  refine W.any0 (W.stN ?_);refine W.stC (W.sc_ rfl (W.cG (by rfl) ((W.lo rfl (W.lo rfl (W.lo rfl ⟨rfl,want_free_W (R.on p12 _) ht hz (fun h3 p3 ok1 no1=>?_) (fun h p ok=>e1 h (p12.trans p) hz0 hin ok) (fun h c p ok hc=>e2 h c (p12.trans p) hz0 hin ok hc)⟩))))));obtain ⟨o,x0,t1,M⟩:=ok hz0 hin ok1 no1;have p123:=p12.trans p3;have R3:=R.on p123;have I3:=Inf.pre (p2.trans p3);obtain ⟨kb3,ownb3⟩:=(R3 []).base.own;obtain ⟨kd3,own3⟩:=I3.own;refine W.stC (W.sc_ rfl (W.cc_ rfl rfl rfl (W.lo rfl (W.m_ (R3 []).base.inst ownb3 mk_take rfl rfl (W.a_ rfl (W.cG (by rfl) ((W.lo rfl (W.a_ rfl (W.lo rfl (W.g_ I3.inst own3 (gd _ (by simp)) rfl rfl ⟨rfl,?_⟩)))))))))));refine (R3 _).load M.ho fun h4 i4 di4 p4 _ _ Inf4=>?_;obtain ⟨kd4,own4⟩:=Inf4.own;have I4:=I3.pre p4;obtain ⟨kd4',own4'⟩:=I4.own;refine W.g_ Inf4.inst own4 (gd _ (by simp)) rfl rfl (W.cG (by rfl) ((W.lo rfl (W.a_ rfl (W.lo rfl (W.g_ I4.inst own4' (gd _ (by simp)) rfl rfl (W.lo rfl ⟨rfl,?_⟩)))))));have hnameIn:nd_ o n.place=x0:=by unfold nd_;rw [M.hx0];rfl
  refine name_in_W (R.on (p123.trans p4) _) M.ho M.hx0 fun h5 p5=>⟨by rfl,?_⟩;rw [hnameIn];obtain ⟨ho,hop⟩:=nm_ M.ho;have hlook:o.kids.lookup x0=some n.place:=by simpa using List.find?_some M.hx0
  have p15:=(p123.trans p4).trans p5;refine (R.on p15 _).takeW ho hlook fun h6 R6 fe6 kp6=>?_;have k6:Keep (foot A ns) s.h h6:=(Keep.of_pre p15).trans kp6;have I6:=(I4.pre p5).keep kp6 hli hldi;obtain ⟨kb6,ownb6⟩:=R6.base.own;refine W.stC (W.sc_ rfl (W.cc_ rfl rfl rfl (W.lo rfl (W.m_ R6.base.inst ownb6 mk_put rfl rfl (W.a_ rfl (W.cG (by rfl) ((W.lo rfl (W.lo rfl ⟨rfl,?_⟩)))))))));refine (R6.on (Pre.refl _) _).load M.ht1 fun h7 i7 di7 p7 _ _ Inf7=>?_;obtain ⟨kd7,own7⟩:=Inf7.own;refine W.g_ Inf7.inst own7 (gd _ (by simp)) rfl rfl (W.lo rfl (W.lo rfl ⟨by rfl,?_⟩));obtain ⟨ht1,_⟩:=nm_ M.ht1;refine (R6.on p7 _).putW ht1 M.free M.len (by omega) fun h8 R8 fe8 kp8=>?_;have k8:Keep (foot A ns) s.h h8:=k6.trans ((Keep.of_pre p7).trans (Keep.trans' (Keep.refl _ _) kp8 fun i hi=> .inl (fe6▸hi)));have I8:=(I6.pre p7).keep kp8 (by rw [fe6];exact hli) (by rw [fe6];exact hldi);obtain ⟨kd8,own8⟩:=I8.own;refine W.stC (W.sc_ rfl (W.cG (by rfl) ((W.lo rfl (W.a_ rfl (W.lo rfl (W.g_ I8.inst own8 (gd _ (by simp)) rfl rfl (W.c_ rfl (W.b_ (W.c_ rfl (W.cG (by rfl) ((W.lo rfl ⟨rfl,so_ I8 (W.p_ (fun _=>rfl) ⟨rfl,?_⟩)⟩)))))))))))));refine cu_ (R8.on (Pre.refl _) _) M.cu1 fun h9 notes9 R9 fe9 kp9=>?_;have fe19:foot A (mv3 ns n x o x0 t1 k1)=foot A ns:=fe9.trans (fe8.trans fe6);have k9:Keep (foot A ns) s.h h9:=k8.trans' kp9 fun i hi=> .inl ((fe8.trans fe6)▸hi);have I9:=I8.keep kp9 (by rw [fe8.trans fe6];exact hli) (by rw [fe8.trans fe6];exact hldi);obtain ⟨kd9,own9⟩:=I9.own;refine W.stC (W.sA (W.lo rfl (W.asA (W.lo rfl (W.sh_ I9.inst own9 (sd _ (by simp)) rfl ?_)))));rw [putPar];have l9:s.h.length<=h9.length:=k9.1;have hdi9:di < h9.length:=gl_ own9;have R9':Rep ⟨h9.set di (.dict (ia_ {n with par:=np}) kd9),[]⟩ A last (mv3 ns n x o x0 t1 k1) notes9 zaps:=by
   have hnot:di∉foot A (mv3 ns n x o x0 t1 k1):=by rw [fe19];exact hldi
   have g:∀ a∈foot A (mv3 ns n x o x0 t1 k1),∀ ob,h9[a]? =some ob->(h9.set di (.dict (ia_ {n with par:=np}) kd9))[a]? =some ob:=fun a ha ob e=>gb_ (fun z=>hnot (z▸ha)) e;exact {R9 with
    base:={R9.base with
     inst:=g _ (by simp) _ R9.base.inst
     own:=(let ⟨k,e⟩:=R9.base.own;⟨k,g _ (by simp) _ e⟩)
     nts:=(let ⟨k,e⟩:=R9.base.nts;⟨k,g _ (by simp) _ e⟩)
     zps:=(let ⟨k,e⟩:=R9.base.zps;⟨k,g _ (by simp) _ e⟩)}
    root:=(let ⟨k,e⟩:=R9.root;⟨k,g _ (by simp) _ e⟩)
    kids:=fun a ha=>let ⟨k,e⟩:=R9.kids a ha;⟨k,g _ (by simp only [List.mem_cons,List.mem_map];exact .inr (.inr (.inr (.inr (.inr ⟨a,ha,rfl⟩))))) _ e⟩}
  have I9':Info (h9.set di (.dict (ia_ {n with par:=np}) kd9)) i di {n with par:=np}:=⟨gb_ (Ne.symm I9.ne) I9.inst,⟨kd9,ge_ own9⟩,I9.ne⟩;have k9':Keep (foot A ns) s.h (h9.set di (.dict (ia_ {n with par:=np}) kd9)):=k9.set (.inr ldi);refine W.heap (h':=h9.set di (.dict (ia_ {n with par:=np}) kd9)) rfl ?_;generalize (h9.set di (.dict (ia_ {n with par:=np}) kd9))=h10 at R9' I9' k9' ⊢;refine W.stC (W.sc_ rfl (W.cG (by rfl) ((W.lo rfl (W.lo rfl (W.lo rfl ⟨rfl,?_⟩))))));obtain ⟨hn3,_⟩:=nm_ M.hn3;refine (R9'.on (Pre.refl _) _).storeW2 (m:={n with par:=np}) hn3 rfl rfl rfl M.fit I9' (by rw [fe19];exact hli) (by rw [fe19];exact hldi) fun h11 notes11 R11 fe11 kp11 I11=>?_;have k11:Keep (foot A ns) s.h h11:=k9'.trans' kp11 fun i hi=> .inl (fe19▸hi);refine W.stC (W.sc_ rfl (W.cG (by rfl) ((W.lo rfl (W.lo rfl (W.c_ rfl (W.cG (by rfl) ((W.lo rfl ⟨rfl,so_ I11 ⟨rfl,?_⟩⟩)))))))));refine cu_ (R11.on (Pre.refl _) _) M.cu2 fun h12 notes12 R12 fe12 kp12=>?_;refine W.stN (q hz0 hin ok1 no1 o x0 t1 M h12 notes12 R12 (k11.trans' kp12 fun i hi=> .inl ((fe11.trans fe19)▸hi)) (fe12.trans (fe11.trans fe19)))
end
end
section
section
variable {P:Prg} {E:Addr->S->Prop} {s:S} {ρ:Ev}
theorem W.nextT{it l i:Nat}{vs:List V}{Q:Option V->S->Prop}(hi:s.h[it]? =some (.itT l i))(hl:s.h[l]? =some (.tup vs))(h1:∀ v,vs[i]? =some v->Q (some v) {s with h:=s.h.set it (.itT l (i+1))})(h2:vs.length<=i->Q none {s with h:=s.h.set it .dead}):W P (fun _=>nextM it) Q E s:=by
 refine W.gc_ hi (W.gc_ hl ?_);cases e:vs[i]? with
 | some v=>exact W.eq (W.stepSome (gl_ hi) (h1 v e)) fun _=>by dsimp only;rw [e]
 | none=>exact W.eq (W.stepNone (gl_ hi) (h2 (List.getElem?_eq_none_iff.mp e))) fun _=>by dsimp only;rw [e]
theorem W.iterT{n:Nat}{vs:List V}{Q:Nat->S->Prop}(hn:s.h[n]? =some (.tup vs))(q:Q s.h.length {s with h:=s.h++ [.itT n 0]}):W P (fun _=>id_ (.ref n)) Q E s:=W.gc_ hn (W.alloc q)
end
def rmNd(ns:List Nd)(p:Int):List Nd:=ns.filter fun n=>decide (n.place≠p)
theorem ndAt_rm(ns:List Nd)(p j:Int):ndAt (rmNd ns p) j=if j=p then none else ndAt ns j:=by
 induction ns with
 | nil=>unfold rmNd ndAt;simp
 | cons n r ih=>
  have e:rmNd (n::r) p=if n.place≠p then n::rmNd r p else rmNd r p:=by
   unfold rmNd;rw [List.filter_cons];simp
  rw [e];by_cases h:n.place=p
  ·rw [if_neg (fun z=>z h),ih,nc_];by_cases h2:j=p
   ·rw [if_pos h2,if_pos h2]
   ·rw [if_neg h2,if_neg h2,if_neg (fun z:n.place=j=>h2 (z.symm.trans h))]
  ·rw [if_pos h,nc_,nc_,ih];by_cases h2:j=p
   ·subst h2;rw [if_neg h,if_pos rfl,if_pos rfl]
   ·rw [if_neg h2,if_neg h2]
variable {w:World}
section
variable {s:S} {b bd N Z:Nat} {last:Int} {notes zaps:List (V×V)} {d:Nat} {E:Addr->S->Prop}
theorem drop_zap_B(B:Base s b bd N Z last notes zaps){p:Int}{v:V}(h1:f_ (.int p) notes=none)(h2:f_ (.int p) zaps=some v){Q:V->S->Prop}(q:∀ h,Base ⟨h,[]⟩ b bd N Z last notes (da_ (.int p) zaps)->Keep [N,Z] s.h h->Q .none {h:=h,l:=s.l}):
  W (pg w) (fun F=>F.call (.glob 181) [.ref b,.int p] (d+1)) Q E s:=by
 obtain ⟨n1,n2,n3⟩:=B.bne;refine drop_zap_W (fun _=>rfl) B h1 h2 fun k hk=>?_;obtain ⟨k1,e1⟩:=B.own;obtain ⟨k2,e2⟩:=B.nts;have hne:=B.ne;have hl:=dl_ (.int p) zaps;have hzk:=B.zk;exact q _ {inst:=gb_ n3 B.inst,own:=⟨k1,gb_ (Ne.symm hne.2.1) e1⟩,nts:=⟨k2,gb_ (Ne.symm hne.2.2) e2⟩,zps:=⟨_,ge_ hk⟩,nk:=B.nk,zk:=⟨dropK_ints hzk.1,by omega⟩,ne:=hne} ((Keep.refl _ _).set (.inl (by simp)))
theorem drop_note_B(B:Base s b bd N Z last notes zaps){p:Int}{v:V}(h1:f_ (.int p) notes=some v){Q:V->S->Prop}(q:∀ h,Base ⟨h,[]⟩ b bd N Z last (da_ (.int p) notes) zaps->Keep [N,Z] s.h h->Q .none {h:=h,l:=s.l}):
  W (pg w) (fun F=>F.call (.glob 181) [.ref b,.int p] (d+1)) Q E s:=by
 obtain ⟨n1,n2,n3⟩:=B.bne;refine drop_note_W (fun _=>rfl) B h1 fun k hk=>?_;obtain ⟨k1,e1⟩:=B.own;obtain ⟨k2,e2⟩:=B.zps;have hne:=B.ne;have hl:=dl_ (.int p) notes;have hnk:=B.nk;exact q _ {inst:=gb_ n2 B.inst,own:=⟨k1,gb_ (Ne.symm hne.1) e1⟩,nts:=⟨_,ge_ hk⟩,zps:=⟨k2,gb_ hne.2.2 e2⟩,nk:=⟨dropK_ints hnk.1,by omega⟩,zk:=B.zk,ne:=hne} ((Keep.refl _ _).set (.inl (by simp)))
end
section
variable {s:S} {A:Adr} {last:Int} {ns:List Nd} {notes zaps:List (V×V)} {d:Nat} {E:Addr->S->Prop}
theorem Rep.dropped(R:Rep s A last ns notes zaps){p:Int}(hp:p % 3=1){h:List O}(B:Base ⟨h,[]⟩ A.b A.bd A.N A.Z last (da_ (.int p) notes) (da_ (.int (p - 1)) (da_ (.int (p - 2)) zaps)))(hp4:4<=p)(kp:Keep [A.N,A.Z] s.h h):
  ∃ notes' zaps',Rep ⟨h,[]⟩ A last (rmNd ns p) notes' zaps'/\(∀ i∈foot A (rmNd ns p),i∈foot A ns):=by
 have nd:=R.addr;have hsub:(rmNd ns p).Sublist ns:=List.filter_sublist;have fsub:(foot A (rmNd ns p)).Sublist (foot A ns):=by
  unfold foot;exact ((((((hsub.map _).cons_cons _).cons_cons _).cons_cons _).cons_cons _).cons_cons _)
 have l1:=dl_ (.int p) notes;have l2:=dl_ (.int (p - 1)) (da_ (.int (p - 2)) zaps);have l3:=dl_ (.int (p - 2)) zaps;have hlens:=R.lens;have hne:∀ a∈rmNd ns p,a∈ns/\a.place≠p:=fun a ha=>⟨hsub.subset ha,by simpa using (List.mem_filter.mp ha).2⟩;refine ⟨_,_,{base:=B,hnotes:=?_,nnd:=((dk_sub _ _).map _).nodup R.nnd,znames:=?_,zkids:=?_,zprops:=?_,znone:=?_,lens:=by omega,root:=?_,kids:=?_,fit:=fun a ha=>R.fit a (hsub.subset ha),kok:=fun a ha=>R.kok a (hsub.subset ha),addr:=fsub.nodup nd,places:=fun a ha=>R.places a (hsub.subset ha),pnd:=(hsub.map _).nodup R.pnd,low:=R.low},fun i hi=>fsub.subset hi⟩
 ·intro j;rw [ndAt_rm];by_cases h:j=p
  ·subst h;rw [if_pos rfl,findK_drop_eq _ _ R.nnd];rfl
  ·rw [if_neg h,fd_ _ _ _ (fun z=>h (V.int.inj z).symm),R.hnotes]
 ·rw [fd_ _ _ _ (fun z=>by have:=V.int.inj z;omega),fd_ _ _ _ (fun z=>by have:=V.int.inj z;omega)];exact R.znames
 ·intro a ha;obtain ⟨ha,h1⟩:=hne a ha;have h2:=R.places a ha;rw [fd_ _ _ _ (fun z=>by have:=V.int.inj z;omega),fd_ _ _ _ (fun z=>by have:=V.int.inj z;omega)];exact R.zkids a ha
 ·intro a ha;obtain ⟨ha,h1⟩:=hne a ha;have h2:=R.places a ha;rw [fd_ _ _ _ (fun z=>by have:=V.int.inj z;omega),fd_ _ _ _ (fun z=>by have:=V.int.inj z;omega)];exact R.zprops a ha
 ·intro j h1 h2;rw [fd_ _ _ _ (fun z=>by have:=V.int.inj z;omega),fd_ _ _ _ (fun z=>by have:=V.int.inj z;omega)];exact R.znone j h1 h2
 ·obtain ⟨k,e⟩:=R.root;refine ⟨k,kp.2 _ _ e ?_⟩;simp only [List.nodup_cons,List.mem_cons,not_or] at nd;simp only [List.mem_cons,List.not_mem_nil,or_false];omega
 ·intro a ha;obtain ⟨k,e⟩:=R.kids a (hsub.subset ha);refine ⟨k,kp.2 _ _ e ?_⟩;simp only [List.nodup_cons,List.mem_cons,not_or] at nd;have hm:a.zr∈ns.map (·.zr):=List.mem_map_of_mem (hsub.subset ha);simp only [List.mem_cons,List.not_mem_nil,or_false];rintro (z | z)
  ·exact nd.2.2.1.2.2 (z▸hm)
  ·exact nd.2.2.2.1.2 (z▸hm)
structure DropOk(ns:List Nd)(n o:Nd)(x0:Str)(k1:Nat):Prop where
 ho:ndAt ns n.par=some o
 hx0:((ka_ o).find? fun y=>decide (o.kids.lookup y=some n.place))=some x0
 cu1:CuOk k1 (mv1 ns o x0) n.par 0 (0 - n.share)
 hn3:∃ n3,ndAt (ca_ k1 (mv1 ns o x0) n.par 0 (0 - n.share)) n.place=some n3
theorem drop_dir_W(R:Rep s A last ns notes zaps){n:Nd}(hp:ndAt ns n.place=some n){k1:Nat}
  (ok:n.par≠0->n.kids= []->∃ o x0,DropOk ns n o x0 k1) {Q:V->S->Prop}
  (q:n.par≠0->n.kids= []->∀ o x0,DropOk ns n o x0 k1->∀ h notes' zaps',Rep ⟨h,[]⟩ A last (rmNd (ca_ k1 (mv1 ns o x0) n.par 0 (0 - n.share)) n.place) notes' zaps'->Keep (foot A ns) s.h h->(∀ i∈foot A (rmNd (ca_ k1 (mv1 ns o x0) n.par 0 (0 - n.share)) n.place),i∈foot A ns)->Q .none {h:=h,l:=s.l})
  (e0:∀ h,Pre s.h h->n.par=0->E 111 {h:=h,l:=s.l}) (e1:∀ h,Pre s.h h->n.par≠0->n.kids≠ []->E 75 {h:=h,l:=s.l}):
  W (pg w) (fun F=>F.call (.glob 410) [.ref A.b,.int n.place] (d+6)) Q E s:=by
 obtain ⟨hn,_⟩:=nm_ hp;have hpl:=R.places n hn;have hlow:=R.low;refine W.f (P:=pg w) rfl ?_;dsimp only;refine W.stC (W.sA (W.cG (by rfl) ((W.lo rfl (W.lo rfl ⟨rfl,?_⟩)))));refine (R.loc _).load hp fun h1 i di p1 li ldi Inf=>W.asN rfl ?_;have li:s.h.length<=i:=li;have ldi:s.h.length<=di:=ldi;have hli:i∉foot A ns:=fun hi=>by have:=R.len _ hi;omega
 have hldi:di∉foot A ns:=fun hi=>by have:=R.len _ hi;omega
 obtain ⟨kd,own1⟩:=Inf.own;refine W.stC (W.sIf (W.t_ rfl (W.a_ rfl (W.lo rfl (W.g_ Inf.inst own1 (gd _ (by simp)) rfl rfl (W.c_ rfl (W.p_ (a:=decide (n.par=0)) (fun _=>rfl) ?_)))))));by_cases hz0:n.par=0
 ·rw [decide_eq_true hz0];exact W.stC (W.sRaise (C:=111) (by rfl) rfl (by rfl) (W.c_ rfl (e0 _ p1 hz0)))
 rw [decide_eq_false hz0];refine W.stN ?_;have R1:=R.on p1;obtain ⟨kb1,ownb1⟩:=(R1 []).base.own;obtain ⟨kk,hkk⟩:=(R1 []).kids n hn;have hsv:sn_ ((ke_ n).map (·.1))=some ((ka_ n).map V.str):=by
  have e:=sort_strs (n.kids.map (·.1));rw [List.map_map] at e;rw [show (ke_ n).map (·.1)=n.kids.map (V.str∘fun x=>x.1) from by unfold ke_;rw [List.map_map];rfl];exact e
 refine W.stC (W.sIf (W.t_ rfl (W.cc_ rfl rfl rfl (W.lo rfl (W.m_ (R1 []).base.inst ownb1 mk_names rfl rfl (W.a_ rfl (W.lo rfl (W.g_ Inf.inst own1 (gd _ (by simp)) rfl rfl ⟨rfl,?_⟩))))))));refine names_W (fun _=>rfl) (fun _=>rfl) (R1 _).base (R.zkids n hn) hkk (by simpa using (R.kok n hn).1) hsv (W.list rfl rfl (W.neNil (ga_ gn_) gn_ ?_));have p2:Pre s.h (h1++ [O.list ((ka_ n).map V.str)]++ [.list []]):=p1.trans ((Pre.app _ _).trans (Pre.app _ _));have hemp:((ka_ n).map V.str).isEmpty=n.kids.isEmpty:=by
  have e1:((ka_ n).map V.str).length=n.kids.length:=by unfold ka_;rw [List.length_map,sortBy_len,List.length_map]
  cases hk:n.kids with
  | nil=>rw [hk] at e1;simp at e1;simp [e1]
  | cons a r=>
   rw [hk] at e1;cases hk2:(ka_ n).map V.str with
   | nil=>rw [hk2] at e1;simp at e1
   | cons=>rfl
 rw [hemp];cases hk:n.kids with
 | cons a r=>
  exact W.stC (W.sRaise (C:=75) (by rfl) rfl (by rfl) (W.c_ rfl (e1 _ p2 hz0 (by rw [hk];simp))))
 | nil=>
  obtain ⟨o,x0,M⟩:=ok hz0 hk;refine W.stN ?_;have I3:=(Inf.pre (Pre.app h1 [O.list ((ka_ n).map V.str)])).pre (Pre.app _ [O.list []]);generalize (h1++ [O.list ((ka_ n).map V.str)]++ [.list []])=h3 at p2 I3 ⊢;have R3:=R.on p2;obtain ⟨kb3,ownb3⟩:=(R3 []).base.own;obtain ⟨kd3,own3⟩:=I3.own;refine W.stC (W.sc_ rfl (W.cc_ rfl rfl rfl (W.lo rfl (W.m_ (R3 []).base.inst ownb3 mk_take rfl rfl (W.a_ rfl (W.cG (by rfl) ((W.lo rfl (W.a_ rfl (W.lo rfl (W.g_ I3.inst own3 (gd _ (by simp)) rfl rfl ⟨rfl,?_⟩)))))))))));refine (R3 _).load M.ho fun h4 i4 di4 p4 _ _ Inf4=>?_;obtain ⟨kd4,own4⟩:=Inf4.own;have I4:=I3.pre p4;obtain ⟨kd4',own4'⟩:=I4.own;refine W.g_ Inf4.inst own4 (gd _ (by simp)) rfl rfl (W.cG (by rfl) ((W.lo rfl (W.a_ rfl (W.lo rfl (W.g_ I4.inst own4' (gd _ (by simp)) rfl rfl (W.lo rfl ⟨rfl,?_⟩)))))));have hnameIn:nd_ o n.place=x0:=by unfold nd_;rw [M.hx0];rfl
  refine name_in_W (R.on (p2.trans p4) _) M.ho M.hx0 fun h5 p5=>⟨by rfl,?_⟩;rw [hnameIn];obtain ⟨ho,hop⟩:=nm_ M.ho;have hlook:o.kids.lookup x0=some n.place:=by simpa using List.find?_some M.hx0
  have p15:=(p2.trans p4).trans p5;refine (R.on p15 _).takeW ho hlook fun h6 R6 fe6 kp6=>?_;have k6:Keep (foot A ns) s.h h6:=(Keep.of_pre p15).trans kp6;have I6:=(I4.pre p5).keep kp6 hli hldi;obtain ⟨kd6,own6⟩:=I6.own;refine W.stC (W.sc_ rfl (W.cG (by rfl) ((W.lo rfl (W.a_ rfl (W.lo rfl (W.g_ I6.inst own6 (gd _ (by simp)) rfl rfl (W.c_ rfl (W.b_ (W.c_ rfl (W.cG (by rfl) ((W.lo rfl ⟨rfl,so_ I6 (W.p_ (fun _=>rfl) ⟨rfl,?_⟩)⟩)))))))))))));refine cu_ (R6.on (Pre.refl _) _) M.cu1 fun h9 notes9 R9 fe9 kp9=>?_;have fe19:=fe9.trans fe6;have k9:Keep (foot A ns) s.h h9:=k6.trans' kp9 fun i hi=> .inl (fe6▸hi);have I9:=I6.keep kp9 (by rw [fe6];exact hli) (by rw [fe6];exact hldi);obtain ⟨kd9,own9⟩:=I9.own;obtain ⟨n3,hn3⟩:=M.hn3;obtain ⟨hn3m,hn3p⟩:=nm_ hn3;refine W.stC (W.sFor rfl (W.tuple rfl rfl (W.a_ rfl (W.lo rfl (W.g_ I9.inst own9 (gd _ (by simp)) rfl rfl (W.a_ rfl (W.lo rfl (W.g_ I9.inst own9 (gd _ (by simp)) rfl rfl (W.lo rfl (W.iterT gn_ ?_))))))))));generalize hX:O.tup [V.int (n.place - 2),.int (n.place - 1),.int n.place]=X;have hlen:(h9++ [X]).length=h9.length+1:=by simp
  dsimp only;rw [hlen];have R10:=R9.on ((Pre.app h9 [X]).trans (Pre.app _ [.itT h9.length 0]));have t0:(h9++ [X]++ [.itT h9.length 0])[h9.length]? =some X:=ga_ gn_;have it0:(h9++ [X]++ [.itT h9.length 0])[h9.length+1]? =some (.itT h9.length 0):=by rw [<-hlen];exact gn_
  have lN:A.N < h9.length:=R9.len _ (by simp);have lZ:A.Z < h9.length:=R9.len _ (by simp);have none1:f_ (.int (n.place - 2)) notes9=none:=by
   rw [R9.hnotes,ndAt_none (fun a ha z=>by have:=R9.places a ha;omega)];rfl
  have none2:f_ (.int (n.place - 1)) notes9=none:=by
   rw [R9.hnotes,ndAt_none (fun a ha z=>by have:=R9.places a ha;omega)];rfl
  have z1:=R9.zkids n3 hn3m;obtain ⟨v2,z2⟩:=Option.isSome_iff_exists.mp (R9.zprops n3 hn3m);rw [hn3p] at z1 z2;have z3:f_ (.int n.place) notes9=some (.bytes (rowB n3.row)):=by rw [R9.hnotes,hn3];rfl
  subst hX;generalize hh10:h9++ [O.tup [V.int (n.place - 2),.int (n.place - 1),.int n.place]]++ [.itT h9.length 0]=h10 at R10 t0 it0 ⊢;have p910:Pre h9 h10:=by subst hh10;exact (Pre.app _ _).trans (Pre.app _ _)
  refine W.foT (W.nextT it0 t0 (fun v hv=>?_) fun hle=>by simp at hle);cases hv;have B1:=(R10 []).base.on ((Pre.refl h10)) [];have B1':Base ⟨h10.set (h9.length+1) (.itT h9.length 1),[]⟩ A.b A.bd A.N A.Z last notes9 zaps:=(R9.on (p910.set (by omega)) []).base;have t1:(h10.set (h9.length+1) (.itT h9.length 1))[h9.length]? =some (.tup [V.int (n.place - 2),.int (n.place - 1),.int n.place]):=gb_ (by omega) t0;have it1:(h10.set (h9.length+1) (.itT h9.length 1))[h9.length+1]? =some (.itT h9.length 1):=ge_ it0;have k11:Keep [A.N,A.Z] h9 (h10.set (h9.length+1) (.itT h9.length 1)):=Keep.of_pre (p910.set (by omega));refine W.own0 (W.asN rfl ?_);refine W.heap (h':=h10.set (h9.length+1) (.itT h9.length 1)) rfl ?_;generalize (h10.set (h9.length+1) (.itT h9.length 1))=h11 at B1' t1 it1 k11 ⊢;obtain ⟨kb11,ownb11⟩:=B1'.own;refine W.stC (W.sc_ rfl (W.cc_ rfl rfl rfl (W.lo rfl (W.m_ B1'.inst ownb11 mk_drop rfl rfl (W.lo rfl ⟨by rfl,?_⟩)))));refine drop_zap_B (B1'.loc _) none1 z1 fun h12 B2 kp12=>W.stN ?_;have nin1:h9.length∉ [A.N,A.Z]:=by simp only [List.mem_cons,List.not_mem_nil,or_false];omega
  have nin2:h9.length+1∉ [A.N,A.Z]:=by simp only [List.mem_cons,List.not_mem_nil,or_false];omega
  have t2:=kp12.2 _ _ t1 nin1;have it2:=kp12.2 _ _ it1 nin2;have k12:=k11.trans kp12;refine W.foT (W.nextT it2 t2 (fun v hv=>?_) fun hle=>by simp at hle);cases hv;have l12:h9.length<=h12.length:=k12.1;have step:∀ {hx:List O} {N' Z':List (V×V)} (j:Nat),Base ⟨hx,[]⟩ A.b A.bd A.N A.Z last N' Z'->Base ⟨hx.set (h9.length+1) (.itT h9.length j),[]⟩ A.b A.bd A.N A.Z last N' Z':=fun {hx N' Z'} j B=>by
   obtain ⟨k1,e1⟩:=B.own;obtain ⟨k2,e2⟩:=B.nts;obtain ⟨k3,e3⟩:=B.zps;have lb:A.b < h9.length:=R9.len _ (by simp);have lbd:A.bd < h9.length:=R9.len _ (by simp);exact {inst:=gb_ (by omega) B.inst,own:=⟨k1,gb_ (by omega) e1⟩,nts:=⟨k2,gb_ (by omega) e2⟩,zps:=⟨k3,gb_ (by omega) e3⟩,nk:=B.nk,zk:=B.zk,ne:=B.ne}
  have B2':=step 2 B2;have t3:(h12.set (h9.length+1) (.itT h9.length 2))[h9.length]? =some (.tup [V.int (n.place - 2),.int (n.place - 1),.int n.place]):=gb_ (by omega) t2;have it3:(h12.set (h9.length+1) (.itT h9.length 2))[h9.length+1]? =some (.itT h9.length 2):=ge_ it2;have k13:Keep [A.N,A.Z] h9 (h12.set (h9.length+1) (.itT h9.length 2)):=k12.set (.inr (by omega));refine W.own0 (W.asN rfl ?_);refine W.heap (h':=h12.set (h9.length+1) (.itT h9.length 2)) rfl ?_;generalize (h12.set (h9.length+1) (.itT h9.length 2))=h13 at B2' t3 it3 k13 ⊢;obtain ⟨kb13,ownb13⟩:=B2'.own;refine W.stC (W.sc_ rfl (W.cc_ rfl rfl rfl (W.lo rfl (W.m_ B2'.inst ownb13 mk_drop rfl rfl (W.lo rfl ⟨by rfl,?_⟩)))));refine drop_zap_B (B2'.loc _) none2 (v:=v2) (by rw [fd_ _ _ _ (fun z=>by have:=V.int.inj z;omega)];exact z2) fun h14 B4 kp14=>W.stN ?_;have t4:=kp14.2 _ _ t3 nin1;have it4:=kp14.2 _ _ it3 nin2;have k14:=k13.trans kp14;refine W.foT (W.nextT it4 t4 (fun v hv=>?_) fun hle=>by simp at hle);cases hv;have l14:h9.length<=h14.length:=k14.1;have B4':=step 3 B4;have t5:(h14.set (h9.length+1) (.itT h9.length 3))[h9.length]? =some (.tup [V.int (n.place - 2),.int (n.place - 1),.int n.place]):=gb_ (by omega) t4;have it5:(h14.set (h9.length+1) (.itT h9.length 3))[h9.length+1]? =some (.itT h9.length 3):=ge_ it4;have k15:Keep [A.N,A.Z] h9 (h14.set (h9.length+1) (.itT h9.length 3)):=k14.set (.inr (by omega));refine W.own0 (W.asN rfl ?_);refine W.heap (h':=h14.set (h9.length+1) (.itT h9.length 3)) rfl ?_;generalize (h14.set (h9.length+1) (.itT h9.length 3))=h15 at B4' t5 it5 k15 ⊢;obtain ⟨kb15,ownb15⟩:=B4'.own;refine W.stC (W.sc_ rfl (W.cc_ rfl rfl rfl (W.lo rfl (W.m_ B4'.inst ownb15 mk_drop rfl rfl (W.lo rfl ⟨by rfl,?_⟩)))));refine drop_note_B (B4'.loc _) z3 fun h16 B6 kp16=>W.stN ?_;have t6:=kp16.2 _ _ t5 nin1;have it6:=kp16.2 _ _ it5 nin2;have k16:=k15.trans kp16;refine W.foT (W.nextT it6 t6 (fun v hv=>by cases hv) fun _=>W.stN ?_);have l16:h9.length<=h16.length:=k16.1;have B6':Base ⟨h16.set (h9.length+1) .dead,[]⟩ A.b A.bd A.N A.Z last (da_ (.int n.place) notes9) (da_ (.int (n.place - 1)) (da_ (.int (n.place - 2)) zaps)):=by
   obtain ⟨k1,e1⟩:=B6.own;obtain ⟨k2,e2⟩:=B6.nts;obtain ⟨k3,e3⟩:=B6.zps;have lb:A.b < h9.length:=R9.len _ (by simp);have lbd:A.bd < h9.length:=R9.len _ (by simp);exact {inst:=gb_ (by omega) B6.inst,own:=⟨k1,gb_ (by omega) e1⟩,nts:=⟨k2,gb_ (by omega) e2⟩,zps:=⟨k3,gb_ (by omega) e3⟩,nk:=B6.nk,zk:=B6.zk,ne:=B6.ne}
  have k17:Keep [A.N,A.Z] h9 (h16.set (h9.length+1) .dead):=k16.set (.inr (by omega));obtain ⟨notes',zaps',R17,fsub⟩:=R9.dropped hpl.1 B6' hpl.2.1 k17;refine q hz0 hk o x0 M _ notes' zaps' R17 (k9.trans' k17 fun i hi=> .inl ?_) fun i hi=>fe19▸fsub i hi;simp only [List.mem_cons,List.not_mem_nil,or_false] at hi;rcases hi with rfl | rfl <;> simp
end
end
section
def rootNd(z:Nat):Nd:=⟨4,0,0,0,0,z,[]⟩
variable {w:World}
section
variable {s:S} {A:Adr} {d:Nat} {E:Addr->S->Prop}
theorem root_none_W(B:Base s A.b A.bd A.N A.Z 1 [] [(.int 1,.ref A.zn)]){k:Nat}(hz:s.h[A.zn]? =some (.dict [] k)){Q:V->S->Prop}(e:∀ h,Pre s.h h->E 51 {h:=h,l:=s.l}):
  W (pg w) (fun F=>F.call (.glob 318) [.ref A.b] (d+3)) Q E s:=by
 obtain ⟨k1,own⟩:=B.own;refine W.f (P:=pg w) rfl ?_;dsimp only;refine W.stC (W.sA (W.cc_ rfl rfl rfl (W.lo rfl (W.m_ B.inst own mk_get rfl rfl (W.gl (by rfl) (W.gl (by rfl) ⟨by rfl,?_⟩))))));refine get_W (fun _=>rfl) (fun _=>rfl) (B.loc _) (by rfl) hz rfl ?_;refine W.asN rfl (W.stC (W.sIf (W.t_ rfl (W.lo rfl (W.c_ rfl (W.p_ (fun _=>rfl) ?_))))));exact W.stC (W.sRaise (C:=51) (by rfl) rfl (by rfl) (W.c_ rfl (e _ (Pre.refl _))))
theorem make_root_W(B:Base s A.b A.bd A.N A.Z 1 [] [(.int 1,.ref A.zn)]){k:Nat}(hz:s.h[A.zn]? =some (.dict [] k))(nd: [A.b,A.bd,A.N,A.Z,A.zn].Nodup){Q:V->S->Prop}
  (q:∀ h z notes zaps,Rep ⟨h,[]⟩ A 4 [rootNd z] notes zaps->Keep [A.bd,A.N,A.Z,A.zn] s.h h->s.h.length<=z->Q (.int 4) {h:=h,l:=s.l}):
  W (pg w) (fun F=>F.call (.glob 311) [.ref A.b] (d+4)) Q E s:=by
 have lzn:=gl_ hz;have nd0:=nd;simp only [List.nodup_cons,List.mem_cons,List.not_mem_nil,or_false,not_or] at nd;refine W.f (P:=pg w) rfl ?_;dsimp only;refine W.stC (W.sA (W.cG (by rfl) ((W.lo rfl (W.c_ rfl (W.c_ rfl ⟨rfl,?_⟩))))));refine new_dir_B (B.loc _) (by simp) (by simp) (by decide) (by decide) fun h1 z1 z2 B1 kp1 e1 hz1=>W.asN rfl ?_;have hz1:s.h.length<=z1:=hz1;obtain ⟨k1,own1⟩:=B1.own;have hzn1:h1[A.zn]? =some (.dict [] k):=kp1.2 _ _ hz (by simp only [List.mem_cons,List.not_mem_nil,or_false];omega);refine W.stC (W.sc_ rfl (W.cc_ rfl rfl rfl (W.lo rfl (W.m_ B1.inst own1 mk_put rfl rfl (W.gl (by rfl) (W.gl (by rfl) (W.lo rfl ⟨by rfl,?_⟩)))))));refine put_W (fun _=>rfl) (fun _=>rfl) (B1.loc _) (z:=A.zn) (by rfl) hzn1 rfl (by decide) (by decide) ?_;refine W.stC (W.s_ (W.lo rfl ?_));have e2:putD (.str "root") (.int 4) [] k= .dict [(.str "root",.int 4)] (k+1):=rfl;refine q _ z1 (putK (.int 4) (.bytes (rowB [0,0,2,3,0,0,0,0,0,0])) []) (putK (.int 3) (.ref z2) (putK (.int 2) (.ref z1) [(.int 1,.ref A.zn)])) ?_ ((Keep.trans (b:=h1) ⟨kp1.1,fun i o e hi=>kp1.2 i o e (fun z=>hi (by simp only [List.mem_cons,List.not_mem_nil,or_false] at z ⊢;omega))⟩ (Keep.refl _ _)).set (.inl (by simp))) hz1;have lb:=gl_ B.inst;have lbd:=gl_ B.own.choose_spec;have lN:=gl_ B.nts.choose_spec;have lZ:=gl_ B.zps.choose_spec;obtain ⟨k2,e5⟩:=B1.nts;obtain ⟨k3,e6⟩:=B1.zps;have B2:Base ⟨h1.set A.zn (.dict [(.str "root",.int 4)] (k+1)),[]⟩ A.b A.bd A.N A.Z 4 (putK (.int 4) (.bytes (rowB [0,0,2,3,0,0,0,0,0,0])) []) (putK (.int 3) (.ref z2) (putK (.int 2) (.ref z1) [(.int 1,.ref A.zn)])):=
  {inst:=gb_ (by omega) B1.inst,own:=⟨k1,gb_ (by omega) own1⟩,nts:=⟨k2,gb_ (by omega) e5⟩,zps:=⟨k3,gb_ (by omega) e6⟩,nk:=⟨by rfl,(by decide:1<=900)⟩,zk:=⟨by rfl,(by decide:3<=900)⟩,ne:=B1.ne}
 have hrow:(rootNd z1).row= [0,0,2,3,0,0,0,0,0,0]:=rfl;refine {base:=B2,hnotes:=?_,nnd:=by simp [putK],znames:=by rfl,zkids:=?_,zprops:=?_,znone:=?_,lens:=(by decide:(1:Int)<=4/\(3:Int)<=4),root:=⟨k+1,ge_ hzn1⟩,kids:=?_,fit:=?_,kok:=?_,addr:=?_,places:=?_,pnd:=by simp,low:=by decide}
 ·intro p;rw [fp_,nc_];by_cases h:p=4
  ·subst h;rw [if_pos rfl,if_pos (show (rootNd z1).place=4 from rfl),Option.map_some,hrow]
  ·rw [if_neg (fun z=>h (V.int.inj z).symm),if_neg (fun z:(rootNd z1).place=p=>h z.symm)];rfl
 ·intro n hn;rw [List.mem_singleton.mp hn];rfl
 ·intro n hn;rw [List.mem_singleton.mp hn];rfl
 ·intro p h1 h2;rw [fp_,fp_,if_neg (fun z=>by have:=V.int.inj z;omega),if_neg (fun z=>by have:=V.int.inj z;omega)];unfold f_ f_;rw [if_neg (fun z=>by have:=V.int.inj z;omega)]
 ·intro n hn;rw [List.mem_singleton.mp hn];exact ⟨0,gb_ (by show A.zn≠z1;omega) e1⟩
 ·intro n hn;rw [List.mem_singleton.mp hn];intro x hx;rw [hrow] at hx;simp only [List.mem_cons,List.not_mem_nil,or_false] at hx;omega
 ·intro n hn;rw [List.mem_singleton.mp hn];exact ⟨(by decide:0 < 64),List.nodup_nil⟩
 ·show ([A.b,A.bd,A.N,A.Z,A.zn]++ [z1]).Nodup;refine List.nodup_append.mpr ⟨nd0,by simp,?_⟩;intro a ha b hb z;simp only [List.mem_cons,List.not_mem_nil,or_false] at ha hb;omega
 ·intro n hn;rw [List.mem_singleton.mp hn];show (4:Int) % 3=1/\4<=(4:Int)/\(4:Int)<=4
  decide
end
end
section
structure Rw where
 place:Int
 par:Int
 name:Str
 used:Int
 res:Int
 rr:Nat
def rwAt(rs:List Rw)(p:Int):Option Rw:=rs.find? fun r=>decide (r.place=p)
theorem rm_{rs:List Rw}{p:Int}{r:Rw}(h:rwAt rs p=some r):r∈rs/\r.place=p:=⟨List.mem_of_find?_eq_some h,by simpa using List.find?_some h⟩
abbrev Rw.lst(r:Rw):List V:= [.int r.par,.str r.name,.int r.used,.int r.res]
abbrev ra_(rs:List Rw):List (V×V):=rs.map fun r=>(.int r.place,.ref r.rr)
structure Rows(h:List O)(R:Nat)(rs:List Rw):Prop where
 dict:∃ k,h[R]? =some (.dict (ra_ rs) k)
 rows:∀ r∈rs,h[r.rr]? =some (.list r.lst)
 nd:(R::rs.map (·.rr)).Nodup
 pnd:(rs.map (·.place)).Nodup
 len:rs.length<=40
abbrev footR(R:Nat)(rs:List Rw):List Nat:=R::rs.map (·.rr)
theorem Rows.pre{h h':List O}{R:Nat}{rs:List Rw}(x:Rows h R rs)(p:Pre h h'):Rows h' R rs:={x with dict:=(let ⟨k,e⟩:=x.dict;⟨k,p.get e⟩),rows:=fun r hr=>p.get (x.rows r hr)}
theorem Rows.keep{F:List Nat}{h h':List O}{R:Nat}{rs:List Rw}(x:Rows h R rs)(p:Keep F h h')(hf:∀ i∈footR R rs,i∉F):Rows h' R rs:=
 {x with dict:=(let ⟨k,e⟩:=x.dict;⟨k,p.2 _ _ e (hf R (by simp))⟩),rows:=fun r hr=>p.2 _ _ (x.rows r hr) (hf r.rr (by simp only [List.mem_cons,List.mem_map];exact .inr ⟨r,hr,rfl⟩))}
theorem ri_(rs:List Rw):i_ (ra_ rs)=true:=by
 unfold i_;rw [List.all_eq_true];intro e he;obtain ⟨r,_,rfl⟩:=List.mem_map.mp he;rfl
theorem rows_find(rs:List Rw)(p:Int):f_ (.int p) (ra_ rs)=(rwAt rs p).map fun r=> .ref r.rr:=by
 induction rs with
 | nil=>rfl
 | cons r t ih=>
  unfold rwAt;rw [List.find?_cons];unfold ra_;rw [List.map_cons];unfold f_;by_cases h:r.place=p
  ·rw [if_pos (by rw [h]),decide_eq_true h];rfl
  ·rw [if_neg (fun z=>h (V.int.inj z)),decide_eq_false h];exact ih
theorem rows_like(rs:List Rw)(p:Int):(kd_ (.int p) && k_ (.int p) (ra_ rs))=true:=l_ (ri_ rs) p
def ClimbR(rs:List Rw):Nat->Int->Prop
 | 0,p=>p=0
 | k+1,p=>p=0\/∃ r,rwAt rs p=some r/\ClimbR rs k r.par
def upR(rs:List Rw):Nat->Int->List Int
 | 0,_=> []
 | k+1,p=>if p=0 then [] else match rwAt rs p with
  | some r=>p::upR rs k r.par
  | none=> []
section
variable {P:Prg} {E:Addr->S->Prop} {s:S} {ρ:Ev}
theorem W.r_{o1 i1 i2:Expr}{p1 p2:Pos}{R:Nat}{rs:List Rw}{p:Int}{r:Rw}{j:Int}{v:V}{Q:V->S->Prop}(X:Rows s.h R rs)(hp:rwAt rs p=some r)(hj:0<=j/\j < 2 ^ 62)(hv:r.lst[j.toNat]? =some v)
  (h:W P (fun F=>F.ev o1 ρ) (fun a s1=>a= .ref R/\s1=s/\W P (fun F=>F.ev i1 ρ) (fun b s2=>b= .int p/\s2=s/\W P (fun F=>F.ev i2 ρ) (fun c s3=>c= .int j/\s3=s/\Q v s) E s) E s) E s) (hi:∀ a b c d,i2≠ .Slice a b c d:=by intros;simp) (hi1:∀ a b c d,i1≠ .Slice a b c d:=by intros;simp):
  W P (fun F=>F.ev (.Subscript (.Subscript o1 i1 p1) i2 p2) ρ) Q E s:=by
 refine W.item hi (W.item hi1 (h.post fun a s1 ⟨ha,hs,h⟩=>?_));subst ha;rw [hs];refine h.post fun b s2 ⟨hb,hs2,h⟩=>?_;subst hb;rw [hs2];obtain ⟨k,e⟩:=X.dict;refine W.itemD e (rows_like rs p) (by rw [rows_find,hp];rfl) ?_;refine h.post fun c s3 ⟨hc,hs3,q⟩=>?_;subst hc;rw [hs3];exact W.itemL (X.rows r (rm_ hp).1) hj hv q
theorem W.cmp2{l r r2:Expr}{op op2:CmpOp}{p:Pos}{Q:V->S->Prop}(hn:(nb_ r && nb_ r2)=true)(h:W P (fun F=>F.ev l ρ) (fun a s1=>W P (fun F=>F.ev r ρ) (fun b s2=>W P (fun _=>cmpM op a b) (fun k s3=>if k=true then W P (fun F=>F.ev r2 ρ) (fun c s4=>W P (fun _=>cmpM op2 b c) (fun k s5=>Q (.bool k) s5) E s4) E s3 else Q (.bool false) s3) E s2) E s1) E s):
  W P (fun F=>F.ev (.Compare l [op,op2] [r,r2] p) ρ) Q E s:=
 W.ev (W.n_ (by simpa using hn) (W.bind (h.post fun _ _ h=>W.bind (W.bind (h.post fun _ _ h=>W.bind (h.post fun k _ h=>by cases k;exact W.pure (W.pure h);exact W.bind (h.post fun _ _ h=>h.post fun _ _ h=>W.pure h)))))))
theorem W.boolA{x y:Expr}{r:List Expr}{Q:V->S->Prop}(h:W P (fun F=>F.ev x ρ) (fun v s1=>W P (fun _=>tb_ v) (fun b s2=>if b=true then W P (fun F=>boolM F ρ .And (y::r)) Q E s2 else Q v s2) E s1) E s):W P (fun F=>boolM F ρ .And (x::y::r)) Q E s:=
 W.bind (h.post fun v _ h=>W.bind (h.post fun b _ h=>by cases b;exact W.pure h;exact h))
end
variable {w:World}
section
variable {s:S} {R:Nat} {rs:List Rw} {d:Nat} {E:Addr->S->Prop}
theorem law_up_W(X:Rows s.h R rs){p:Int}{k:Nat}(hu:ClimbR rs k p)(hk:k<=1000){Q:V->S->Prop}(q:∀ h r,Pre s.h h->s.h.length<=r->h[r]? =some (.list ((upR rs k p).map V.int))->Q (.ref r) {h:=h,l:=s.l}):
  W (pg w) (fun F=>F.call (.glob 441) [.ref R,.int p] (d+1)) Q E s:=by
 refine W.f (P:=pg w) rfl ?_;dsimp only;refine W.stC (W.sA (W.list rfl rfl (W.asN rfl ?_)));generalize hm:s.h.length=m;have z0:(s.h++ [O.list []])[m]? =some (.list (([]:List Int).map V.int)):=by subst hm;exact gn_
 dsimp only;refine W.stC (W.sWhile (W.whI (fun j s'=>Pre s.h s'.h/\has s'.l "rows" (.ref R)/\has s'.l "found" (.ref m)/\∃ c acc,has s'.l "place" (.int c)/\ClimbR rs j c/\s'.h[m]? =some (.list (acc.map V.int))/\acc.length+j<=k/\upR rs k p=acc++upR rs j c) ?_ k _ ⟨Pre.app _ _,rfl,(by subst hm;rfl),p,[],rfl,hu,z0,by simp,rfl⟩));intro j s' ⟨i1,i2,i3,c,acc,i4,i5,i6,i7,i8⟩;refine W.t_ rfl (W.lo i4 (W.c_ rfl (W.p_ (a:=!decide (c=0)) (fun _=>rfl) ?_)));by_cases hc:c=0
 ·rw [decide_eq_true hc];have:upR rs j c= []:=by
   cases j with
   | zero=>rfl
   | succ j=>show (if c=0 then [] else _)= [];rw [if_pos hc]
  rw [this,List.append_nil] at i8;exact W.stC (W.s_ (W.lo i3 (q _ _ i1 (by omega) (by rw [i8];exact i6))))
 ·rw [decide_eq_false hc];cases j with
  | zero=>exact absurd i5 hc
  | succ j=>
   rcases i5 with i5 | ⟨r,hr,i5⟩
   ·exact absurd i5 hc
   have un:upR rs (j+1) c=c::upR rs j r.par:=by
    show (if c=0 then [] else match rwAt rs c with | some r=>c::upR rs j r.par | none=> [])=_;rw [if_neg hc,hr]
   rw [un] at i8;refine W.stC (W.sc_ rfl (W.cc_ rfl rfl rfl (W.lo i3 (W.appendM i6 (W.lo i4 ⟨rfl,W.bi (W.appendB i6 (decide_eq_true (by rw [List.length_map];omega)) ?_)⟩)))));have p2:Pre s.h (s'.h.set m (.list (acc.map V.int++ [.int c]))):=i1.set (by omega);refine W.stC (W.sA (W.r_ (X.pre p2) hr (j:=0) ⟨by decide,by decide⟩ rfl (W.lo i2 ⟨rfl,rfl,W.lo i4 ⟨rfl,rfl,W.c_ rfl ⟨rfl,rfl,W.asN rfl ?_⟩⟩⟩)));refine W.stN ⟨j,Nat.lt_succ_self j,p2,ln_ (by decide) i2,ln_ (by decide) i3,r.par,acc++ [c],le_,i5,?_,by simp;omega,by rw [i8];simp⟩;rw [List.map_append];exact ge_ i6
end
end
section
def onRow(rs:List Rw){β:Type}(f:Rw->β)(z:β)(v:V):β:=match v with
 | .int c=>match rwAt rs c with
  | some r=>f r
  | none=>z
 | _=>z
theorem ro_{rs:List Rw}(nd:(rs.map (·.place)).Nodup){r:Rw}(h:r∈rs):rwAt rs r.place=some r:=by
 induction rs with
 | nil=>cases h
 | cons a t ih=>
  unfold rwAt;rw [List.find?_cons];rw [List.map_cons,List.nodup_cons] at nd;rcases List.mem_cons.mp h with h | h
  ·subst h;rw [decide_eq_true rfl]
  ·have:a.place≠r.place:=fun z=>nd.1 (z▸List.mem_map_of_mem h);rw [decide_eq_false this];exact ih nd.2 h
theorem onRow_eq{rs:List Rw}(nd:(rs.map (·.place)).Nodup){β:Type}(f:Rw->β)(z:β){r:Rw}(h:r∈rs):onRow rs f z (.int r.place)=f r:=by
 unfold onRow;dsimp only;rw [ro_ nd h]
theorem comp_rows{rs:List Rw}(nd:(rs.map (·.place)).Nodup)(g:Rw->Bool)(f:Rw->V):(((ra_ rs).map (·.1)).filter (onRow rs g false)).map (onRow rs f .none)=(rs.filter g).map f:=by
 have key:∀ l:List Rw,(∀ r∈l,r∈rs)->((l.map fun r=>V.int r.place).filter (onRow rs g false)).map (onRow rs f .none)=(l.filter g).map f:=by
  intro l
  induction l with
  | nil=>intro _;rfl
  | cons a t ih=>
   intro h;have ha:=h a (.head _);rw [List.map_cons,List.filter_cons,List.filter_cons,onRow_eq nd g false ha];by_cases hg:g a=true
   ·rw [if_pos hg,if_pos hg,List.map_cons,List.map_cons,onRow_eq nd f .none ha,ih fun r hr=>h r (.tail _ hr)]
   ·rw [if_neg hg,if_neg hg,ih fun r hr=>h r (.tail _ hr)]
 have e:(ra_ rs).map (·.1)=rs.map fun r=>V.int r.place:=by unfold ra_;rw [List.map_map];rfl
 rw [e];exact key rs fun _ h=>h
section
variable {P:Prg} {E:Addr->S->Prop} {s:S} {ρ:Ev}
theorem W.cg_{x:Str}{px p:Pos}{elt iter:Expr}{ifs:List Expr}{scope:Scope}{cells:List (Str×Nat)}{R:Nat}{rs:List Rw}(g:Rw->Bool)(f:Rw->V){Q:V->S->Prop}(hc:cf_ ρ scope.names [] s=some (.ok cells,s))(hk:(compOk scope && nb_ iter)=true)(hx:(cb_ ρ scope).names.lookup x=some .local)(X:Rows s.h R rs)
  (hi:W P (fun F=>F.ev iter ρ) (fun v s1=>v= .ref R/\s1=s) E s)
  (ht:∀ r∈rs,∀ h lo,Pre s.h h->lo.lookup x=some (.int r.place)->W P (fun F=>tc_ F {scope:=cb_ ρ scope,cells,d:=ρ.d} ifs) (fun b s'=>b=g r/\Pre h s'.h/\s'.l=lo) (fun _ _=>False) {h:=h,l:=lo})
  (he:∀ r∈rs,g r=true->∀ h lo,Pre s.h h->lo.lookup x=some (.int r.place)->W P (fun F=>F.ev elt {scope:=cb_ ρ scope,cells,d:=ρ.d}) (fun y s'=>y=f r/\Pre h s'.h/\s'.l=lo) (fun _ _=>False) {h:=h,l:=lo})
  (q:∀ h acc,Pre s.h h->s.h.length<=acc->h[acc]? =some (.list ((rs.filter g).map f))->Q (.ref acc) {h:=h,l:=s.l}):
  W P (fun F=>F.ev (.ListComp elt [⟨.Name x px,iter,ifs,0⟩] scope p) ρ) Q E s:=by
 obtain ⟨k,e⟩:=X.dict;have mem:∀ v∈(ra_ rs).map (·.1),∃ r∈rs,v= .int r.place:=by
  intro v hv;obtain ⟨e,he,rfl⟩:=List.mem_map.mp hv;obtain ⟨r,hr,rfl⟩:=List.mem_map.mp he;exact ⟨r,hr,rfl⟩
 refine W.compD hc hk hx (hi.post fun v s1 ⟨hv,hs⟩=>?_);rw [hs];refine ⟨R,ra_ rs,k,onRow rs f .none,onRow rs g false,hv,e,ri_ rs,by have:=X.len;simp;omega,⟨?_,?_⟩,?_⟩
 ·intro v hv h lo hp hlo;obtain ⟨r,hr,rfl⟩:=mem v hv;rw [onRow_eq X.pnd g false hr];exact ht r hr h lo hp hlo
 ·intro v hv hg h lo hp hlo;obtain ⟨r,hr,rfl⟩:=mem v hv;rw [onRow_eq X.pnd g false hr] at hg;rw [onRow_eq X.pnd f .none hr];exact he r hr hg h lo hp hlo
 ·intro h acc hp ha hacc;rw [comp_rows X.pnd] at hacc;exact q h acc hp ha hacc
end
def sg_(rs:List Rw):Nat->Int->Int
 | 0,_=>0
 | k+1,p=>match rwAt rs p with
  | some r=>max (r.used+((rs.filter fun c=>decide (c.par=p)).map fun c=>sg_ rs k c.place).sum) r.res
  | none=>0
def belowR(rs:List Rw)(k:Nat)(p:Int):Int:=((rs.filter fun c=>decide (c.par=p)).map fun c=>sg_ rs k c.place).sum
def Deep(rs:List Rw):Nat->Int->Prop
 | 0,_=>False
 | k+1,p=>∀ c∈rs,c.par=p->Deep rs k c.place
variable {w:World}
section
variable {R:Nat} {rs:List Rw}
theorem two_cells{h:List O}{a b:V}:((h++ [O.cell none]++ [O.cell none]).set h.length (.cell (some a))).set (h.length+1) (.cell (some b))=h++ [O.cell (some a),O.cell (some b)]:=by simp
theorem share_W:∀ (k:Nat) {s:S} {p:Int} {r:Rw} {d:Nat} {Q:V->S->Prop} {E:Addr->S->Prop},Rows s.h R rs->Deep rs k p->rwAt rs p=some r->(∀ h,Pre s.h h->Q (.int (sg_ rs k p)) {h:=h,l:=s.l})->
  W (pg w) (fun F=>F.call (.glob 453) [.ref R,.int p] (d+2*k)) Q E s
 | 0,s,p,r,d,Q,E,X,hd,hr,q=>hd.elim
 | k+1,s,p,r,d,Q,E,X,hd,hr,q=>by
  refine W.f (P:=pg w) (d:=d+2*k+1) rfl ?_;dsimp only;refine W.stC (W.s_ (W.cG (by rfl) ((W.b_ (W.r_ X hr (j:=2) ⟨by decide,by decide⟩ rfl (W.lo rfl ⟨rfl,rfl,W.lo rfl ⟨rfl,rfl,W.c_ rfl ⟨rfl,rfl,W.cG (by rfl) ((W.lo rfl (W.lo rfl ⟨rfl,?_⟩)))⟩⟩⟩))))));refine W.fnK (P:=pg w) (d:=d+2*k) rfl (hK:=by rfl) (hb:=rfl) (hf:=rfl) (hok:=by rfl) (hs:=rfl) (lq:=none) (hq:=by rfl) (hbs:=rfl) (hc:=rfl) ?_;dsimp only;have hpl:(s.h++ [O.cell none]).length=s.h.length+1:=by simp
  rw [hpl];refine W.parC (w:=none) rfl rfl (by simp) (W.parC (w:=none) rfl rfl (by simp) (W.par0 ?_));dsimp only;rw [two_cells];generalize hm:s.h.length=m;have c1:(s.h++ [O.cell (some (.ref R)),.cell (some (.int p))])[m]? =some (.cell (some (.ref R))):=by subst hm;simp
  have c2:(s.h++ [O.cell (some (.ref R)),.cell (some (.int p))])[m+1]? =some (.cell (some (.int p))):=by subst hm;simp
  have X1:Rows (s.h++ [O.cell (some (.ref R)),.cell (some (.int p))]) R rs:=X.pre (Pre.app _ _);have p1:Pre s.h (s.h++ [O.cell (some (.ref R)),.cell (some (.int p))]):=Pre.app _ _;generalize (s.h++ [O.cell (some (.ref R)),.cell (some (.int p))])=h1 at c1 c2 X1 p1 ⊢;refine W.stC (W.s_ (W.cG (by rfl) ((W.cg_ (cells:=_) (fun c=>decide (c.par=p)) (fun c=> .int (sg_ rs k c.place)) rfl rfl rfl X1 (W.cI c1 ⟨rfl,rfl⟩) ?_ ?_ ?_))))
  ·intro c hc h lo hp hlo;refine W.test1 (W.t_ rfl (W.r_ (X1.pre hp) (ro_ X.pnd hc) (j:=0) ⟨by decide,by decide⟩ rfl (W.cI (hp.get c1) ⟨rfl,rfl,W.lo hlo ⟨rfl,rfl,W.c_ rfl ⟨rfl,rfl,W.cI (hp.get c2) ?_⟩⟩⟩)));exact W.p_ (a:=decide (c.par=p)) (fun _=>rfl) ⟨rfl,Pre.refl _,rfl⟩
  ·intro c hc hg h lo hp hlo;refine W.cG (by rfl) ((W.cI (hp.get c1) (W.lo hlo ⟨rfl,?_⟩)));exact share_W k (X1.pre hp) (hd c hc (by simpa using hg)) (ro_ X.pnd hc) fun h2 p2=>⟨rfl,p2,rfl⟩
  ·intro h acc hp ha hacc;refine ⟨rfl,W.bi (W.sumL (xs:=(rs.filter fun c=>decide (c.par=p)).map fun c=>sg_ rs k c.place) (by rw [List.map_map];exact hacc) ?_)⟩;refine W.p_ (fun _=>rfl) (W.r_ (X1.pre hp) hr (j:=3) ⟨by decide,by decide⟩ rfl (W.lo rfl ⟨rfl,rfl,W.lo rfl ⟨rfl,rfl,W.c_ rfl ⟨rfl,rfl,⟨rfl,W.bi (W.p_ (fun _=>rfl) ?_)⟩⟩⟩⟩));have e:sg_ rs (k+1) p=max (r.used+((rs.filter fun c=>decide (c.par=p)).map fun c=>sg_ rs k c.place).sum) r.res:=by
    rw [sg_,hr]
   rw [e] at q;exact q h (p1.trans hp)
end
end
section
theorem fm_congr{α β:Type}{f g:α->Option β}:∀ l:List α,(∀ a∈l,f a=g a)->l.filterMap f=l.filterMap g
 | [],_=>rfl
 | a::r,h=>by rw [List.filterMap_cons,List.filterMap_cons,h a (.head _),fm_congr r fun b hb=>h b (.tail _ hb)]
theorem pick_take{vs:List V}{k:Nat}:pickV vs none (some (k:Int)) none=vs.take k:=by
 unfold pickV;rw [sliceBounds_plain];dsimp only [Option.elim];rw [sliceRange_one];have e:clipAt vs.length (k:Int)=min k vs.length:=by unfold clipAt;omega
 rw [e];have:=range_pick vs (min k vs.length) 0 (by omega);rw [Nat.sub_zero,this,List.drop_zero];by_cases h:k<=vs.length
 ·rw [Nat.min_eq_left h]
 ·rw [Nat.min_eq_right (by omega),List.take_of_length_le (Nat.le_refl _),List.take_of_length_le (by omega)]
theorem pick_last{vs:List V}:pickV vs none (some (-1)) none=vs.dropLast:=by
 unfold pickV;rw [sliceBounds_plain];dsimp only [Option.elim];rw [sliceRange_one];have e:clipAt vs.length (-1)=vs.length - 1:=by unfold clipAt;omega
 rw [e];have:=range_pick vs (vs.length - 1) 0 (by omega);rw [Nat.sub_zero,this,List.drop_zero,List.dropLast_eq_take]
theorem pick_rev{vs:List V}:pickV vs none none (some (-1))=vs.reverse:=by
 unfold pickV;rw [krv_bounds];dsimp only;rw [krv_sliceRange];refine List.ext_getElem? fun i=>?_;have e:((List.range vs.length).map fun k=>vs.length - 1 - k).filterMap (vs[·]?)=(List.range vs.length).map fun k=>(vs[vs.length - 1 - k]?).getD .none:=by
  rw [List.filterMap_map,<-List.filterMap_eq_map];refine fm_congr _ fun k hk=>?_;have hk:k < vs.length:=by simpa using hk
  simp only [Function.comp];rw [List.getElem?_eq_getElem (by omega)];rfl
 rw [e,List.getElem?_map];by_cases hi:i < vs.length
 ·rw [List.getElem?_range hi,List.getElem?_reverse hi,Option.map_some,List.getElem?_eq_getElem (by omega)];rfl
 ·rw [List.getElem?_eq_none (by simp;omega),List.getElem?_eq_none (by simp;omega)];rfl
def pd_(rs:List Rw)(k:Nat)(p:Int):List Str:=((upR rs k p).dropLast.reverse).map fun c=>((rwAt rs c).map (·.name)).getD ""
theorem upR_ok{rs:List Rw}:∀ (k:Nat) (p:Int),∀ c∈upR rs k p,∃ r,rwAt rs c=some r
 | 0,p,c,h=>by cases h
 | k+1,p,c,h=>by
  have un:upR rs (k+1) p=if p=0 then [] else match rwAt rs p with
    | some r=>p::upR rs k r.par
    | none=> []:=rfl
  rw [un] at h;by_cases hz:p=0
  ·rw [if_pos hz] at h;cases h
  ·rw [if_neg hz] at h;cases hr:rwAt rs p with
   | none=>rw [hr] at h;cases h
   | some r=>
    rw [hr] at h;rcases List.mem_cons.mp h with h | h
    ·exact ⟨r,h▸hr⟩
    ·exact upR_ok k r.par c h
theorem upR_len{rs:List Rw}:∀ (k:Nat) (p:Int),(upR rs k p).length<=k
 | 0,p=>Nat.le_refl _
 | k+1,p=>by
  have un:upR rs (k+1) p=if p=0 then [] else match rwAt rs p with
    | some r=>p::upR rs k r.par
    | none=> []:=rfl
  rw [un];split
  ·simp
  ·split
   ·rename_i r hr;have:=upR_len (rs:=rs) k r.par;simp;exact this
   ·simp
variable {w:World}
section
variable {s:S} {R:Nat} {rs:List Rw} {d:Nat} {E:Addr->S->Prop}
theorem below_W(X:Rows s.h R rs){k:Nat}{p:Int}(hd:∀ c∈rs,c.par=p->Deep rs k c.place){Q:V->S->Prop}(q:∀ h,Pre s.h h->Q (.int (belowR rs k p)) {h:=h,l:=s.l}):
  W (pg w) (fun F=>F.call (.glob 446) [.ref R,.int p] (d+2*k+1)) Q E s:=by
 refine W.fnK (P:=pg w) (d:=d+2*k) rfl (hK:=by rfl) (hb:=rfl) (hf:=rfl) (hok:=by rfl) (hs:=rfl) (lq:=none) (hq:=by rfl) (hbs:=rfl) (hc:=rfl) ?_;dsimp only;have hpl:(s.h++ [O.cell none]).length=s.h.length+1:=by simp
 rw [hpl];refine W.parC (w:=none) rfl rfl (by simp) (W.parC (w:=none) rfl rfl (by simp) (W.par0 ?_));dsimp only;rw [two_cells];generalize hm:s.h.length=m;have c1:(s.h++ [O.cell (some (.ref R)),.cell (some (.int p))])[m]? =some (.cell (some (.ref R))):=by subst hm;simp
 have c2:(s.h++ [O.cell (some (.ref R)),.cell (some (.int p))])[m+1]? =some (.cell (some (.int p))):=by subst hm;simp
 have X1:Rows (s.h++ [O.cell (some (.ref R)),.cell (some (.int p))]) R rs:=X.pre (Pre.app _ _);have p1:Pre s.h (s.h++ [O.cell (some (.ref R)),.cell (some (.int p))]):=Pre.app _ _;generalize (s.h++ [O.cell (some (.ref R)),.cell (some (.int p))])=h1 at c1 c2 X1 p1 ⊢;refine W.stC (W.s_ (W.cG (by rfl) ((W.cg_ (cells:=_) (fun c=>decide (c.par=p)) (fun c=> .int (sg_ rs k c.place)) rfl rfl rfl X1 (W.cI c1 ⟨rfl,rfl⟩) ?_ ?_ ?_))))
 ·intro c hc h lo hp hlo;refine W.test1 (W.t_ rfl (W.r_ (X1.pre hp) (ro_ X.pnd hc) (j:=0) ⟨by decide,by decide⟩ rfl (W.cI (hp.get c1) ⟨rfl,rfl,W.lo hlo ⟨rfl,rfl,W.c_ rfl ⟨rfl,rfl,W.cI (hp.get c2) ?_⟩⟩⟩)));exact W.p_ (a:=decide (c.par=p)) (fun _=>rfl) ⟨rfl,Pre.refl _,rfl⟩
 ·intro c hc hg h lo hp hlo;refine W.cG (by rfl) ((W.cI (hp.get c1) (W.lo hlo ⟨rfl,?_⟩)));exact share_W k (X1.pre hp) (hd c hc (by simpa using hg)) (ro_ X.pnd hc) fun h2 p2=>⟨rfl,p2,rfl⟩
 ·intro h acc hp ha hacc;exact ⟨rfl,W.bi (W.sumL (xs:=(rs.filter fun c:Rw=>decide (c.par=p)).map fun c:Rw=>sg_ rs k c.place) (by rw [List.map_map];exact hacc) (q h (p1.trans hp)))⟩
theorem law_path_W(X:Rows s.h R rs){p:Int}{k:Nat}(hu:ClimbR rs k p)(hk:k<=900)(hj:((pd_ rs k p).map (·.length)).sum+(pd_ rs k p).length<=1048576){Q:V->S->Prop}(q:∀ h,Pre s.h h->Q (.str (Txt.join "/" (pd_ rs k p))) {h:=h,l:=s.l}):
  W (pg w) (fun F=>F.call (.glob 458) [.ref R,.int p] (d+2)) Q E s:=by
 refine W.fnK (P:=pg w) rfl (hK:=by rfl) (hb:=rfl) (hf:=rfl) (hok:=by rfl) (hs:=rfl) (lq:=none) (hq:=by rfl) (hbs:=rfl) (hc:=rfl) ?_;dsimp only;refine W.parC (w:=none) rfl rfl (by simp) (W.parL rfl (W.par0 ?_));dsimp only;refine W.heap (h':=s.h++ [.cell (some (.ref R))]) (by simp) ?_;dsimp only;generalize hm:s.h.length=m;have c1:(s.h++ [O.cell (some (.ref R))])[m]? =some (.cell (some (.ref R))):=by subst hm;simp
 have X1:Rows (s.h++ [O.cell (some (.ref R))]) R rs:=X.pre (Pre.app _ _);have p1:Pre s.h (s.h++ [O.cell (some (.ref R))]):=Pre.app _ _;generalize (s.h++ [O.cell (some (.ref R))])=h1 at c1 X1 p1 ⊢;have hlen:=upR_len (rs:=rs) k p;refine W.stC (W.s_ (W.cc_ rfl rfl rfl (W.c_ rfl (W.p_ (fun _=>rfl) (W.compL (cells:=_) rfl rfl rfl (W.slice (W.slice (W.cG (by rfl) ((W.cI c1 (W.lo rfl ⟨rfl,?_⟩)))))))))));refine law_up_W X1 hu (by omega) fun h2 r2 p2 hr2 hl2=>?_;refine W.optN (W.optS (W.neg (W.c_ rfl ⟨1,rfl,W.optN (W.cutL (ws:=((upR rs k p).dropLast).map V.int) rfl rfl rfl hl2 ⟨by decide,by rw [List.length_map];omega⟩ (by show pickV _ none (some (-1)) none=_;rw [pick_last,List.map_dropLast]) ?_)⟩)));refine W.optN (W.optN (W.optS (W.neg (W.c_ rfl ⟨1,rfl,W.cutL (ws:=((upR rs k p).dropLast.reverse).map V.int) rfl rfl rfl gn_ ⟨by decide,by rw [List.length_map,List.length_dropLast];omega⟩ (by show pickV _ none none (some (-1))=_;rw [pick_rev,List.map_reverse]) ?_⟩))));refine ⟨_,((upR rs k p).dropLast.reverse).map V.int,onRow rs (fun r=> .str r.name) .none,fun _=>true,rfl,gn_,by rw [List.length_map,List.length_reverse,List.length_dropLast];omega,?_,?_,?_⟩
 ·intro v hv h lo hp hlo;exact W.test0 ⟨rfl,Pre.refl _,rfl⟩
 ·intro v hv _ h lo hp hlo;obtain ⟨c,hc,rfl⟩:=List.mem_map.mp hv;obtain ⟨r,hr⟩:=upR_ok (rs:=rs) k p c ((List.dropLast_sublist _).subset (List.mem_reverse.mp hc));have p3:Pre h1 h:=(p2.trans ((Pre.app _ _).trans (Pre.app _ _))).trans hp;refine W.r_ (X1.pre p3) hr (j:=1) ⟨by decide,by decide⟩ rfl (W.cI (p3.get c1) ⟨rfl,rfl,W.lo hlo ⟨rfl,rfl,W.c_ rfl ⟨rfl,rfl,?_,Pre.refl _,rfl⟩⟩⟩);unfold onRow;dsimp only;rw [hr]
 ·intro h acc hp ha hacc;have e9:List.map (onRow rs (fun r=>V.str r.name) .none) (List.filter (fun _=>true) (((upR rs k p).dropLast.reverse).map V.int))=(pd_ rs k p).map V.str:=by
   rw [List.filter_eq_self.mpr (fun _ _=>rfl),List.map_map];unfold pd_;rw [List.map_map];refine List.map_congr_left fun c hc=>?_;obtain ⟨r,hr⟩:=upR_ok (rs:=rs) k p c ((List.dropLast_sublist _).subset (List.mem_reverse.mp hc));simp only [Function.comp,onRow,hr];rfl
  rw [e9] at hacc;refine ⟨rfl,W.bi (W.joinS hacc ⟨by decide,hj⟩ (q h ((p1.trans (p2.trans ((Pre.app _ _).trans (Pre.app _ _)))).trans hp)))⟩
theorem li_{x:Str}(hz:x.cps.size<=1000){Q:V->S->Prop}(q:∀ h,Pre s.h h->Q (.bool (o_ x)) {h:=h,l:=s.l}):
  W (pg w) (fun F=>F.call (.glob 434) [.str x] (d+1)) Q E s:=by
 have hl:x.length<=1000:=hz;refine W.f (P:=pg w) rfl ?_;dsimp only;refine W.stC (W.s_ (W.and (W.cmp2 rfl (W.c_ rfl (W.cG (by rfl) ((W.lo rfl ⟨rfl,W.bi (W.lenS (by omega) (W.p_ (fun _=>rfl) ?_))⟩)))))));cases h1:decide (1<=(x.length:Int)) with
 | false=>
  have:o_ x=false:=by unfold o_;rw [h1];rfl
  rw [this] at q;exact W.pure (q _ (Pre.refl _))
 | true=>
  refine W.c_ rfl (W.p_ (fun _=>rfl) ?_);have e12:decide ((x.length:Int)<=12)=decide ((x.length:Int)<=12):=rfl;cases h2:decide ((x.length:Int)<=12) with
  | false=>
   have:o_ x=false:=by unfold o_;rw [h1,h2];rfl
   rw [this] at q;exact W.pure (q _ (Pre.refl _))
  | true=>
   refine W.pure ?_;refine W.boolA (W.cG (by rfl) ((W.compS (cells:= []) rfl rfl rfl (W.lo rfl ⟨x,fun v=>match v with | .str l=> .bool (Txt.contains LETS l) | v=>v,fun _=>true,rfl,hz,⟨?_,?_⟩,?_⟩))))
   ·intro v hv h lo hp hlo;exact W.test0 ⟨rfl,Pre.refl _,rfl⟩
   ·intro v hv _ h lo hp hlo;obtain ⟨c,hc,rfl⟩:=List.mem_map.mp hv;exact W.cmp1 rfl (W.lo hlo (W.c_ rfl (W.p_ (fun _=>rfl) ⟨rfl,Pre.refl _,rfl⟩)))
   ·intro h acc hp ha hacc;refine ⟨rfl,W.bi (W.allL (bs:=x.cps.toList.map fun c=>Txt.contains LETS ⟨#[c]⟩) ?_ (W.pure ?_))⟩
    ·rw [hacc,List.filter_eq_self.mpr (fun _ _=>rfl),List.map_map,List.map_map];rfl
    have h3':((x.cps.toList.map fun c=>Txt.contains LETS ⟨#[c]⟩).all fun b=>b)=lettersOk x:=rfl;rw [h3'];cases h3:lettersOk x with
    | false=>
     have:o_ x=false:=by unfold o_;rw [h3];simp
     rw [this] at q;exact q _ hp
    | true=>
     refine W.bool1 (W.cmp1 rfl (W.lo rfl (W.tuple rfl rfl (W.c_ rfl (W.c_ rfl (W.notInT gn_ (b:=decide ("."=x) || (decide (".."=x) || false)) rfl ?_))))));have:o_ x= !(decide ("."=x) || (decide (".."=x) || false)):=by unfold o_;rw [h1,h2,h3];rfl
     rw [this] at q;exact q _ (hp.trans (Pre.app _ _))
end
end
section
def takenR(rs:List Rw)(p:Int)(x:Str):Bool:=rs.any fun c=>decide (c.par=p) && decide (c.name=x)
theorem filter_any{α β:Type}(g:α->Bool)(f:α->β):∀ l:List α,(!((l.filter g).map f).isEmpty)=l.any g
 | []=>rfl
 | a::t=>by
  rw [List.filter_cons,List.any_cons];by_cases hg:g a=true
  ·rw [if_pos hg,hg];rfl
  ·rw [if_neg hg,Bool.eq_false_iff.mpr hg,Bool.false_or];exact filter_any g f t
def lawNames:List Str:= ["a","b","c","a-1","z_9.x","A","",".","..","abcdefghijklm","a b","abcdefghijkl"]
theorem three_cells{h:List O}{a b c:V}:(((h++ [O.cell none]++ [O.cell none]++ [O.cell none]).set h.length (.cell (some a))).set (h.length+1) (.cell (some b))).set (h.length+2) (.cell (some c))=h++ [O.cell (some a),O.cell (some b),O.cell (some c)]:=by simp
def heardName(C:Addr):Option Str:=if C=75 then some "Busy" else if C=63 then some "Exists" else if C=99 then some "InvalidName" else if C=111 then some "InvalidPath" else if C=51 then some "Missing" else none
variable {w:World}
section
variable {s:S} {R:Nat} {rs:List Rw} {d:Nat} {E:Addr->S->Prop}
theorem lt_(X:Rows s.h R rs){p:Int}{x:Str}{Q:V->S->Prop}(q:∀ h,Pre s.h h->Q (.bool (takenR rs p x)) {h:=h,l:=s.l}):
  W (pg w) (fun F=>F.call (.glob 468) [.ref R,.int p,.str x] (d+1)) Q E s:=by
 refine W.fnK (P:=pg w) rfl (hK:=by rfl) (hb:=rfl) (hf:=rfl) (hok:=by rfl) (hs:=rfl) (lq:=none) (hq:=by rfl) (hbs:=rfl) (hc:=rfl) ?_;dsimp only;have hpl:(s.h++ [O.cell none]).length=s.h.length+1:=by simp
 have hpl2:(s.h++ [O.cell none]++ [O.cell none]).length=s.h.length+2:=by simp
 rw [hpl,hpl2];refine W.parC (w:=none) rfl rfl (by simp) (W.parC (w:=none) rfl rfl (by simp) (W.parC (w:=none) rfl rfl (by simp) (W.par0 ?_)));dsimp only;rw [three_cells];generalize hm:s.h.length=m;have c1:(s.h++ [O.cell (some (.ref R)),O.cell (some (.int p)),O.cell (some (.str x))])[m]? =some (.cell (some (.ref R))):=by subst hm;simp
 have c2:(s.h++ [O.cell (some (.ref R)),O.cell (some (.int p)),O.cell (some (.str x))])[m+1]? =some (.cell (some (.int p))):=by subst hm;simp
 have c3:(s.h++ [O.cell (some (.ref R)),O.cell (some (.int p)),O.cell (some (.str x))])[m+2]? =some (.cell (some (.str x))):=by subst hm;simp
 have p1:Pre s.h (s.h++ [O.cell (some (.ref R)),O.cell (some (.int p)),O.cell (some (.str x))]):=Pre.app _ _;generalize (s.h++ [O.cell (some (.ref R)),O.cell (some (.int p)),O.cell (some (.str x))])=h1 at c1 c2 c3 p1 ⊢;have X1:=X.pre p1;refine W.stC (W.s_ (W.cmp1 rfl (W.cg_ (cells:=_) (fun c=>decide (c.par=p) && decide (c.name=x)) (fun c=> .int c.place) rfl rfl rfl X1 (W.cI c1 ⟨rfl,rfl⟩) ?_ ?_ ?_)))
 ·intro c hc h lo hp hlo;refine W.test1 (W.trAnd (W.allC (W.t_ rfl (W.r_ (X1.pre hp) (ro_ X.pnd hc) (j:=0) ⟨by decide,by decide⟩ rfl (W.cI (hp.get c1) ⟨rfl,rfl,W.lo hlo ⟨rfl,rfl,W.c_ rfl ⟨rfl,rfl,W.cI (hp.get c2) ?_⟩⟩⟩)))));refine W.p_ (a:=decide (c.par=p)) (fun _=>rfl) ?_;cases hcp:decide (c.par=p) with
  | false=>exact ⟨rfl,Pre.refl _,rfl⟩
  | true=>
   refine W.allC (W.t_ rfl (W.r_ (X1.pre hp) (ro_ X.pnd hc) (j:=1) ⟨by decide,by decide⟩ rfl (W.cI (hp.get c1) ⟨rfl,rfl,W.lo hlo ⟨rfl,rfl,W.c_ rfl ⟨rfl,rfl,W.cI (hp.get c3) ?_⟩⟩⟩)));refine W.p_ (a:=decide (c.name=x)) (fun _=>rfl) ?_;cases hcx:decide (c.name=x) with
   | false=>exact ⟨rfl,Pre.refl _,rfl⟩
   | true=>exact W.all0 ⟨rfl,Pre.refl _,rfl⟩
 ·intro c hc hg h lo hp hlo;exact W.lo hlo ⟨rfl,Pre.refl _,rfl⟩
 ·intro h acc hp ha hacc;refine W.list rfl rfl (W.neNil (ga_ hacc) gn_ ?_);have q2:=q _ (p1.trans (hp.trans (Pre.app _ [O.list []])));unfold takenR at q2;rw [<-filter_any _ (fun c:Rw=>V.int c.place)] at q2;exact q2
theorem law_names_W{Q:V->S->Prop}(q:∀ h r,Pre s.h h->h[r]? =some (.list (lawNames.map V.str))->Q (.ref r) {h:=h,l:=s.l}):
  W (pg w) (fun F=>F.call (.glob 422) [] (d+1)) Q E s:=by
 refine W.f (P:=pg w) rfl ?_;dsimp only;refine W.stC (W.s_ (W.list rfl rfl ?_));iterate 12 (refine W.c_ rfl ?_)
 exact q _ _ (Pre.app _ _) gn_
theorem lh_{n:Nat}{b:Expr}{sc:Scope}{ce:List (Str×Nat)}(hn:s.h[n]? =some (.lam b sc ce)){Qv:V->List O->Prop}{Ec:Addr->List O->Prop}
  (hcall:∀ lo,W (pg w) (fun F=>F.call (.ref n) [] d) (fun v s1=>Qv v s1.h/\s1.l=lo) (fun C s1=>Ec C s1.h) {h:=s.h,l:=lo}) {Q:V->S->Prop}
  (q:∀ v h,Qv v h->Q (.ref h.length) {h:=h++ [.tup [.str "told",v]],l:=s.l}) (e:∀ C h,Ec C h->∃ nm,heardName C=some nm/\Q (.ref h.length) {h:=h++ [.tup [.str nm,.int 0]],l:=s.l}):
  W (pg w) (fun F=>F.call (.glob 429) [.ref n] (d+1)) Q E s:=by
 refine W.f (P:=pg w) rfl ?_;dsimp only;refine W.stC (W.sTry rfl (W.stC (W.s_ (W.tuple rfl rfl (W.c_ rfl (W.callN (by intros;simp) rfl rfl (W.lo rfl ⟨?_,?_⟩)))))))
 ·show M.bind (Mine.geto n) _ _=_;unfold M.bind Mine.geto;rw [hn];rfl
 refine (hcall _).mono (fun v s1 ⟨h1,h2⟩=>?_) (fun C s1 h1=>?_)
 ·exact q v s1.h h1
 ·obtain ⟨nm,h2,h3⟩:=e C s1.h h1;refine ⟨.str nm,.int 0,?_,h3⟩;unfold heardName at h2;split at h2
  ·rename_i hC;subst hC;cases h2;rfl
  split at h2
  ·rename_i hC;subst hC;cases h2;rfl
  split at h2
  ·rename_i hC;subst hC;cases h2;rfl
  split at h2
  ·rename_i hC;subst hC;cases h2;rfl
  split at h2
  ·rename_i hC;subst hC;cases h2;rfl
  ·cases h2
end
end
section
def Tups(h:List O):List V->List (List V)->Prop
 | [],[]=>True
 | y::ys,t::ts=>(∃ a,y= .ref a/\h[a]? =some (.tup t))/\Tups h ys ts
 | _,_=>False
theorem Tups.pre{h h':List O}(p:Pre h h'):∀ {ys:List V} {ts:List (List V)},Tups h ys ts->Tups h' ys ts
 | [],[],_=>trivial
 | _::_,_::_,⟨⟨a,e,g⟩,r⟩=>⟨⟨a,e,p.get g⟩,Tups.pre p r⟩
 | [],_::_,h=>h.elim
 | _::_,[],h=>h.elim
theorem Tups.set{h:List O}{n:Nat}{o:O}(hn:∀ t,h[n]? ≠some (.tup t)):∀ {ys:List V} {ts:List (List V)},Tups h ys ts->Tups (h.set n o) ys ts
 | [],[],_=>trivial
 | _::_,t::_,⟨⟨a,e,g⟩,r⟩=>⟨⟨a,e,gb_ (fun z=>hn t (z▸g)) g⟩,Tups.set hn r⟩
 | [],_::_,h=>h.elim
 | _::_,[],h=>h.elim
theorem Tups.snoc{h:List O}{y:V}{t:List V}(k:∃ a,y= .ref a/\h[a]? =some (.tup t)):∀ {ys:List V} {ts:List (List V)},Tups h ys ts->Tups h (ys++ [y]) (ts++ [t])
 | [],[],_=>⟨k,trivial⟩
 | _::_,_::_,⟨a,r⟩=>⟨a,Tups.snoc k r⟩
 | [],_::_,h=>h.elim
 | _::_,[],h=>h.elim
theorem Tups.length{h:List O}:∀ {ys:List V} {ts:List (List V)},Tups h ys ts->ys.length=ts.length
 | [],[],_=>rfl
 | _::_,_::_,⟨_,r⟩=>congrArg (· +1) r.length
 | [],_::_,h=>h.elim
 | _::_,[],h=>h.elim
section
variable {P:Prg} {E:Addr->S->Prop} {s:S} {ρ:Ev}
theorem W.coRowsT{x:Str}{p:Pos}{elt:Expr}{ifs:List Expr}{it acc R k:Nat}{h0:List O}{rs:List Rw}(g:Rw->Bool)(tf:Rw->List V)(hx:ρ.scope.names.lookup x=some .local)(X:Rows h0 R rs)(hk:h0[R]? =some (.dict (ra_ rs) k))(hi:h0.length<=it)(ha:h0.length<=acc)(hne:it≠acc)
  (test:∀ r∈rs,∀ h lo,Pre h0 h->lo.lookup x=some (.int r.place)->W P (fun F=>tc_ F ρ ifs) (fun b s'=>b=g r/\Pre h s'.h/\s'.l=lo) (fun _ _=>False) {h:=h,l:=lo})
  (el:∀ r∈rs,g r=true->∀ h lo,Pre h0 h->lo.lookup x=some (.int r.place)->W P (fun F=>F.ev elt ρ) (fun y s'=>(∃ a,y= .ref a/\s'.h[a]? =some (.tup (tf r)))/\Pre h s'.h/\s'.l=lo) (fun _ _=>False) {h:=h,l:=lo}):
  ∀ (m i:Nat) (s:S) (ys:List V),i+m=rs.length->Pre h0 s.h->s.h[it]? =some (.itD R i rs.length k)->s.h[acc]? =some (.list ys)->Tups s.h ys (((rs.take i).filter g).map tf)->
   W P (fun F=>F.co (.Name x p) elt ifs it acc ρ) (fun _ s'=>Pre h0 s'.h/\∃ ys,s'.h[acc]? =some (.list ys)/\Tups s'.h ys ((rs.filter g).map tf)) (fun _ _=>False) s
 | 0,i,s,ys,hm,hp,h1,h2,h3=>by
  have hi':i=rs.length:=by omega
  subst hi';have e0:(ra_ rs).length=rs.length:=by simp
  refine W.coT (W.nextD (es:=ra_ rs) (n:=k) (by rw [e0];exact h1) (hp.get hk) (ri_ rs) (fun e he=>by rw [List.getElem?_eq_none (by rw [e0];exact Nat.le_refl _)] at he;cases he) fun _=>⟨hp.set hi,ys,gb_ hne h2,?_⟩);rw [List.take_length] at h3;exact h3.set fun t z=>by rw [h1] at z;cases z
 | m+1,i,s,ys,hm,hp,h1,h2,h3=>by
  have e0:(ra_ rs).length=rs.length:=by simp
  refine W.coT (W.nextD (es:=ra_ rs) (n:=k) (by rw [e0];exact h1) (hp.get hk) (ri_ rs) (fun e he=>?_) fun hl=>by rw [e0] at hl;omega);have hlt:i < rs.length:=by omega
  have he2:e=(.int rs[i].place,.ref rs[i].rr):=by
   rw [List.getElem?_map,List.getElem?_eq_getElem hlt] at he;exact (Option.some.inj he).symm
  have hmem:rs[i]∈rs:=List.getElem_mem hlt;have htk:rs.take (i+1)=rs.take i++ [rs[i]]:=by rw [List.take_add_one,List.getElem?_eq_getElem hlt];rfl
  rw [e0];subst he2;generalize hr:rs[i]=r at hmem htk;have hp1:Pre h0 (s.h.set it (.itD R (i+1) rs.length k)):=hp.set hi;refine W.own0 (W.asN hx ((test r hmem _ _ hp1 (lp_ _)).post fun b s2 ⟨hb,hp2,hl2⟩=>?_));have e1:=hp2.get (ge_ (p:= .itD R (i+1) rs.length k) h1);have e2:=hp2.get (gb_ (p:= .itD R (i+1) rs.length k) hne h2);have hp3:=hp1.trans hp2;have h3':Tups s2.h ys (((rs.take i).filter g).map tf):=(h3.set (o:= .itD R (i+1) rs.length k) fun t z=>by rw [h1] at z;cases z).pre hp2;subst hb;cases hg:g r with
  | false=>
   refine W.coRowsT g tf hx X hk hi ha hne test el m (i+1) s2 ys (by omega) hp3 e1 e2 ?_;rw [htk,List.filter_append,List.filter_cons,hg];simpa using h3'
  | true=>
   rw [if_pos rfl];refine (W.heap (s:=s2) rfl ?_);rw [hl2];refine (el r hmem hg s2.h _ hp3 (lp_ _)).post fun y s3 ⟨hy,hp4,hl3⟩=>?_;have h4:=h3'.pre hp4;have hlen:=h4.length;refine W.appendB (hp4.get e2) ?_ ?_
   ·refine decide_eq_true (Nat.lt_of_le_of_lt (m:=40) ?_ (by decide));rw [hlen,List.length_map];exact Nat.le_trans (List.length_filter_le _ _) (Nat.le_trans (List.length_take_le' _ _) X.len)
   ·refine W.coRowsT g tf hx X hk hi ha hne test el m (i+1) _ (ys++ [y]) (by omega) ((hp3.trans hp4).set ha) (gb_ (Ne.symm hne) (hp4.get e1)) (ge_ (hp4.get e2)) ?_;rw [htk,List.filter_append,List.filter_cons,hg,List.map_append];have h5:Tups s3.h (ys++ [y]) (((rs.take i).filter g).map tf++ [tf r]):=h4.snoc hy;exact h5.set fun t z=>by rw [hp4.get e2] at z;cases z
theorem W.compRowsT{x:Str}{px p:Pos}{elt iter:Expr}{ifs:List Expr}{scope:Scope}{cells:List (Str×Nat)}{R:Nat}{rs:List Rw}(g:Rw->Bool)(tf:Rw->List V){Q:V->S->Prop}(hc:cf_ ρ scope.names [] s=some (.ok cells,s))(hk:(compOk scope && nb_ iter)=true)(hx:(cb_ ρ scope).names.lookup x=some .local)(X:Rows s.h R rs)
  (hi:W P (fun F=>F.ev iter ρ) (fun v s1=>v= .ref R/\s1=s) E s)
  (ht:∀ r∈rs,∀ h lo,Pre s.h h->lo.lookup x=some (.int r.place)->W P (fun F=>tc_ F {scope:=cb_ ρ scope,cells,d:=ρ.d} ifs) (fun b s'=>b=g r/\Pre h s'.h/\s'.l=lo) (fun _ _=>False) {h:=h,l:=lo})
  (he:∀ r∈rs,g r=true->∀ h lo,Pre s.h h->lo.lookup x=some (.int r.place)->W P (fun F=>F.ev elt {scope:=cb_ ρ scope,cells,d:=ρ.d}) (fun y s'=>(∃ a,y= .ref a/\s'.h[a]? =some (.tup (tf r)))/\Pre h s'.h/\s'.l=lo) (fun _ _=>False) {h:=h,l:=lo})
  (q:∀ h acc ys,Pre s.h h->s.h.length<=acc->h[acc]? =some (.list ys)->Tups h ys ((rs.filter g).map tf)->Q (.ref acc) {h:=h,l:=s.l}):
  W P (fun F=>F.ev (.ListComp elt [⟨.Name x px,iter,ifs,0⟩] scope p) ρ) Q E s:=by
 obtain ⟨k,e⟩:=X.dict;refine W.comp hc hk (hi.post fun v s1 ⟨hv,hs⟩=>?_);subst hv;rw [hs];refine W.iterD e (ri_ rs) ?_;have e0:(ra_ rs).length=rs.length:=by simp
 rw [e0];have hlen:(s.h++ [O.itD R 0 rs.length k]).length=s.h.length+1:=by simp
 refine (W.coRowsT (h0:=s.h) (R:=R) (k:=k) g tf hx X e (Nat.le_refl _) (by dsimp only;omega) (by dsimp only;omega) ht he rs.length 0 _ [] (by omega) ((Pre.app _ _).trans (Pre.app _ _)) (ga_ gn_) (by simpa using gn_) trivial).post fun _ s3 ⟨h1,ys,h2,h3⟩=>?_;exact q s3.h _ ys h1 (by dsimp only;omega) h2 h3
end
def plt(a b:Str×Int):Bool:=sd_ a.1 b.1 || (decide (a.1=b.1) && decide (a.2 < b.2))
def kb_(rs:List Rw)(p:Int):List (Str×Int):=sa_ plt ((rs.filter fun c=>decide (c.par=p)).map fun c=>(c.name,c.place))
def allR(rs:List Rw):Nat->Int->List Int
 | 0,_=> []
 | k+1,p=>p::(kb_ rs p).flatMap fun e=>allR rs k e.2
theorem insBy_map{α β:Type}(f:α->β)(lt:β->β->Bool)(x:α):∀ l:List α,(ib_ (fun a b=>lt (f a) (f b)) x l).map f=ib_ lt (f x) (l.map f)
 | []=>rfl
 | y::r=>by
  rw [List.map_cons];show (if lt (f y) (f x)=true then y::ib_ (fun a b=>lt (f a) (f b)) x r else x::y::r).map f=(if lt (f y) (f x)=true then f y::ib_ lt (f x) (r.map f) else f x::f y::r.map f);by_cases h:lt (f y) (f x)=true
  ·rw [if_pos h,if_pos h,List.map_cons,insBy_map f lt x r]
  ·rw [if_neg h,if_neg h];rfl
theorem sortBy_map{α β:Type}(f:α->β)(lt:β->β->Bool):∀ l:List α,(sa_ (fun a b=>lt (f a) (f b)) l).map f=sa_ lt (l.map f)
 | []=>rfl
 | x::r=>by rw [sa_,insBy_map,sortBy_map f lt r,List.map_cons,sa_]
theorem pairLt_plt:pa_=fun a b=>plt a.2 b.2:=rfl
theorem pairs_of{h:List O}:∀ {ys:List V} {l:List (Str×Int)},Tups h ys (l.map fun e=> [.str e.1,.int e.2])->pc_ h ys=some (ys.zip l)
 | [],[],_=>rfl
 | y::ys,e::l,⟨⟨a,e1,e2⟩,r⟩=>by
  subst e1;have e3:pairAt h (.ref a)=some (e.1,e.2):=by
   show (match h[a]? with | some (O.tup [V.str s,V.int i])=>some (s,i) | _=>none)=_;rw [e2]
  show (match pairAt h (.ref a),pc_ h ys with | some p,some l=>some ((V.ref a,p)::l) | _,_=>none)=_;rw [e3,pairs_of r];rfl
 | [],_::_,h=>h.elim
 | _::_,[],h=>h.elim
theorem Tups.get{h:List O}:∀ {ys:List V} {l:List (Str×Int)},Tups h ys (l.map fun e=> [.str e.1,.int e.2])->∀ z∈ys.zip l,∃ a,z.1= .ref a/\h[a]? =some (.tup [.str z.2.1,.int z.2.2])
 | [],[],_,_,hz=>by cases hz
 | y::ys,e::l,⟨k,r⟩,z,hz=>by
  rw [List.zip_cons_cons] at hz;rcases List.mem_cons.mp hz with hz | hz
  ·subst hz;exact k
  ·exact Tups.get r z hz
 | [],_::_,h,_,_=>h.elim
 | _::_,[],h,_,_=>h.elim
theorem Tups.of{h:List O}:∀ {zs:List (V×Str×Int)},(∀ z∈zs,∃ a,z.1= .ref a/\h[a]? =some (.tup [.str z.2.1,.int z.2.2]))->Tups h (zs.map (·.1)) ((zs.map (·.2)).map fun e=> [.str e.1,.int e.2])
 | [],_=>trivial
 | z::zs,k=>⟨k z (.head _),Tups.of fun y hy=>k y (.tail _ hy)⟩
section
variable {P:Prg} {E:Addr->S->Prop} {s:S}
theorem W.sortedT{n:Nat}{ys:List V}{l:List (Str×Int)}{Q:V->S->Prop}(hn:s.h[n]? =some (.list ys))(ht:Tups s.h ys (l.map fun e=> [.str e.1,.int e.2]))(hz:l.length < 64)(nd:l.Nodup)
  (q:∀ ys',Tups s.h ys' ((sa_ plt l).map fun e=> [.str e.1,.int e.2])->Q (.ref s.h.length) {s with h:=s.h++ [.list ys']}):W P (fun _=>cd_ "sorted" [.ref n]) Q E s:=by
 have hlen:ys.length=l.length:=by have:=ht.length;rwa [List.length_map] at this
 have hzip:(ys.zip l).map (·.2)=l:=by rw [List.map_snd_zip];omega
 refine W.gc_ hn (W.bind ?_);refine W.n_ (by rw [hlen];exact decide_eq_true hz) ?_;cases ys with
 | nil=>
  cases l with
  | nil=>exact W.p_ (a:=([]:List V)) (fun _=>rfl) (W.bind (W.alloc (W.pure (q [] trivial))))
  | cons=>simp at hlen
 | cons y ys=>
  have hs:sn_ (y::ys)=none:=by
   cases l with
   | nil=>simp at hlen
   | cons e l=>
    obtain ⟨⟨a,e1,e2⟩,r⟩:=ht;subst e1;rfl
  refine W.eq (m:=fun _=>getS >>=fun t=>Mine.opt (pc_ t.h (y::ys)) >>=fun l=>Mine.need (d_ l) >>=fun _=>Pure.pure ((sa_ pa_ l).map (·.1))) ?_ (fun F=>by
   show ((match sn_ (y::ys) with | some l=>Pure.pure l | none=>getS >>=fun t=>Mine.opt (pc_ t.h (y::ys)) >>=fun l=>Mine.need (d_ l) >>=fun _=>Pure.pure ((sa_ pa_ l).map (·.1))):M (List V)) s=_;rw [hs])
  refine W.bind (W.ret (a:=s) (s':=s) (fun _=>rfl) (W.opt (pairs_of ht) (W.n_ ?_ (W.pure (W.bind (W.alloc (W.pure ?_)))))))
  ·unfold d_;rw [hzip];exact decide_eq_true nd
  ·refine q _ ?_;have e9:(sa_ pa_ ((y::ys).zip l)).map (·.2)=sa_ plt l:=by
    rw [pairLt_plt,sortBy_map (fun z:V×Str×Int=>z.2) plt,hzip]
   rw [<-e9];exact Tups.of fun z hz=>ht.get z ((sm_ _ _ z).mp hz)
end
end
section
theorem Tups.nth{h:List O}:∀ {ys:List V} {ts:List (List V)},Tups h ys ts->∀ {i:Nat} {v:V},ys[i]? =some v->∃ t a,ts[i]? =some t/\v= .ref a/\h[a]? =some (.tup t)
 | [],_,_,i,v,e=>by simp at e
 | y::_,t::_,⟨⟨a,e1,e2⟩,_⟩,0,v,e=>by
  simp only [List.getElem?_cons_zero,Option.some.injEq] at e;subst e;exact ⟨t,a,rfl,e1,e2⟩
 | _::_,_::_,⟨_,r⟩,i+1,v,e=>by
  obtain ⟨t,a,h1,h2⟩:=Tups.nth r (i:=i) (by simpa using e);exact ⟨t,a,by simpa using h1,h2⟩
 | _::_,[],h,_,_,_=>h.elim
theorem kids_nodup{rs:List Rw}(nd:(rs.map (·.place)).Nodup)(p:Int):((rs.filter fun c=>decide (c.par=p)).map fun c=>(c.name,c.place)).Nodup:=by
 have h1:((rs.filter fun c=>decide (c.par=p)).map (·.place)).Nodup:=(List.filter_sublist.map _).nodup nd;refine List.Pairwise.of_map (S:=fun a b=>a≠b) (fun e:Str×Int=>e.2) (fun a b h z=>h (congrArg _ z)) ?_;rw [List.map_map];exact h1
variable {w:World}
section
variable {R:Nat} {rs:List Rw}
theorem km_{rs:List Rw}{p:Int}{e:Str×Int}(h:e∈kb_ rs p):∃ c∈rs,c.par=p/\c.name=e.1/\c.place=e.2:=by
 obtain ⟨c,hc,rfl⟩:=List.mem_map.mp ((sm_ _ _ e).mp h);obtain ⟨h1,h2⟩:=List.mem_filter.mp hc;exact ⟨c,h1,by simpa using h2,rfl,rfl⟩
theorem law_all_W(hb:∀ j,∀ r∈rs,(allR rs j r.place).length<=1000):∀ (k:Nat) {s:S} {p:Int} {d:Nat} {Q:V->S->Prop} {E:Addr->S->Prop},Rows s.h R rs->(∃ r∈rs,r.place=p)->Deep rs k p->(∀ h r,Pre s.h h->h[r]? =some (.list ((allR rs k p).map V.int))->Q (.ref r) {h:=h,l:=s.l})->
  W (pg w) (fun F=>F.call (.glob 463) [.ref R,.int p] (d+k)) Q E s
 | 0,s,p,d,Q,E,X,_,hd,q=>hd.elim
 | k+1,s,p,d,Q,E,X,hpr,hd,q=>by
  refine W.fnK (P:=pg w) (d:=d+k) rfl (hK:=by rfl) (hb:=rfl) (hf:=rfl) (hok:=by rfl) (hs:=rfl) (lq:=none) (hq:=by rfl) (hbs:=rfl) (hc:=rfl) ?_;dsimp only;have hpl:(s.h++ [O.cell none]).length=s.h.length+1:=by simp
  rw [hpl];refine W.parC (w:=none) rfl rfl (by simp) (W.parC (w:=none) rfl rfl (by simp) (W.par0 ?_));dsimp only;rw [two_cells];generalize hm:s.h.length=m;have c1:(s.h++ [O.cell (some (.ref R)),.cell (some (.int p))])[m]? =some (.cell (some (.ref R))):=by subst hm;simp
  have c2:(s.h++ [O.cell (some (.ref R)),.cell (some (.int p))])[m+1]? =some (.cell (some (.int p))):=by subst hm;simp
  have p1:Pre s.h (s.h++ [O.cell (some (.ref R)),.cell (some (.int p))]):=Pre.app _ _;generalize (s.h++ [O.cell (some (.ref R)),.cell (some (.int p))])=h1 at c1 c2 p1 ⊢;have X1:=X.pre p1;refine W.stC (W.sA (W.list rfl rfl (W.cI c2 (W.asN rfl ?_))));have hf1:(h1++ [O.list [.int p]])[h1.length]? =some (.list [.int p]):=gn_;have p2:Pre h1 (h1++ [O.list [.int p]]):=Pre.app _ _;have X2:=X1.pre p2;generalize hm1:h1.length=m1 at hf1;generalize (h1++ [O.list [.int p]])=h2 at hf1 p2 X2 ⊢;refine W.stC (W.sFor rfl (W.cG (by rfl) ((W.compRowsT (cells:=_) (fun c=>decide (c.par=p)) (fun c=> [.str c.name,.int c.place]) rfl rfl rfl X2 (W.cI (p2.get c1) ⟨rfl,rfl⟩) ?_ ?_ ?_))))
  ·intro c hc h lo hp hlo;refine W.test1 (W.t_ rfl (W.r_ (X2.pre hp) (ro_ X.pnd hc) (j:=0) ⟨by decide,by decide⟩ rfl (W.cI (hp.get (p2.get c1)) ⟨rfl,rfl,W.lo hlo ⟨rfl,rfl,W.c_ rfl ⟨rfl,rfl,W.cI (hp.get (p2.get c2)) ?_⟩⟩⟩)));exact W.p_ (a:=decide (c.par=p)) (fun _=>rfl) ⟨rfl,Pre.refl _,rfl⟩
  ·intro c hc hg h lo hp hlo;refine W.tuple rfl rfl (W.r_ (X2.pre hp) (ro_ X.pnd hc) (j:=1) ⟨by decide,by decide⟩ rfl (W.cI (hp.get (p2.get c1)) ⟨rfl,rfl,W.lo hlo ⟨rfl,rfl,W.c_ rfl ⟨rfl,rfl,W.lo hlo ?_⟩⟩⟩));exact ⟨⟨_,rfl,gn_⟩,Pre.app _ _,rfl⟩
  ·intro h3 acc ys p3 ha hacc ht;have ht2:Tups h3 ys (((rs.filter fun c=>decide (c.par=p)).map fun c=>(c.name,c.place)).map fun e=> [V.str e.1,V.int e.2]):=by rw [List.map_map];exact ht
   refine ⟨rfl,W.bi (W.sortedT hacc ht2 ?_ (kids_nodup X.pnd p) fun ys' ht3=>W.iterL gn_ ?_)⟩
   ·rw [List.length_map];have:=List.length_filter_le (fun c:Rw=>decide (c.par=p)) rs;have:=X.len;omega
   have ht4:Tups h3 ys' ((kb_ rs p).map fun e=> [V.str e.1,V.int e.2]):=ht3;have hys:ys'.length=(kb_ rs p).length:=by have:=ht4.length;rwa [List.length_map] at this
   have p4:Pre h2 (h3++ [O.list ys']):=p3.trans (Pre.app _ _);have hl4:(h3++ [O.list ys'])[h3.length]? =some (.list ys'):=gn_;have ht5:Tups (h3++ [O.list ys']) ys' ((kb_ rs p).map fun e=> [V.str e.1,V.int e.2]):=ht4.pre (Pre.app _ _);generalize hm3:h3.length=m3 at hl4;try dsimp only
   generalize (h3++ [O.list ys'])=h4 at p4 hl4 ht5 ⊢;have p04:Pre s.h h4:=p1.trans (p2.trans p4);refine W.forG (vs:=ys') (it:=h4.length) (fun i=> .itL m3 i) (I:=fun i s'=>Pre h4 s'.h/\s'.h[h4.length]? =some (.itL m3 i)/\∃ f,has s'.l "found" (.ref f)/\s'.h[f]? =some (.list ((p::((kb_ rs p).take i).flatMap fun e=>allR rs k e.2).map V.int))/\f≠h4.length) ?_ ?_ ?_ ys'.length 0 _ (by omega) ?_
   ·intro i s' Q2 ⟨i1,i2,f,i3,i4,i5⟩ hle q1 q2;exact W.nextL i2 (i1.get hl4) q1 q2
   ·intro i v s' ⟨i1,i2,f,i3,i4,i5⟩ hv;obtain ⟨t,a,e1,e2,e3⟩:=ht5.nth hv;rw [List.getElem?_map] at e1;cases e5:(kb_ rs p)[i]? with
    | none=>rw [e5] at e1;cases e1
    | some e=>
     rw [e5] at e1;cases e1;subst e2;obtain ⟨c,hc,hcp,hcn,hcq⟩:=km_ (List.mem_of_getElem? e5);have i1':Pre h4 (s'.h.set h4.length (.itL m3 (i+1))):=i1.set (Nat.le_refl _);have X5:=(X2.pre p4).pre i1';refine W.ownT (ge_ i2) (W.asT (it_ (i1'.get e3)) rfl (W.a1 (W.asN rfl (W.a1 (W.asN rfl (W.as0 ?_))))));refine W.stC (W.sA (W.b_ (W.lo (ln_ (by decide) (ln_ (by decide) i3)) (W.cG (by rfl) ((W.cI (i1'.get (p4.get (p2.get c1))) (W.lo le_ ⟨rfl,?_⟩)))))));refine law_all_W hb k X5 ⟨c,hc,hcq⟩ (by rw [<-hcq];exact hd c hc hcp) fun h6 r6 p6 hr6=>?_;have hf6:=p6.get (gb_ (p:= .itL m3 (i+1)) (fun z=>i5 z.symm) i4);have hu:allR rs (k+1) p=p::(kb_ rs p).flatMap fun e=>allR rs k e.2:=rfl;have htk:(kb_ rs p).take (i+1)=(kb_ rs p).take i++ [e]:=by rw [List.take_add_one,e5];rfl
     have hsub:(((kb_ rs p).take i).flatMap fun e=>allR rs k e.2).length<=((kb_ rs p).flatMap fun e=>allR rs k e.2).length:=by
      conv=>rhs;rw [<-List.take_append_drop i (kb_ rs p),List.flatMap_append,List.length_append]
      omega
     refine W.addLL hf6 hr6 ?_ (W.asN rfl (W.stN ⟨i1'.trans (p6.trans (Pre.app _ _)),ga_ (p6.get (ge_ i2)),_,le_,?_,?_⟩))
     ·obtain ⟨rp,hrp,hrp2⟩:=hpr;have h1:=hb (k+1) rp hrp;have h2:=hb k c hc;rw [hrp2] at h1;rw [hcq] at h2;rw [hu] at h1;simp only [List.length_cons,List.length_map] at h1 ⊢;omega
     ·rw [htk,List.flatMap_append,<-List.map_append];have e9:(p::((kb_ rs p).take i).flatMap fun e=>allR rs k e.2)++allR rs k e.2=p::((((kb_ rs p).take i).flatMap fun e=>allR rs k e.2)++ [e].flatMap fun e=>allR rs k e.2):=by simp
      rw [e9];exact gn_
     ·have:=gl_ (p6.get (ge_ (p:= .itL m3 (i+1)) i2));dsimp only;omega
   ·intro s' ⟨i1,i2,f,i3,i4,i5⟩;refine W.stC (W.s_ (W.lo i3 (q _ f (p04.trans (i1.set (Nat.le_refl _))) ?_)));refine gb_ (fun z=>i5 z.symm) ?_;rw [hys,List.take_length] at i4;exact i4
   ·refine ⟨Pre.app _ _,gn_,m1,rfl,?_,?_⟩
    ·exact ga_ (p4.get hf1)
    ·have:=gl_ (p4.get hf1);omega
end
end
section
structure Wld(h:List O)(A:Adr)(R:Nat)(last:Int)(ns:List Nd)(rs:List Rw):Prop where
 rep:∃ notes zaps,Rep ⟨h,[]⟩ A last ns notes zaps
 rows:Rows h R rs
 apart:∀ i∈footR R rs,i∉foot A ns
abbrev fb_(A:Adr)(R:Nat)(ns:List Nd)(rs:List Rw):List Nat:=foot A ns++footR R rs
structure Nxt(h:List O)(F:List Nat)(h':List O)(F':List Nat):Prop where
 keep:Keep F h h'
 new:∀ i∈F',i∈F\/h.length<=i
theorem Nxt.refl(h:List O)(F:List Nat):Nxt h F h F:=⟨Keep.refl _ _,fun _ hi=> .inl hi⟩
theorem Nxt.of_pre{h h':List O}(p:Pre h h')(F:List Nat):Nxt h F h' F:=⟨Keep.of_pre p,fun _ hi=> .inl hi⟩
theorem Nxt.trans{a b c:List O}{F G H:List Nat}(x:Nxt a F b G)(y:Nxt b G c H):Nxt a F c H:=
 ⟨x.keep.trans' y.keep x.new,fun i hi=>(y.new i hi).elim (fun h=>x.new i h) fun h=> .inr (Nat.le_trans x.keep.1 h)⟩
theorem Wld.pre{h h':List O}{A:Adr}{R:Nat}{last:Int}{ns:List Nd}{rs:List Rw}(x:Wld h A R last ns rs)(p:Pre h h'):Wld h' A R last ns rs:=
 ⟨let ⟨n,z,r⟩:=x.rep;⟨n,z,r.on p []⟩,x.rows.pre p,x.apart⟩
theorem Wld.len{h:List O}{A:Adr}{R:Nat}{last:Int}{ns:List Nd}{rs:List Rw}(x:Wld h A R last ns rs):∀ i∈fb_ A R ns rs,i < h.length:=by
 intro i hi;obtain ⟨n,z,r⟩:=x.rep;rcases List.mem_append.mp hi with hi | hi
 ·exact r.len i hi
 ·rcases List.mem_cons.mp hi with hi | hi
  ·obtain ⟨k,e⟩:=x.rows.dict;rw [hi];exact gl_ e
  ·obtain ⟨a,ha,rfl⟩:=List.mem_map.mp hi;exact gl_ (x.rows.rows a ha)
theorem Rep.keepF{h h':List O}{A:Adr}{last:Int}{ns:List Nd}{notes zaps:List (V×V)}{F:List Nat}(R:Rep ⟨h,[]⟩ A last ns notes zaps)(k:Keep F h h')(hF:∀ i∈foot A ns,i∉F):Rep ⟨h',[]⟩ A last ns notes zaps:=by
 have g:∀ a∈foot A ns,∀ ob,h[a]? =some ob->h'[a]? =some ob:=fun a ha ob e=>k.2 _ _ e (hF a ha);exact {R with
  base:={R.base with
   inst:=g _ (by simp) _ R.base.inst
   own:=(let ⟨k,e⟩:=R.base.own;⟨k,g _ (by simp) _ e⟩)
   nts:=(let ⟨k,e⟩:=R.base.nts;⟨k,g _ (by simp) _ e⟩)
   zps:=(let ⟨k,e⟩:=R.base.zps;⟨k,g _ (by simp) _ e⟩)}
  root:=(let ⟨k,e⟩:=R.root;⟨k,g _ (by simp) _ e⟩)
  kids:=fun a ha=>let ⟨k,e⟩:=R.kids a ha;⟨k,g _ (by simp only [List.mem_cons,List.mem_map];exact .inr (.inr (.inr (.inr (.inr ⟨a,ha,rfl⟩))))) _ e⟩}
theorem Keep.mono{F G:List Nat}{a b:List O}(x:Keep F a b)(h:∀ i∈F,i∈G):Keep G a b:=⟨x.1,fun i o e n=>x.2 i o e fun hi=>n (h i hi)⟩
theorem Rows.add{h:List O}{R:Nat}{rs:List Rw}(X:Rows h R rs){r:Rw}{k:Nat}(hk:h[R]? =some (.dict (ra_ rs) k))(hr:h[r.rr]? =some (.list r.lst))(hnew:rwAt rs r.place=none)(hrr:r.rr∉footR R rs)(hlen:rs.length < 40):
  Rows (h.set R (putD (.int r.place) (.ref r.rr) (ra_ rs) k)) R (rs++ [r]) where
 dict:=by
  have e1:f_ (.int r.place) (ra_ rs)=none:=by rw [rows_find,hnew];rfl
  refine ⟨k+1,?_⟩;have e2:putD (.int r.place) (.ref r.rr) (ra_ rs) k= .dict (ra_ (rs++ [r])) (k+1):=by
   unfold putD;rw [putK_new _ _ _ e1,e1];unfold ra_;rw [List.map_append];rfl
  rw [e2];exact ge_ hk
 rows:=fun a ha=>by
  rcases List.mem_append.mp ha with ha | ha
  ·have hne:R≠a.rr:=fun z=>by
    have:=X.nd;rw [List.nodup_cons] at this;exact this.1 (z▸List.mem_map_of_mem ha)
   exact gb_ hne (X.rows a ha)
  ·rw [List.mem_singleton.mp ha];exact gb_ (fun z=>hrr (by rw [<-z];simp)) hr
 nd:=by
  rw [List.map_append,<-List.cons_append];refine List.nodup_append.mpr ⟨X.nd,by simp,?_⟩;intro a ha b hb z;simp only [List.map_cons,List.map_nil,List.mem_singleton] at hb;exact hrr (by rw [<-hb,<-z];exact ha)
 pnd:=by
  rw [List.map_append];refine List.nodup_append.mpr ⟨X.pnd,by simp,?_⟩;intro a ha b hb z;simp only [List.map_cons,List.map_nil,List.mem_singleton] at hb;obtain ⟨c,hc,rfl⟩:=List.mem_map.mp ha;have e3:=ro_ X.pnd hc;rw [z,hb,hnew] at e3;cases e3
 len:=by rw [List.length_append];simp;omega
section
variable {P:Prg} {E:Addr->S->Prop} {s:S} {ρ:Ev}
theorem W.lambdaX{body:Expr}{scope:Scope}{p:Pos}{cells:List (Str×Nat)}{Q:V->S->Prop}(hq:ρ.lq.isSome=true)(hc:cf_ ρ scope.names [] s=some (.ok cells,s))(q:∀ h,Pre s.h h->h[s.h.length]? =some (.lam body scope cells)->Q (.ref s.h.length) {h:=h,l:=s.l}):W P (fun F=>F.ev (.Lambda ⟨[],[],none,[],[],none,[]⟩ body scope p) ρ) Q E s:=
 W.lambda hq hc (q _ (Pre.app _ _) gn_)
theorem W.told{t:Expr}{ix c:Expr}{p1 p2:Pos}{n:Nat}{nm x:Str}{v:V}{Q:V->S->Prop}(hi:∀ a b c d,ix≠ .Slice a b c d)(hs:nb_ c=true)(hn:s.h[n]? =some (.tup [.str nm,v]))
  (h:W P (fun F=>F.ev t ρ) (fun a s1=>a= .ref n/\s1=s/\W P (fun F=>F.ev ix ρ) (fun b s2=>b= .int 0/\s2=s/\W P (fun F=>F.ev c ρ) (fun u s3=>u= .str x/\s3=s/\Q (.bool (decide (nm=x))) s) E s) E s) E s):
  W P (fun F=>F.ev (.Compare (.Subscript t ix p1) [.Eq] [c] p2) ρ) Q E s:=by
 refine W.cmp1 hs (W.item hi (h.post fun a s1 ⟨ha,e1,h⟩=>?_));subst ha;rw [e1];refine h.post fun b s2 ⟨hb,e2,h⟩=>?_;subst hb;rw [e2];refine W.itemT hn ⟨by decide,by decide⟩ rfl (h.post fun u s3 ⟨hu,e3,q⟩=>?_);subst hu;rw [e3];exact W.p_ (a:=decide (nm=x)) (fun _=>rfl) q
end
variable {w:World}
section
variable {s:S} {A:Adr} {R:Nat} {last:Int} {ns:List Nd} {rs:List Rw} {d:Nat} {E:Addr->S->Prop}
theorem law_added_W(X:Wld s.h A R last ns rs){n:Nd}(hp:ndAt ns n.place=some n){x:Str}(hz:x.cps.size<=1000)(hl:last+3<=800)(hk:n.kids.length < 63)(hlen:rs.length < 40)(hnew:rwAt rs (last+1+1+1)=none)
  (link:(n.kids.lookup x).isSome=takenR rs n.place x) {Q:V->S->Prop}
  (q1:∀ h,Pre s.h h->(o_ x=false\/takenR rs n.place x=true)->Q (.bool true) {h:=h,l:=s.l})
  (q2:∀ h z a,Wld h A R (last+1+1+1) (addNs ns last n x z) (rs++ [⟨last+1+1+1,n.place,x,0,0,a⟩])->Nxt s.h (fb_ A R ns rs) h (fb_ A R (addNs ns last n x z) (rs++ [⟨last+1+1+1,n.place,x,0,0,a⟩]))->o_ x=true->takenR rs n.place x=false->Q (.bool true) {h:=h,l:=s.l}):
  W (pg w) (fun F=>F.call (.glob 475) [.ref A.b,.ref R,.int n.place,.str x] (d+9)) Q E s:=by
 refine W.fnK (P:=pg w) rfl (hK:=by rfl) (hb:=rfl) (hf:=rfl) (hok:=by rfl) (hs:=rfl) (lq:=some (474,470,"_law_added.<locals>.<lambda>")) (hq:=by rfl) (hbs:=rfl) (hc:=rfl) ?_;dsimp only;have hpl:(s.h++ [O.cell none]).length=s.h.length+1:=by simp
 have hpl2:(s.h++ [O.cell none]++ [O.cell none]).length=s.h.length+2:=by simp
 rw [hpl,hpl2];refine W.parC (w:=none) rfl rfl (by simp) (W.parL rfl (W.parC (w:=none) rfl rfl (by simp) (W.parC (w:=none) rfl rfl (by simp) (W.par0 ?_))));dsimp only;rw [three_cells];generalize hm:s.h.length=m;have c1:(s.h++ [O.cell (some (.ref A.b)),O.cell (some (.int n.place)),O.cell (some (.str x))])[m]? =some (.cell (some (.ref A.b))):=by subst hm;simp
 have c2:(s.h++ [O.cell (some (.ref A.b)),O.cell (some (.int n.place)),O.cell (some (.str x))])[m+1]? =some (.cell (some (.int n.place))):=by subst hm;simp
 have c3:(s.h++ [O.cell (some (.ref A.b)),O.cell (some (.int n.place)),O.cell (some (.str x))])[m+2]? =some (.cell (some (.str x))):=by subst hm;simp
 have p1:Pre s.h (s.h++ [O.cell (some (.ref A.b)),O.cell (some (.int n.place)),O.cell (some (.str x))]):=Pre.app _ _;generalize (s.h++ [O.cell (some (.ref A.b)),O.cell (some (.int n.place)),O.cell (some (.str x))])=h1 at c1 c2 c3 p1 ⊢;obtain ⟨nt,zp,Rp⟩:=X.rep;refine W.stC (W.sA (W.cG (by rfl) ((W.lambdaX (cells:=_) rfl rfl fun hL pL eL=>⟨rfl,?_⟩))));have p2:Pre s.h hL:=p1.trans pL;refine lh_ (d:=d+7) eL (Qv:=fun v h=>v= .int (last+1+1+1)/\∃ z nt' zp',Rep ⟨h,[]⟩ A (last+1+1+1) (addNs ns last n x z) nt' zp'/\Keep (foot A ns) hL h/\foot A (addNs ns last n x z)=foot A ns++ [z]/\hL.length<=z/\o_ x=true/\n.kids.lookup x=none)
  (Ec:=fun C h=>Pre hL h/\((C=99/\o_ x=false)\/(C=63/\o_ x=true/\(n.kids.lookup x).isSome=true))) (fun lo=>?_) (fun v h ⟨hv,z,nt',zp',R1,k1,f1,z1,ok1,no1⟩=>?_) (fun C h ⟨hp1,hC⟩=>?_)
 ·refine W.lam eL rfl (W.cG (by rfl) ((W.cF (pL.get c1) (W.cF (pL.get c2) (W.cF (pL.get c3) ⟨rfl,?_⟩)))));refine add_dir_W (Rp.on p2 _) hp hz hl hk (fun h z nt' zp' R1 k1 f1 z1 ok1 no1=>⟨⟨rfl,z,nt',zp',R1,k1,f1,z1,ok1,no1⟩,rfl⟩) (fun h hpre ok=>⟨hpre,.inl ⟨rfl,ok⟩⟩) (fun h c hpre ok hc=>⟨hpre,.inr ⟨rfl,ok,by rw [hc];rfl⟩⟩)
 ·
  subst hv;have ht1:takenR rs n.place x=false:=by rw [<-link,no1];rfl
  have k1':Keep (foot A ns) h1 h:=Keep.trans (Keep.of_pre pL) k1;have lm:s.h.length<=h1.length:=p1.len;have nin:∀ j,m<=j->j∉foot A ns:=fun j hj hi=>by have:=Rp.len j hi;dsimp only at this;omega
  have d1:=k1'.2 _ _ c1 (nin _ (by omega));have d2:=k1'.2 _ _ c2 (nin _ (by omega));have d3:=k1'.2 _ _ c3 (nin _ (by omega));have XR:Rows h R rs:=(X.rows.pre p1).keep k1' X.apart;have k0:Keep (foot A ns) s.h h:=Keep.trans (Keep.of_pre p1) k1';have lz:s.h.length<=z:=by exact Nat.le_trans p2.len z1
  have hapart:∀ i∈footR R rs,i∉foot A (addNs ns last n x z):=fun i hi hi2=>by
   rw [f1] at hi2;rcases List.mem_append.mp hi2 with hi2 | hi2
   ·exact X.apart i hi hi2
   ·have:=X.len i (List.mem_append_right _ hi);rw [List.mem_singleton.mp hi2] at this;omega
  have hndnew:∃ m2,ndAt (addNs ns last n x z) (last+1+1+1)=some m2/\m2.par=n.place:=by
   have hpl:=Rp.places n (nm_ hp).1;refine ⟨ne_ last n.place z,?_,rfl⟩;unfold addNs;rw [nu_,if_neg (show ¬ last+1+1+1=n.place by omega),ndAt_app,ndAt_none (fun a ha hz=>by have:=Rp.places a ha;omega)];exact if_pos rfl
  refine W.asN rfl (W.stC (W.sIf (W.trNot (W.ta_ rfl (W.cG (by rfl) ((W.cI (ga_ d3) ⟨rfl,?_⟩)))))));refine li_ hz fun h2 p3=>W.p_ (fun _=>rfl) ?_;rw [ok1];refine W.stN (W.stC (W.sIf (W.ta_ rfl (W.cG (by rfl) ((W.lo rfl (W.cI (p3.get (ga_ d2)) (W.cI (p3.get (ga_ d3)) ⟨rfl,?_⟩))))))));have pp3:Pre h h2:=(Pre.app _ _).trans p3;refine lt_ (XR.pre pp3) fun h3 p4=>W.p_ (fun _=>rfl) ?_;rw [ht1];have pp4:Pre h h3:=pp3.trans p4;have tl:h3[h.length]? =some (.tup [.str "told",.int (last+1+1+1)]):=p4.get (p3.get gn_);refine W.stN (W.stC (W.sA (W.list rfl rfl (W.cI (pp4.get d2) (W.cI (pp4.get d3) (W.c_ rfl (W.c_ rfl ?_)))))));refine W.aI (W.lo rfl (W.it (W.lo rfl (W.c_ rfl (W.itemT (ga_ tl) ⟨by decide,by decide⟩ rfl ?_)))));have XR4:Rows (h3++ [O.list [.int n.place,.str x,.int 0,.int 0]]) R rs:=XR.pre (pp4.trans (Pre.app _ _));obtain ⟨kR,eR⟩:=XR4.dict;refine W.setD eR (by rw [rows_like];have:=X.rows.len;simp;omega) ?_;have pp5:Pre h (h3++ [O.list [.int n.place,.str x,.int 0,.int 0]]):=pp4.trans (Pre.app _ _);have hlen3:s.h.length<=h3.length:=Nat.le_trans k0.1 pp4.len;have XR5:=XR4.add (r:=⟨last+1+1+1,n.place,x,0,0,h3.length⟩) eR gn_ hnew (fun hi=>by have:=X.len _ (List.mem_append_right _ hi);dsimp only at this;omega) hlen;have kset:Keep [R] (h3++ [O.list [.int n.place,.str x,.int 0,.int 0]]) ((h3++ [O.list [.int n.place,.str x,.int 0,.int 0]]).set R (putD (.int (last+1+1+1)) (.ref h3.length) (ra_ rs) kR)):=(Keep.refl _ _).set (.inl (by simp));have R5:=(R1.on pp5 []).keepF kset fun i hi hi2=>by
   rw [List.mem_singleton.mp hi2] at hi;exact hapart R (by simp) hi
  have hRl:R < s.h.length:=X.len R (List.mem_append_right _ (by simp));have e5:=kset.2 _ _ (pp5.get d1) (by rw [List.mem_singleton];omega);have e6:=kset.2 _ _ (pp5.get d2) (by rw [List.mem_singleton];omega);have t5:=kset.2 _ _ (ga_ (t:= [O.list [.int n.place,.str x,.int 0,.int 0]]) tl) (by rw [List.mem_singleton];have:=k0.1;omega);refine W.heap (h':=(h3++ [O.list [.int n.place,.str x,.int 0,.int 0]]).set R (putD (.int (last+1+1+1)) (.ref h3.length) (ra_ rs) kR)) rfl ?_;have kall:Keep (fb_ A R ns rs) s.h ((h3++ [O.list [.int n.place,.str x,.int 0,.int 0]]).set R (putD (.int (last+1+1+1)) (.ref h3.length) (ra_ rs) kR)):=
   Keep.trans (k0.mono fun i hi=>List.mem_append_left _ hi) (Keep.trans (Keep.of_pre pp5) (kset.mono fun i hi=>List.mem_append_right _ (by rw [List.mem_singleton.mp hi];simp)))
  generalize ((h3++ [O.list [.int n.place,.str x,.int 0,.int 0]]).set R (putD (.int (last+1+1+1)) (.ref h3.length) (ra_ rs) kR))=h6 at XR5 R5 e5 e6 t5 kall ⊢;obtain ⟨m2,hm2,hpar⟩:=hndnew;refine W.stC (W.s_ (W.and (W.told (by intros;simp) rfl t5 (W.lo rfl ⟨rfl,rfl,W.c_ rfl ⟨rfl,rfl,W.c_ rfl ⟨rfl,rfl,W.pure ?_⟩⟩⟩))));rw [decide_eq_true rfl];refine W.bool1 (W.cmp1 rfl (W.a_ rfl (W.cG (by rfl) ((W.cI e5 (W.it (W.lo rfl (W.c_ rfl (W.itemT t5 ⟨by decide,by decide⟩ rfl ⟨rfl,?_⟩)))))))));refine (R5.on (Pre.refl _) _).load hm2 fun h7 i di p7 _ _ Inf=>?_;obtain ⟨k7,own7⟩:=Inf.own;refine W.g_ Inf.inst own7 (gd _ (by simp)) rfl rfl (W.cI (p7.get e6) ?_);rw [hpar];refine W.p_ (a:=decide (n.place=n.place)) (fun _=>rfl) ?_;rw [decide_eq_true rfl];refine q2 h7 z h3.length ⟨⟨nt',zp',R5.on p7 []⟩,XR5.pre p7,?_⟩ ⟨kall.trans (Keep.of_pre p7),?_⟩ ok1 ht1
  ·intro i hi hi2;have hi3:i∈footR R rs\/i=h3.length:=by
    simp only [List.map_append,List.mem_cons,List.mem_append,List.map_cons,List.map_nil,List.not_mem_nil,or_false] at hi ⊢;rcases hi with hi | hi | hi
    ·exact .inl (.inl hi)
    ·exact .inl (.inr hi)
    ·exact .inr hi
   rcases hi3 with hi3 | hi3
   ·exact hapart i hi3 hi2
   ·have:=R1.len i hi2;dsimp only at this;have:=pp4.len;omega
  ·intro i hi;rcases List.mem_append.mp hi with hi | hi
   ·rw [f1] at hi;rcases List.mem_append.mp hi with hi | hi
    ·exact .inl (List.mem_append_left _ hi)
    ·rw [List.mem_singleton.mp hi];exact .inr lz
   ·simp only [List.map_append,List.mem_cons,List.mem_append,List.map_cons,List.map_nil,List.not_mem_nil,or_false] at hi;rcases hi with hi | hi | hi
    ·exact .inl (List.mem_append_right _ (by rw [hi];simp))
    ·exact .inl (List.mem_append_right _ (List.mem_cons_of_mem _ hi))
    ·rw [hi];exact .inr hlen3
 ·
  have pp1:Pre h1 h:=pL.trans hp1;rcases hC with ⟨rfl,ok⟩ | ⟨rfl,ok,tk⟩
  ·refine ⟨_,rfl,?_⟩;refine W.asN rfl (W.stC (W.sIf (W.trNot (W.ta_ rfl (W.cG (by rfl) ((W.cI (ga_ (pp1.get c3)) ⟨rfl,?_⟩)))))));refine li_ hz fun h2 p3=>W.p_ (fun _=>rfl) ?_;rw [ok];refine W.stC (W.s_ (W.told (by intros;simp) rfl (p3.get gn_) (W.lo rfl ⟨rfl,rfl,W.c_ rfl ⟨rfl,rfl,W.c_ rfl ⟨rfl,rfl,?_⟩⟩⟩)));rw [decide_eq_true rfl];exact q1 h2 (p1.trans (pp1.trans ((Pre.app _ _).trans p3))) (.inl ok)
  ·refine ⟨_,rfl,?_⟩;refine W.asN rfl (W.stC (W.sIf (W.trNot (W.ta_ rfl (W.cG (by rfl) ((W.cI (ga_ (pp1.get c3)) ⟨rfl,?_⟩)))))));refine li_ hz fun h2 p3=>W.p_ (fun _=>rfl) ?_;rw [ok];have pp3:Pre h h2:=(Pre.app _ _).trans p3;refine W.stN (W.stC (W.sIf (W.ta_ rfl (W.cG (by rfl) ((W.lo rfl (W.cI (pp3.get (pp1.get c2)) (W.cI (pp3.get (pp1.get c3)) ⟨rfl,?_⟩))))))));refine lt_ (X.rows.pre (p1.trans (pp1.trans pp3))) fun h3 p4=>W.p_ (fun _=>rfl) ?_;rw [<-link,tk];refine W.stC (W.s_ (W.told (by intros;simp) rfl (p4.get (p3.get gn_)) (W.lo rfl ⟨rfl,rfl,W.c_ rfl ⟨rfl,rfl,W.c_ rfl ⟨rfl,rfl,?_⟩⟩⟩)));rw [decide_eq_true rfl];exact q1 h3 (p1.trans (pp1.trans (pp3.trans p4))) (.inr (link▸tk))
end
end
section
def ub_(rs:List Rw)(m:Rw):List Rw:=rs.map fun r=>if r.place=m.place then m else r
def rmRw(rs:List Rw)(p:Int):List Rw:=rs.filter fun r=>decide (r.place≠p)
theorem updRw_mem{rs:List Rw}{m r:Rw}(h:r∈ub_ rs m):r=m\/(r∈rs/\r.place≠m.place):=by
 obtain ⟨a,ha,e⟩:=List.mem_map.mp h;split at e
 ·exact .inl e.symm
 ·rename_i hne;subst e;exact .inr ⟨ha,hne⟩
theorem uc_{β:Type}(f:Rw->β){rs:List Rw}(nd:(rs.map (·.place)).Nodup){r m:Rw}(hr:r∈rs)(hp:m.place=r.place)(hf:f m=f r):(ub_ rs m).map f=rs.map f:=by
 unfold ub_;rw [List.map_map];refine List.map_congr_left fun a ha=>?_;show f (if a.place=m.place then m else a)=f a;split
 ·rename_i e;have e1:a=r:=ni_ nd ha hr (e.trans hp);rw [e1];exact hf
 ·rfl
theorem Rows.rne{h:List O}{R:Nat}{rs:List Rw}(X:Rows h R rs){r:Rw}(hr:r∈rs):R≠r.rr:=fun z=>by
 have:=X.nd;rw [List.nodup_cons] at this;exact this.1 (z▸List.mem_map_of_mem hr)
theorem Rows.upd{h:List O}{R:Nat}{rs:List Rw}(X:Rows h R rs){r m:Rw}(hr:r∈rs)(hp:m.place=r.place)(hrr:m.rr=r.rr):Rows (h.set r.rr (.list m.lst)) R (ub_ rs m) where
 dict:=by
  obtain ⟨k,e⟩:=X.dict;have:ra_ (ub_ rs m)=ra_ rs:=uc_ _ X.pnd hr hp (by rw [hp,hrr]);rw [this];exact ⟨k,gb_ (Ne.symm (X.rne hr)) e⟩
 rows:=fun a ha=>by
  rcases updRw_mem ha with rfl | ⟨ha,hne⟩
  ·rw [hrr];exact ge_ (X.rows r hr)
  ·have hne2:r.rr≠a.rr:=fun z=>by
    have nd:=X.nd;rw [List.nodup_cons] at nd;have e1:a=r:=ni_ nd.2 ha hr z.symm;exact hne (by rw [e1,hp])
   exact gb_ hne2 (X.rows a ha)
 nd:=by rw [uc_ (·.rr) X.pnd hr hp hrr];exact X.nd
 pnd:=by rw [uc_ (·.place) X.pnd hr hp hp];exact X.pnd
 len:=by unfold ub_;rw [List.length_map];exact X.len
theorem drop_rows(rs:List Rw)(p:Int)(nd:(rs.map (·.place)).Nodup):da_ (.int p) (ra_ rs)=ra_ (rmRw rs p):=by
 induction rs with
 | nil=>rfl
 | cons r t ih=>
  rw [List.map_cons,List.nodup_cons] at nd;have e:ra_ (r::t)=(.int r.place,.ref r.rr)::ra_ t:=rfl;rw [e];unfold da_;have e2:rmRw (r::t) p=if r.place≠p then r::rmRw t p else rmRw t p:=by
   unfold rmRw;rw [List.filter_cons];simp
  by_cases h:r.place=p
  ·rw [if_pos (by rw [h]),e2,if_neg (fun z=>z h)];have:rmRw t p=t:=by
    unfold rmRw;refine List.filter_eq_self.mpr fun a ha=>?_;have:a.place≠p:=fun z=>nd.1 (by rw [h,<-z];exact List.mem_map_of_mem ha);simpa using this
   rw [this]
  ·rw [if_neg (fun z=>h (V.int.inj z)),e2,if_pos h,ih nd.2];rfl
theorem Rows.rm{h:List O}{R:Nat}{rs:List Rw}(X:Rows h R rs){k:Nat}(hk:h[R]? =some (.dict (ra_ rs) k))(p:Int)(k':Nat):Rows (h.set R (.dict (da_ (.int p) (ra_ rs)) k')) R (rmRw rs p) where
 dict:=⟨k',by rw [drop_rows rs p X.pnd];exact ge_ hk⟩
 rows:=fun a ha=>by
  have ha2:a∈rs:=List.filter_sublist.subset ha;exact gb_ (X.rne ha2) (X.rows a ha2)
 nd:=((List.filter_sublist.map _).cons_cons _).nodup X.nd
 pnd:=(List.filter_sublist.map _).nodup X.pnd
 len:=Nat.le_trans (List.length_filter_le _ _) X.len
section
variable {P:Prg} {E:Addr->S->Prop} {s:S} {ρ:Ev}
theorem inL_ints(p:Int):∀ xs:List Int,inL (.int p) (xs.map V.int)=some (decide (p∈xs))
 | []=>by simp [inL]
 | x::r=>by
  rw [List.map_cons];show (match fe_ (.int x) (.int p),inL (.int p) (r.map V.int) with | some k,some j=>some (k || j) | _,_=>none)=_;rw [inL_ints p r];show some (decide (x=p) || decide (p∈r))=_;congr 1;by_cases h:x=p
  ·subst h;simp
  ·have:¬ p=x:=fun z=>h z.symm;simp [h,this]
theorem W.inLL{n:Nat}{p:Int}{xs:List Int}{Q:Bool->S->Prop}(hn:s.h[n]? =some (.list (xs.map V.int)))(q:Q (decide (p∈xs)) s):W P (fun _=>cmpM .In (.int p) (.ref n)) Q E s:=W.gc_ hn (W.opt' (inL_ints p xs) q)
theorem W.eqT{x y:Nat}{u v:List V}{b:Bool}{Q:Bool->S->Prop}(hx:s.h[x]? =some (.tup u))(hy:s.h[y]? =some (.tup v))(he:fa_ u v=some b)(q:Q b s):W P (fun _=>cmpM .Eq (.ref x) (.ref y)) Q E s:=W.gc_ hx (W.gc_ hy (W.opt' he q))
theorem W.cut2{a c:Nat}{vs ws:List V}{Q:Unit->S->Prop}(ha:s.h[a]? =some (.list vs))(hc:s.h[c]? =some (.list ws))(hz:2<=vs.length/\a≠c/\vs.length<=1000/\ws.length<=1000)(q:Q () {s with h:=s.h.set a (.list (ws++vs.drop 2))}):W P (fun _=>setCutM (.ref a) .none (.int 2) (.ref c)) Q E s:=
 W.gc_ ha (W.gc_ hc (W.n_ (decide_eq_true ⟨by decide,by omega,hz.2.1,hz.2.2.1,hz.2.2.2⟩) (W.seto (gl_ ha) q)))
theorem W.row{o1 i1:Expr}{p1:Pos}{R:Nat}{rs:List Rw}{p:Int}{r:Rw}{Q:V->S->Prop}(hi1:∀ a b c d,i1≠ .Slice a b c d)(X:Rows s.h R rs)(hp:rwAt rs p=some r)
  (h:W P (fun F=>F.ev o1 ρ) (fun a s1=>a= .ref R/\s1=s/\W P (fun F=>F.ev i1 ρ) (fun b s2=>b= .int p/\s2=s/\Q (.ref r.rr) s) E s) E s):W P (fun F=>F.ev (.Subscript o1 i1 p1) ρ) Q E s:=by
 refine W.item hi1 (h.post fun a s1 ⟨ha,hs,h⟩=>?_);subst ha;rw [hs];refine h.post fun b s2 ⟨hb,hs2,q⟩=>?_;subst hb;rw [hs2];obtain ⟨k,e⟩:=X.dict;exact W.itemD e (rows_like rs p) (by rw [rows_find,hp];rfl) q
end
theorem Wld.rowSet{h:List O}{A:Adr}{R:Nat}{last:Int}{ns:List Nd}{rs:List Rw}(X:Wld h A R last ns rs){r m:Rw}(hr:r∈rs)(hp:m.place=r.place)(hrr:m.rr=r.rr):Wld (h.set r.rr (.list m.lst)) A R last ns (ub_ rs m)/\footR R (ub_ rs m)=footR R rs:=by
 have fe:footR R (ub_ rs m)=footR R rs:=by unfold footR;rw [uc_ (·.rr) X.rows.pnd hr hp hrr]
 obtain ⟨nt,zp,Rp⟩:=X.rep;have hmem:r.rr∈footR R rs:=List.mem_cons_of_mem _ (List.mem_map_of_mem hr);refine ⟨⟨⟨nt,zp,Rp.keepF (F:= [r.rr]) ((Keep.refl _ _).set (.inl (by simp))) fun i hi hi2=>?_⟩,X.rows.upd hr hp hrr,fun i hi=>X.apart i (fe▸hi)⟩,fe⟩;rw [List.mem_singleton.mp hi2] at hi;exact X.apart _ hmem hi
theorem Wld.base{h h':List O}{A:Adr}{R:Nat}{last last':Int}{ns ns':List Nd}{rs:List Rw}(X:Wld h A R last ns rs)(k:Keep (foot A ns) h h')(r:∃ notes zaps,Rep ⟨h',[]⟩ A last' ns' notes zaps)(f:∀ i∈foot A ns',i∈foot A ns):Wld h' A R last' ns' rs:=
 ⟨r,X.rows.keep k X.apart,fun i hi hi2=>X.apart i hi (f i hi2)⟩
variable {w:World}
section
variable {s:S} {A:Adr} {R:Nat} {last:Int} {ns:List Nd} {rs:List Rw} {d:Nat} {E:Addr->S->Prop}
theorem law_used_W(X:Wld s.h A R last ns rs){r:Rw}(hr:rwAt rs r.place=some r){many:Int}{k:Nat}(hc:CuOk k ns r.place (many - r.used) 0){Q:V->S->Prop}
  (q:∀ h,Wld h A R last (ca_ k ns r.place (many - r.used) 0) (ub_ rs {r with used:=many})->Nxt s.h (fb_ A R ns rs) h (fb_ A R (ca_ k ns r.place (many - r.used) 0) (ub_ rs {r with used:=many}))->Q (.bool true) {h:=h,l:=s.l}):
  W (pg w) (fun F=>F.call (.glob 501) [.ref A.b,.ref R,.int r.place,.int many] (d+5)) Q E s:=by
 obtain ⟨nt,zp,Rp⟩:=X.rep;refine W.f (P:=pg w) rfl ?_;dsimp only;refine W.stC (W.sc_ rfl (W.cG (by rfl) ((W.lo rfl (W.lo rfl (W.b_ (W.lo rfl (W.r_ X.rows hr (j:=2) ⟨by decide,by decide⟩ rfl (W.lo rfl ⟨rfl,rfl,W.lo rfl ⟨rfl,rfl,W.c_ rfl ⟨rfl,rfl,W.p_ (fun _=>rfl) (W.c_ rfl ⟨rfl,?_⟩)⟩⟩⟩)))))))));refine cu_ (Rp.on (Pre.refl _) _) hc fun h1 nt1 R1 f1 k1=>?_;have X1:Wld h1 A R last (ca_ k ns r.place (many - r.used) 0) rs:=X.base k1 ⟨nt1,zp,R1⟩ fun i hi=>f1▸hi;obtain ⟨hrm,_⟩:=rm_ hr;refine W.stC (W.sA (W.lo rfl (W.aI (W.row (by intros;simp) X1.rows hr (W.lo rfl ⟨rfl,rfl,W.lo rfl ⟨rfl,rfl,W.c_ rfl (W.setL (X1.rows.rows r hrm) ⟨by decide,by show (2:Int) < 4;decide,by decide⟩ ?_)⟩⟩)))));obtain ⟨X2,f2⟩:=X1.rowSet (m:={r with used:=many}) hrm rfl rfl;refine W.stC (W.s_ (W.c_ rfl (q _ X2 ⟨?_,?_⟩)))
 ·refine Keep.set (k1.mono fun i hi=>List.mem_append_left _ hi) (.inl (List.mem_append_right _ (List.mem_cons_of_mem _ (List.mem_map_of_mem hrm))))
 ·intro i hi;unfold fb_ at hi;rw [f1,f2] at hi;exact .inl hi
theorem law_reserved_W(X:Wld s.h A R last ns rs){r:Rw}(hr:rwAt rs r.place=some r){n:Nd}(hp:ndAt ns r.place=some n){many:Int}(hf:({n with res:=many}:Nd).Fit){k:Nat}(hc:CuOk k (u_ ns {n with res:=many}) n.par 0 (({n with res:=many}:Nd).share - n.share)){Q:V->S->Prop}
  (q:∀ h,Wld h A R last (ca_ k (u_ ns {n with res:=many}) n.par 0 (({n with res:=many}:Nd).share - n.share)) (ub_ rs {r with res:=many})->Nxt s.h (fb_ A R ns rs) h (fb_ A R (ca_ k (u_ ns {n with res:=many}) n.par 0 (({n with res:=many}:Nd).share - n.share)) (ub_ rs {r with res:=many}))->Q (.bool true) {h:=h,l:=s.l}):
  W (pg w) (fun F=>F.call (.glob 494) [.ref A.b,.ref R,.int r.place,.int many] (d+5)) Q E s:=by
 obtain ⟨nt,zp,Rp⟩:=X.rep;obtain ⟨hn,hpl⟩:=nm_ hp;refine W.f (P:=pg w) rfl ?_;dsimp only;refine W.stC (W.sA (W.cG (by rfl) ((W.lo rfl (W.lo rfl ⟨rfl,?_⟩)))));refine (Rp.on (Pre.refl _) _).load hp fun h1 i di p1 li ldi Inf=>W.asN rfl ?_;have hli:i∉foot A ns:=fun hi=>by have:=Rp.len _ hi;dsimp only at this li;omega
 have hldi:di∉foot A ns:=fun hi=>by have:=Rp.len _ hi;dsimp only at this ldi;omega
 obtain ⟨k1,own1⟩:=Inf.own;refine W.stC (W.sA (W.cG (by rfl) ((W.lo rfl ⟨rfl,so_ Inf (W.asN rfl ?_)⟩))));refine W.stC (W.sA (W.lo rfl (W.asA (W.lo rfl (W.sh_ Inf.inst own1 (sd _ (by simp)) rfl ?_)))));rw [putRes];have I2:Info (h1.set di (.dict (ia_ {n with res:=many}) k1)) i di {n with res:=many}:=⟨gb_ (Ne.symm Inf.ne) Inf.inst,⟨k1,ge_ own1⟩,Inf.ne⟩;have p2:Pre s.h (h1.set di (.dict (ia_ {n with res:=many}) k1)):=p1.set ldi;refine W.heap (h':=h1.set di (.dict (ia_ {n with res:=many}) k1)) rfl ?_;generalize (h1.set di (.dict (ia_ {n with res:=many}) k1))=h2 at I2 p2 ⊢;refine W.stC (W.sc_ rfl (W.cG (by rfl) ((W.lo rfl (W.lo rfl (W.lo rfl ⟨rfl,?_⟩))))));rw [<-hpl];refine (Rp.on p2 _).storeW2 (m:={n with res:=many}) hn rfl rfl rfl hf I2 hli hldi fun h3 nt3 R3 f3 k3 I3=>?_;obtain ⟨k4,own4⟩:=I3.own;refine W.stC (W.sc_ rfl (W.cG (by rfl) ((W.lo rfl (W.a_ rfl (W.lo rfl (W.g_ I3.inst own4 (gd _ (by simp)) rfl rfl (W.c_ rfl (W.b_ (W.cG (by rfl) ((W.lo rfl ⟨rfl,so_ I3 (W.lo rfl (W.p_ (fun _=>rfl) ⟨rfl,?_⟩))⟩))))))))))));refine cu_ (R3.on (Pre.refl _) _) hc fun h5 nt5 R5 f5 k5=>?_;have f53:=f5.trans f3;have kall:Keep (foot A ns) s.h h5:=(Keep.of_pre p2).trans (k3.trans' k5 fun i hi=> .inl (f3▸hi));have X5:Wld h5 A R last (ca_ k (u_ ns {n with res:=many}) n.par 0 (({n with res:=many}:Nd).share - n.share)) rs:=X.base kall ⟨nt5,zp,R5⟩ fun i hi=>f53▸hi;obtain ⟨hrm,_⟩:=rm_ hr;have hr':rwAt rs n.place=some r:=by rw [hpl];exact hr
 refine W.stC (W.sA (W.lo rfl (W.aI (W.row (by intros;simp) X5.rows hr' (W.lo rfl ⟨rfl,rfl,W.lo rfl ⟨rfl,rfl,W.c_ rfl (W.setL (X5.rows.rows r hrm) ⟨by decide,by show (3:Int) < 4;decide,by decide⟩ ?_)⟩⟩)))));obtain ⟨X6,f6⟩:=X5.rowSet (m:={r with res:=many}) hrm rfl rfl;refine W.stC (W.s_ (W.c_ rfl (q _ X6 ⟨?_,?_⟩)))
 ·refine Keep.set (kall.mono fun i hi=>List.mem_append_left _ hi) (.inl (List.mem_append_right _ (List.mem_cons_of_mem _ (List.mem_map_of_mem hrm))))
 ·intro i hi;unfold fb_ at hi;rw [f53,f6] at hi;exact .inl hi
end
end
section
theorem four_cells{h:List O}{a b c e:V}:((((h++ [O.cell none]++ [O.cell none]++ [O.cell none]++ [O.cell none]).set h.length (.cell (some a))).set (h.length+1) (.cell (some b))).set (h.length+2) (.cell (some c))).set (h.length+3) (.cell (some e))=h++ [O.cell (some a),O.cell (some b),O.cell (some c),O.cell (some e)]:=by simp
variable {w:World}
section
variable {s:S} {A:Adr} {R:Nat} {last:Int} {ns:List Nd} {rs:List Rw} {d:Nat} {E:Addr->S->Prop}
theorem law_moved_W(X:Wld s.h A R last ns rs){n t:Nd}{r:Rw}(hp:ndAt ns n.place=some n)(hr:rwAt rs n.place=some r)(hrp:r.par=n.par){np:Int}(ht:ndAt ns np=some t){x:Str}(hz:x.cps.size<=1000){k:Nat}(hk:k<=900)(hu:ci_ ns k np)(huR:ClimbR rs k np){k1 k2:Nat}
  (inn:isIn ns k np n.place=decide (n.place∈upR rs k np)) (link:(t.kids.lookup x).isSome=takenR rs np x)
  (ok:n.par≠0->isIn ns k np n.place=false->o_ x=true->t.kids.lookup x=none->∃ o x0 t1,MoveOk ns n np x o x0 t1 k1 k2) {Q:V->S->Prop}
  (q1:∀ h,Pre s.h h->Q (.bool true) {h:=h,l:=s.l})
  (q2:n.par≠0->isIn ns k np n.place=false->o_ x=true->takenR rs np x=false->∀ o x0 t1,MoveOk ns n np x o x0 t1 k1 k2->∀ h,Wld h A R last (mv5 ns n np x o x0 t1 k1 k2) (ub_ rs {r with par:=np,name:=x})->Nxt s.h (fb_ A R ns rs) h (fb_ A R (mv5 ns n np x o x0 t1 k1 k2) (ub_ rs {r with par:=np,name:=x}))->Q (.bool true) {h:=h,l:=s.l}):
  W (pg w) (fun F=>F.call (.glob 482) [.ref A.b,.ref R,.int n.place,.int np,.str x] (d+9)) Q E s:=by
 refine W.fnK (P:=pg w) rfl (hK:=by rfl) (hb:=rfl) (hf:=rfl) (hok:=by rfl) (hs:=rfl) (lq:=some (481,477,"_law_moved.<locals>.<lambda>")) (hq:=by rfl) (hbs:=rfl) (hc:=rfl) ?_;dsimp only;have hpl:(s.h++ [O.cell none]).length=s.h.length+1:=by simp
 have hpl2:(s.h++ [O.cell none]++ [O.cell none]).length=s.h.length+2:=by simp
 have hpl3:(s.h++ [O.cell none]++ [O.cell none]++ [O.cell none]).length=s.h.length+3:=by simp
 rw [hpl,hpl2,hpl3];refine W.parC (w:=none) rfl rfl (by simp) (W.parL rfl (W.parC (w:=none) rfl rfl (by simp) (W.parC (w:=none) rfl rfl (by simp) (W.parC (w:=none) rfl rfl (by simp) (W.par0 ?_)))));dsimp only;rw [four_cells];obtain ⟨nt,zp,Rp⟩:=X.rep;obtain ⟨hrm,hrpl⟩:=rm_ hr;generalize hm:s.h.length=m;have c1:(s.h++ [O.cell (some (.ref A.b)),O.cell (some (.int n.place)),O.cell (some (.int np)),O.cell (some (.str x))])[m]? =some (.cell (some (.ref A.b))):=by subst hm;simp
 have c2:(s.h++ [O.cell (some (.ref A.b)),O.cell (some (.int n.place)),O.cell (some (.int np)),O.cell (some (.str x))])[m+1]? =some (.cell (some (.int n.place))):=by subst hm;simp
 have c3:(s.h++ [O.cell (some (.ref A.b)),O.cell (some (.int n.place)),O.cell (some (.int np)),O.cell (some (.str x))])[m+2]? =some (.cell (some (.int np))):=by subst hm;simp
 have c4:(s.h++ [O.cell (some (.ref A.b)),O.cell (some (.int n.place)),O.cell (some (.int np)),O.cell (some (.str x))])[m+3]? =some (.cell (some (.str x))):=by subst hm;simp
 have p1:Pre s.h (s.h++ [O.cell (some (.ref A.b)),O.cell (some (.int n.place)),O.cell (some (.int np)),O.cell (some (.str x))]):=Pre.app _ _;generalize (s.h++ [O.cell (some (.ref A.b)),O.cell (some (.int n.place)),O.cell (some (.int np)),O.cell (some (.str x))])=h1 at c1 c2 c3 c4 p1 ⊢;refine W.stC (W.sA (W.cG (by rfl) ((W.lambdaX (cells:=_) rfl rfl fun hL pL eL=>⟨rfl,?_⟩))));have p2:Pre s.h hL:=p1.trans pL;refine lh_ (d:=d+7) eL (Qv:=fun v h=>v= .none/\(n.par≠0/\isIn ns k np n.place=false/\o_ x=true/\t.kids.lookup x=none)/\∃ o x0 t1,MoveOk ns n np x o x0 t1 k1 k2/\(∃ nt',Rep ⟨h,[]⟩ A last (mv5 ns n np x o x0 t1 k1 k2) nt' zp)/\Keep (foot A ns) hL h/\foot A (mv5 ns n np x o x0 t1 k1 k2)=foot A ns)
  (Ec:=fun C h=>Pre hL h/\((C=111/\(n.par=0\/isIn ns k np n.place=true))\/(C=99/\n.par≠0/\isIn ns k np n.place=false/\o_ x=false)\/(C=63/\n.par≠0/\isIn ns k np n.place=false/\o_ x=true/\(t.kids.lookup x).isSome=true))) (fun lo=>?_) (fun v h ⟨hv,⟨hz0,hin,ok1,no1⟩,o,x0,t1,M,⟨nt',R1⟩,k1',f1⟩=>?_) (fun C h ⟨hp1,hC⟩=>?_)
 ·refine W.lam eL rfl (W.cG (by rfl) ((W.cF (pL.get c1) (W.cF (pL.get c2) (W.cF (pL.get c3) (W.cF (pL.get c4) ⟨rfl,?_⟩))))));refine move_dir_W (Rp.on p2 _) hp ht hz hu ok (fun a1 a2 a3 a4 o x0 t1 M h nt' R1 kk ff=>⟨⟨rfl,⟨a1,a2,a3,a4⟩,o,x0,t1,M,⟨nt',R1⟩,kk,ff⟩,rfl⟩) (fun h hpre h0=>⟨hpre,.inl ⟨rfl,h0⟩⟩) (fun h hpre a1 a2 a3=>⟨hpre,.inr (.inl ⟨rfl,a1,a2,a3⟩)⟩) (fun h c hpre a1 a2 a3 a4=>⟨hpre,.inr (.inr ⟨rfl,a1,a2,a3,by rw [a4];rfl⟩)⟩)
 ·subst hv;have ht1:takenR rs np x=false:=by rw [<-link,no1];rfl
  have kk:Keep (foot A ns) h1 h:=Keep.trans (Keep.of_pre pL) k1';have lm:s.h.length<=h1.length:=p1.len;have nin:∀ j,m<=j->j∉foot A ns:=fun j hj hi=>by have:=Rp.len j hi;dsimp only at this;omega
  have d1:=kk.2 _ _ c1 (nin _ (by omega));have d2:=kk.2 _ _ c2 (nin _ (by omega));have d3:=kk.2 _ _ c3 (nin _ (by omega));have d4:=kk.2 _ _ c4 (nin _ (by omega));have k0:Keep (foot A ns) s.h h:=Keep.trans (Keep.of_pre p1) kk;have X1:Wld h A R last (mv5 ns n np x o x0 t1 k1 k2) rs:=X.base k0 ⟨nt',zp,R1⟩ fun i hi=>f1▸hi;have X2:=X1.pre (Pre.app h [O.tup [.str "told",.none]]);have hin2:decide (n.place∈upR rs k np)=false:=by rw [<-inn];exact hin
  refine W.asN rfl (W.stC (W.sIf (W.trOr (W.anyC (W.t_ rfl (W.r_ X2.rows hr (j:=0) ⟨by decide,by decide⟩ rfl (W.lo rfl ⟨rfl,rfl,W.cI (ga_ d2) ⟨rfl,rfl,W.c_ rfl ⟨rfl,rfl,W.c_ rfl (W.p_ (a:=decide (r.par=0)) (fun _=>rfl) ?_)⟩⟩⟩)))))));rw [decide_eq_false (by rw [hrp];exact hz0)];refine W.anyC (W.t_ rfl (W.cI (ga_ d2) (W.cG (by rfl) ((W.lo rfl (W.cI (ga_ d3) ⟨rfl,?_⟩))))));refine law_up_W X2.rows huR (by omega) fun h3 r3 p3 hr3 hl3=>W.inLL hl3 ?_;rw [hin2];have pp3:Pre h h3:=(Pre.app _ _).trans p3;refine W.any0 (W.stN (W.stC (W.sIf (W.trNot (W.ta_ rfl (W.cG (by rfl) ((W.cI (pp3.get d4) ⟨rfl,?_⟩))))))));refine li_ hz fun h4 p4=>W.p_ (fun _=>rfl) ?_;rw [ok1];have pp4:Pre h h4:=pp3.trans p4;refine W.stN (W.stC (W.sIf (W.ta_ rfl (W.cG (by rfl) ((W.lo rfl (W.cI (pp4.get d3) (W.cI (pp4.get d4) ⟨rfl,?_⟩))))))));refine lt_ (X1.pre pp4).rows fun h5 p5=>W.p_ (fun _=>rfl) ?_;rw [ht1];have pp5:Pre h h5:=pp4.trans p5;have tl:h5[h.length]? =some (.tup [.str "told",.none]):=p5.get (p4.get (p3.get gn_));refine W.stN (W.stC (W.sA (W.list rfl rfl (W.cI (pp5.get d3) (W.cI (pp5.get d4) ?_)))));have X6:=X1.pre (pp5.trans (Pre.app h5 [O.list [.int np,.str x]]));have hl6:(h5++ [O.list [.int np,.str x]])[h5.length]? =some (.list [.int np,.str x]):=gn_;have tl6:(h5++ [O.list [.int np,.str x]])[h.length]? =some (.tup [.str "told",.none]):=ga_ tl;have e6:(h5++ [O.list [.int np,.str x]])[m+1]? =some (.cell (some (.int n.place))):=ga_ (pp5.get d2);have pp6:Pre h (h5++ [O.list [.int np,.str x]]):=pp5.trans (Pre.app _ _);have l5:h.length<=h5.length:=pp5.len;refine W.heap (h':=h5++ [O.list [.int np,.str x]]) rfl ?_;generalize (h5++ [O.list [.int np,.str x]])=h6 at X6 hl6 tl6 e6 pp6 ⊢;have hrl:r.rr < s.h.length:=X.len _ (List.mem_append_right _ (List.mem_cons_of_mem _ (List.mem_map_of_mem hrm)));have l0:s.h.length<=h.length:=k0.1;have hne5:r.rr≠h5.length:=by omega
  refine W.asCut (W.row (by intros;simp) X6.rows hr (W.lo rfl ⟨rfl,rfl,W.cI e6 ⟨rfl,rfl,W.optN (W.optS (W.c_ rfl (W.cut2 (X6.rows.rows r hrm) hl6 ⟨by show 2<=4;decide,hne5,by show 4<=1000;decide,by show 2<=1000;decide⟩ ?_)))⟩⟩));obtain ⟨X7,f7⟩:=X6.rowSet (m:={r with par:=np,name:=x}) hrm rfl rfl;have tl7:(h6.set r.rr (.list ({r with par:=np,name:=x}:Rw).lst))[h.length]? =some (.tup [.str "told",.none]):=gb_ (by omega) tl6;have kall:Keep (fb_ A R ns rs) s.h (h6.set r.rr (.list ({r with par:=np,name:=x}:Rw).lst)):=Keep.set ((k0.mono fun i hi=>List.mem_append_left _ hi).trans (Keep.of_pre pp6)) (.inl (List.mem_append_right _ (List.mem_cons_of_mem _ (List.mem_map_of_mem hrm))));refine W.heap (h':=h6.set r.rr (.list ({r with par:=np,name:=x}:Rw).lst)) rfl ?_;generalize (h6.set r.rr (.list ({r with par:=np,name:=x}:Rw).lst))=h7 at X7 tl7 kall ⊢;refine W.stC (W.s_ (W.cmp1 rfl (W.lo rfl (W.tuple rfl rfl (W.c_ rfl (W.c_ rfl (W.eqT (ga_ tl7) gn_ (b:=decide (("told" :Str)="told") && (true && true)) rfl ?_)))))));rw [decide_eq_true rfl];refine q2 hz0 hin ok1 ht1 o x0 t1 M _ (X7.pre (Pre.app _ _)) ⟨kall.trans (Keep.of_pre (Pre.app _ _)),fun i hi=> .inl ?_⟩;unfold fb_ at hi;rw [f1,f7] at hi;exact hi
 ·have pp1:Pre h1 h:=pL.trans hp1;have X1:=X.pre (p1.trans pp1);have early:∀ nm:Str,(n.par=0\/isIn ns k np n.place=true)\/True:=fun _=> .inr trivial;rcases hC with ⟨rfl,h0⟩ | ⟨rfl,a1,a2,a3⟩ | ⟨rfl,a1,a2,a3,a4⟩
  ·refine ⟨_,rfl,?_⟩;have X2:=X1.pre (Pre.app h [O.tup [.str "InvalidPath",.int 0]]);refine W.asN rfl (W.stC (W.sIf (W.trOr (W.anyC (W.t_ rfl (W.r_ X2.rows hr (j:=0) ⟨by decide,by decide⟩ rfl (W.lo rfl ⟨rfl,rfl,W.cI (ga_ (pp1.get c2)) ⟨rfl,rfl,W.c_ rfl ⟨rfl,rfl,W.c_ rfl (W.p_ (a:=decide (r.par=0)) (fun _=>rfl) ?_)⟩⟩⟩)))))));have fin:∀ h3 lo,Pre (h++ [O.tup [.str "InvalidPath",.int 0]]) h3->lo=putA (Str.ofString "told") (.ref h.length) (putA (Str.ofString "rows") (.ref R) [])->Q (.bool (decide (("InvalidPath" :Str)="InvalidPath"))) {h:=h3,l:=s.l}:=fun h3 lo p3 _=>by
    rw [decide_eq_true rfl];exact q1 h3 (p1.trans (pp1.trans ((Pre.app _ _).trans p3)))
   by_cases hz0:r.par=0
   ·rw [decide_eq_true hz0];exact W.stC (W.s_ (W.told (by intros;simp) rfl gn_ (W.lo rfl ⟨rfl,rfl,W.c_ rfl ⟨rfl,rfl,W.c_ rfl ⟨rfl,rfl,fin _ _ (Pre.refl _) rfl⟩⟩⟩)))
   ·rw [decide_eq_false hz0];have hin2:decide (n.place∈upR rs k np)=true:=by
     rw [<-inn];rcases h0 with h0 | h0
     ·exact absurd (hrp.trans h0) hz0
     ·exact h0
    refine W.anyC (W.t_ rfl (W.cI (ga_ (pp1.get c2)) (W.cG (by rfl) ((W.lo rfl (W.cI (ga_ (pp1.get c3)) ⟨rfl,?_⟩))))));refine law_up_W X2.rows huR (by omega) fun h3 r3 p3 hr3 hl3=>W.inLL hl3 ?_;rw [hin2];exact W.stC (W.s_ (W.told (by intros;simp) rfl (p3.get gn_) (W.lo rfl ⟨rfl,rfl,W.c_ rfl ⟨rfl,rfl,W.c_ rfl ⟨rfl,rfl,fin _ _ p3 rfl⟩⟩⟩)))
  ·refine ⟨_,rfl,?_⟩;have X2:=X1.pre (Pre.app h [O.tup [.str "InvalidName",.int 0]]);refine W.asN rfl (W.stC (W.sIf (W.trOr (W.anyC (W.t_ rfl (W.r_ X2.rows hr (j:=0) ⟨by decide,by decide⟩ rfl (W.lo rfl ⟨rfl,rfl,W.cI (ga_ (pp1.get c2)) ⟨rfl,rfl,W.c_ rfl ⟨rfl,rfl,W.c_ rfl (W.p_ (a:=decide (r.par=0)) (fun _=>rfl) ?_)⟩⟩⟩)))))));rw [decide_eq_false (by rw [hrp];exact a1)];have hin2:decide (n.place∈upR rs k np)=false:=by rw [<-inn];exact a2
   refine W.anyC (W.t_ rfl (W.cI (ga_ (pp1.get c2)) (W.cG (by rfl) ((W.lo rfl (W.cI (ga_ (pp1.get c3)) ⟨rfl,?_⟩))))));refine law_up_W X2.rows huR (by omega) fun h3 r3 p3 hr3 hl3=>W.inLL hl3 ?_;rw [hin2];have pp3:Pre h h3:=(Pre.app _ _).trans p3;refine W.any0 (W.stN (W.stC (W.sIf (W.trNot (W.ta_ rfl (W.cG (by rfl) ((W.cI (pp3.get (pp1.get c4)) ⟨rfl,?_⟩))))))));refine li_ hz fun h4 p4=>W.p_ (fun _=>rfl) ?_;rw [a3];refine W.stC (W.s_ (W.told (by intros;simp) rfl (p4.get (p3.get gn_)) (W.lo rfl ⟨rfl,rfl,W.c_ rfl ⟨rfl,rfl,W.c_ rfl ⟨rfl,rfl,?_⟩⟩⟩)));rw [decide_eq_true rfl];exact q1 h4 (p1.trans (pp1.trans (pp3.trans p4)))
  ·refine ⟨_,rfl,?_⟩;have X2:=X1.pre (Pre.app h [O.tup [.str "Exists",.int 0]]);refine W.asN rfl (W.stC (W.sIf (W.trOr (W.anyC (W.t_ rfl (W.r_ X2.rows hr (j:=0) ⟨by decide,by decide⟩ rfl (W.lo rfl ⟨rfl,rfl,W.cI (ga_ (pp1.get c2)) ⟨rfl,rfl,W.c_ rfl ⟨rfl,rfl,W.c_ rfl (W.p_ (a:=decide (r.par=0)) (fun _=>rfl) ?_)⟩⟩⟩)))))));rw [decide_eq_false (by rw [hrp];exact a1)];have hin2:decide (n.place∈upR rs k np)=false:=by rw [<-inn];exact a2
   refine W.anyC (W.t_ rfl (W.cI (ga_ (pp1.get c2)) (W.cG (by rfl) ((W.lo rfl (W.cI (ga_ (pp1.get c3)) ⟨rfl,?_⟩))))));refine law_up_W X2.rows huR (by omega) fun h3 r3 p3 hr3 hl3=>W.inLL hl3 ?_;rw [hin2];have pp3:Pre h h3:=(Pre.app _ _).trans p3;refine W.any0 (W.stN (W.stC (W.sIf (W.trNot (W.ta_ rfl (W.cG (by rfl) ((W.cI (pp3.get (pp1.get c4)) ⟨rfl,?_⟩))))))));refine li_ hz fun h4 p4=>W.p_ (fun _=>rfl) ?_;rw [a3];have pp4:Pre h h4:=pp3.trans p4;refine W.stN (W.stC (W.sIf (W.ta_ rfl (W.cG (by rfl) ((W.lo rfl (W.cI (pp4.get (pp1.get c3)) (W.cI (pp4.get (pp1.get c4)) ⟨rfl,?_⟩))))))));refine lt_ (X1.pre pp4).rows fun h5 p5=>W.p_ (fun _=>rfl) ?_;rw [<-link,a4];refine W.stC (W.s_ (W.told (by intros;simp) rfl (p5.get (p4.get (p3.get gn_))) (W.lo rfl ⟨rfl,rfl,W.c_ rfl ⟨rfl,rfl,W.c_ rfl ⟨rfl,rfl,?_⟩⟩⟩)));rw [decide_eq_true rfl];exact q1 h5 (p1.trans (pp1.trans (pp4.trans p5)))
end
end
section
variable {w:World}
section
variable {s:S} {A:Adr} {R:Nat} {last:Int} {ns:List Nd} {rs:List Rw} {d:Nat} {E:Addr->S->Prop}
theorem law_dropped_W(X:Wld s.h A R last ns rs){n:Nd}{r:Rw}(hp:ndAt ns n.place=some n)(hr:rwAt rs n.place=some r)(hrp:r.par=n.par){k1:Nat}
  (link:n.kids.isEmpty= !(rs.any fun c=>decide (c.par=n.place)))
  (ok:n.par≠0->n.kids= []->∃ o x0,DropOk ns n o x0 k1) {Q:V->S->Prop}
  (q1:∀ h,Pre s.h h->Q (.bool true) {h:=h,l:=s.l})
  (q2:n.par≠0->n.kids= []->∀ o x0,DropOk ns n o x0 k1->∀ h,Wld h A R last (rmNd (ca_ k1 (mv1 ns o x0) n.par 0 (0 - n.share)) n.place) (rmRw rs n.place)->Nxt s.h (fb_ A R ns rs) h (fb_ A R (rmNd (ca_ k1 (mv1 ns o x0) n.par 0 (0 - n.share)) n.place) (rmRw rs n.place))->Q (.bool true) {h:=h,l:=s.l}):
  W (pg w) (fun F=>F.call (.glob 487) [.ref A.b,.ref R,.int n.place] (d+9)) Q E s:=by
 refine W.fnK (P:=pg w) rfl (hK:=by rfl) (hb:=rfl) (hf:=rfl) (hok:=by rfl) (hs:=rfl) (lq:=some (486,484,"_law_dropped.<locals>.<lambda>")) (hq:=by rfl) (hbs:=rfl) (hc:=rfl) ?_;dsimp only;have hpl:(s.h++ [O.cell none]).length=s.h.length+1:=by simp
 have hpl2:(s.h++ [O.cell none]++ [O.cell none]).length=s.h.length+2:=by simp
 rw [hpl,hpl2];refine W.parC (w:=none) rfl rfl (by simp) (W.parC (w:=none) rfl rfl (by simp) (W.parC (w:=none) rfl rfl (by simp) (W.par0 ?_)));dsimp only;rw [three_cells];obtain ⟨nt,zp,Rp⟩:=X.rep;obtain ⟨hrm,hrpl⟩:=rm_ hr;obtain ⟨hnm,_⟩:=nm_ hp;have hplc:=Rp.places n hnm;generalize hm:s.h.length=m;have c1:(s.h++ [O.cell (some (.ref A.b)),O.cell (some (.ref R)),O.cell (some (.int n.place))])[m]? =some (.cell (some (.ref A.b))):=by subst hm;simp
 have c2:(s.h++ [O.cell (some (.ref A.b)),O.cell (some (.ref R)),O.cell (some (.int n.place))])[m+1]? =some (.cell (some (.ref R))):=by subst hm;simp
 have c3:(s.h++ [O.cell (some (.ref A.b)),O.cell (some (.ref R)),O.cell (some (.int n.place))])[m+2]? =some (.cell (some (.int n.place))):=by subst hm;simp
 have p1:Pre s.h (s.h++ [O.cell (some (.ref A.b)),O.cell (some (.ref R)),O.cell (some (.int n.place))]):=Pre.app _ _;generalize (s.h++ [O.cell (some (.ref A.b)),O.cell (some (.ref R)),O.cell (some (.int n.place))])=h1 at c1 c2 c3 p1 ⊢;refine W.stC (W.sA (W.cG (by rfl) ((W.lambdaX (cells:=_) rfl rfl fun hL pL eL=>⟨rfl,?_⟩))));have p2:Pre s.h hL:=p1.trans pL;refine lh_ (d:=d+7) eL (Qv:=fun v h=>v= .none/\(n.par≠0/\n.kids= [])/\∃ o x0,DropOk ns n o x0 k1/\(∃ nt' zp',Rep ⟨h,[]⟩ A last (rmNd (ca_ k1 (mv1 ns o x0) n.par 0 (0 - n.share)) n.place) nt' zp')/\Keep (foot A ns) hL h/\(∀ i∈foot A (rmNd (ca_ k1 (mv1 ns o x0) n.par 0 (0 - n.share)) n.place),i∈foot A ns))
  (Ec:=fun C h=>Pre hL h/\((C=111/\n.par=0)\/(C=75/\n.par≠0/\n.kids≠ []))) (fun lo=>?_) (fun v h ⟨hv,⟨hz0,hkn⟩,o,x0,M,⟨nt',zp',R1⟩,k1',f1⟩=>?_) (fun C h ⟨hp1,hC⟩=>?_)
 ·refine W.lam eL rfl (W.cG (by rfl) ((W.cF (pL.get c1) (W.cF (pL.get c3) ⟨rfl,?_⟩))));refine drop_dir_W (Rp.on p2 _) hp ok (fun a1 a2 o x0 M h nt' zp' R1 kk ff=>⟨⟨rfl,⟨a1,a2⟩,o,x0,M,⟨nt',zp',R1⟩,kk,ff⟩,rfl⟩) (fun h hpre h0=>⟨hpre,.inl ⟨rfl,h0⟩⟩) (fun h hpre a1 a2=>⟨hpre,.inr ⟨rfl,a1,a2⟩⟩)
 ·subst hv;have kk:Keep (foot A ns) h1 h:=Keep.trans (Keep.of_pre pL) k1';have lm:s.h.length<=h1.length:=p1.len;have nin:∀ j,m<=j->j∉foot A ns:=fun j hj hi=>by have:=Rp.len j hi;dsimp only at this;omega
  have d1:=kk.2 _ _ c1 (nin _ (by omega));have d2:=kk.2 _ _ c2 (nin _ (by omega));have d3:=kk.2 _ _ c3 (nin _ (by omega));have k0:Keep (foot A ns) s.h h:=Keep.trans (Keep.of_pre p1) kk;have X1:Wld h A R last (rmNd (ca_ k1 (mv1 ns o x0) n.par 0 (0 - n.share)) n.place) rs:=X.base k0 ⟨nt',zp',R1⟩ f1;have X2:=X1.pre (Pre.app h [O.tup [.str "told",.none]]);have hany:(rs.any fun c=>decide (c.par=n.place))=false:=by
   rw [hkn] at link;simpa using link
  refine W.asN rfl (W.stC (W.sIf (W.t_ rfl (W.r_ X2.rows hr (j:=0) ⟨by decide,by decide⟩ rfl (W.cI (ga_ d2) ⟨rfl,rfl,W.cI (ga_ d3) ⟨rfl,rfl,W.c_ rfl ⟨rfl,rfl,W.c_ rfl (W.p_ (a:=decide (r.par=0)) (fun _=>rfl) ?_)⟩⟩⟩)))));rw [decide_eq_false (by rw [hrp];exact hz0)];refine W.stN (W.stC (W.sIf (W.t_ rfl (W.cg_ (cells:=_) (fun c=>decide (c.par=n.place)) (fun c=> .int c.place) rfl rfl rfl X2.rows (W.cI (ga_ d2) ⟨rfl,rfl⟩) ?_ ?_ ?_))))
  ·intro c hc h' lo hp' hlo;refine W.test1 (W.t_ rfl (W.r_ (X2.rows.pre hp') (ro_ X.rows.pnd hc) (j:=0) ⟨by decide,by decide⟩ rfl (W.cI (hp'.get (ga_ d2)) ⟨rfl,rfl,W.lo hlo ⟨rfl,rfl,W.c_ rfl ⟨rfl,rfl,W.cI (hp'.get (ga_ d3)) ?_⟩⟩⟩)));exact W.p_ (a:=decide (c.par=n.place)) (fun _=>rfl) ⟨rfl,Pre.refl _,rfl⟩
  ·intro c hc hg h' lo hp' hlo;exact W.lo hlo ⟨rfl,Pre.refl _,rfl⟩
  ·intro h3 acc p3 ha hacc;refine W.list rfl rfl (W.neNil (ga_ hacc) gn_ ?_);rw [filter_any,hany];have pp4:Pre (h++ [O.tup [.str "told",.none]]) (h3++ [O.list []]):=p3.trans (Pre.app _ _);have X4:=X2.pre pp4;have tl:=pp4.get (gn_ (h:=h) (o:=O.tup [.str "told",.none]));have e1:=pp4.get (ga_ (t:= [O.tup [.str "told",.none]]) d1);have e2:=pp4.get (ga_ (t:= [O.tup [.str "told",.none]]) d2);have e3:=pp4.get (ga_ (t:= [O.tup [.str "told",.none]]) d3);have k4:Keep (foot A ns) s.h (h3++ [O.list []]):=k0.trans (Keep.of_pre ((Pre.app _ _).trans pp4));refine W.heap (h':=h3++ [O.list []]) rfl ?_;generalize (h3++ [O.list []])=h4 at pp4 X4 tl e1 e2 e3 k4 ⊢;obtain ⟨kR,eR⟩:=X4.rows.dict;refine W.stN (W.stC (W.sc_ rfl (W.cc_ rfl rfl rfl (W.cI e2 (W.dpopM eR (W.cI e3 ⟨rfl,W.bi (W.popB eR (by rw [rows_like];have:=X.rows.len;simp;omega) (v:= .ref r.rr) (by rw [rows_find,hr];rfl) ?_)⟩))))));have hRl:R < s.h.length:=X.len R (List.mem_append_right _ (by simp));have l0:s.h.length<=h.length:=k0.1;have X5r:=X4.rows.rm eR n.place (kR+1);have kset:Keep [R] h4 (h4.set R (.dict (da_ (.int n.place) (ra_ rs)) (kR+1))):=(Keep.refl _ _).set (.inl (by simp));obtain ⟨nt4,zp4,R4⟩:=X4.rep;have hapart:R∉foot A (rmNd (ca_ k1 (mv1 ns o x0) n.par 0 (0 - n.share)) n.place):=fun hi=>X.apart R (by simp) (f1 R hi);have R5:=R4.keepF kset fun i hi hi2=>by
    rw [List.mem_singleton.mp hi2] at hi;exact hapart hi
   have tl5:=kset.2 _ _ tl (by rw [List.mem_singleton];omega);have e15:=kset.2 _ _ e1 (by rw [List.mem_singleton];omega);have e35:=kset.2 _ _ e3 (by rw [List.mem_singleton];omega);have kall:Keep (fb_ A R ns rs) s.h (h4.set R (.dict (da_ (.int n.place) (ra_ rs)) (kR+1))):=(k4.mono fun i hi=>List.mem_append_left _ hi).trans (kset.mono fun i hi=>List.mem_append_right _ (by rw [List.mem_singleton.mp hi];simp));generalize (h4.set R (.dict (da_ (.int n.place) (ra_ rs)) (kR+1)))=h5 at X5r R5 tl5 e15 e35 kall ⊢;refine W.stC (W.s_ (W.and (W.cmp1 rfl (W.lo rfl (W.tuple rfl rfl (W.c_ rfl (W.c_ rfl (W.eqT (ga_ tl5) gn_ (b:=decide (("told" :Str)="told") && (true && true)) rfl (W.pure ?_)))))))));rw [decide_eq_true rfl];have R6:=R5.on (Pre.app h5 [O.tup [.str "told",.none]]);obtain ⟨kb,ownb⟩:=(R6 []).base.own;refine W.bool1 (W.not (W.cc_ rfl rfl rfl (W.cI (ga_ e15) (W.m_ (R6 []).base.inst ownb mk_is_there rfl rfl (W.cI (ga_ e35) ⟨by rfl,is_there_W (fun _=>rfl) (R6 _).base (W.pure ?_)⟩)))));have z1:f_ (.int n.place) nt4=none:=by
    rw [R4.hnotes,ndAt_rm,if_pos rfl];rfl
   have z2:f_ (.int n.place) zp4=none:=R4.znone n.place hplc.1 (by omega);rw [z1,z2];refine q2 hz0 hkn o x0 M _ ⟨⟨nt4,zp4,R6 []⟩,X5r.pre (Pre.app _ _),fun i hi hi2=>?_⟩ ⟨kall.trans (Keep.of_pre (Pre.app _ _)),fun i hi=> .inl ?_⟩
   ·refine X.apart i ?_ (f1 i hi2);rcases List.mem_cons.mp hi with hi | hi
    ·rw [hi];simp
    ·exact List.mem_cons_of_mem _ ((List.filter_sublist.map _).subset hi)
   ·rcases List.mem_append.mp hi with hi | hi
    ·exact List.mem_append_left _ (f1 i hi)
    ·refine List.mem_append_right _ ?_;rcases List.mem_cons.mp hi with hi | hi
     ·rw [hi];simp
     ·exact List.mem_cons_of_mem _ ((List.filter_sublist.map _).subset hi)
 ·have pp1:Pre h1 h:=pL.trans hp1;have X1:=X.pre (p1.trans pp1);rcases hC with ⟨rfl,h0⟩ | ⟨rfl,a1,a2⟩
  ·refine ⟨_,rfl,?_⟩;have X2:=X1.pre (Pre.app h [O.tup [.str "InvalidPath",.int 0]]);refine W.asN rfl (W.stC (W.sIf (W.t_ rfl (W.r_ X2.rows hr (j:=0) ⟨by decide,by decide⟩ rfl (W.cI (ga_ (pp1.get c2)) ⟨rfl,rfl,W.cI (ga_ (pp1.get c3)) ⟨rfl,rfl,W.c_ rfl ⟨rfl,rfl,W.c_ rfl (W.p_ (a:=decide (r.par=0)) (fun _=>rfl) ?_)⟩⟩⟩)))));rw [decide_eq_true (by rw [hrp];exact h0)];refine W.stC (W.s_ (W.told (by intros;simp) rfl gn_ (W.lo rfl ⟨rfl,rfl,W.c_ rfl ⟨rfl,rfl,W.c_ rfl ⟨rfl,rfl,?_⟩⟩⟩)));rw [decide_eq_true rfl];exact q1 _ (p1.trans (pp1.trans (Pre.app _ _)))
  ·refine ⟨_,rfl,?_⟩;have X2:=X1.pre (Pre.app h [O.tup [.str "Busy",.int 0]]);have hany:(rs.any fun c=>decide (c.par=n.place))=true:=by
    have:n.kids.isEmpty=false:=by cases hk:n.kids with
     | nil=>exact absurd hk a2
     | cons=>rfl
    rw [this] at link;cases hb:(rs.any fun c=>decide (c.par=n.place)) with
    | true=>rfl
    | false=>rw [hb] at link;cases link
   refine W.asN rfl (W.stC (W.sIf (W.t_ rfl (W.r_ X2.rows hr (j:=0) ⟨by decide,by decide⟩ rfl (W.cI (ga_ (pp1.get c2)) ⟨rfl,rfl,W.cI (ga_ (pp1.get c3)) ⟨rfl,rfl,W.c_ rfl ⟨rfl,rfl,W.c_ rfl (W.p_ (a:=decide (r.par=0)) (fun _=>rfl) ?_)⟩⟩⟩)))));rw [decide_eq_false (by rw [hrp];exact a1)];refine W.stN (W.stC (W.sIf (W.t_ rfl (W.cg_ (cells:=_) (fun c=>decide (c.par=n.place)) (fun c=> .int c.place) rfl rfl rfl X2.rows (W.cI (ga_ (pp1.get c2)) ⟨rfl,rfl⟩) ?_ ?_ ?_))))
   ·intro c hc h' lo hp' hlo;refine W.test1 (W.t_ rfl (W.r_ (X2.rows.pre hp') (ro_ X.rows.pnd hc) (j:=0) ⟨by decide,by decide⟩ rfl (W.cI (hp'.get (ga_ (pp1.get c2))) ⟨rfl,rfl,W.lo hlo ⟨rfl,rfl,W.c_ rfl ⟨rfl,rfl,W.cI (hp'.get (ga_ (pp1.get c3))) ?_⟩⟩⟩)));exact W.p_ (a:=decide (c.par=n.place)) (fun _=>rfl) ⟨rfl,Pre.refl _,rfl⟩
   ·intro c hc hg h' lo hp' hlo;exact W.lo hlo ⟨rfl,Pre.refl _,rfl⟩
   ·intro h3 acc p3 ha hacc;refine W.list rfl rfl (W.neNil (ga_ hacc) gn_ ?_);rw [filter_any,hany];refine W.stC (W.s_ (W.told (by intros;simp) rfl (ga_ (p3.get gn_)) (W.lo rfl ⟨rfl,rfl,W.c_ rfl ⟨rfl,rfl,W.c_ rfl ⟨rfl,rfl,?_⟩⟩⟩)));rw [decide_eq_true rfl];exact q1 _ (p1.trans (pp1.trans ((Pre.app _ _).trans (p3.trans (Pre.app _ _)))))
end
end
theorem nd_len{α:Type} [DecidableEq α]:∀ {l l':List α},l.Nodup->(∀ x∈l,x∈l')->l.length<=l'.length
 | [],_,_,_=>Nat.zero_le _
 | a::t,l',nd,h=>by
  rw [List.nodup_cons] at nd;have ha:=h a (.head _);have ih:=nd_len (l:=t) (l':=l'.erase a) nd.2 fun x hx=>by
   have hne:x≠a:=fun z=>nd.1 (z▸hx);exact (List.mem_erase_of_ne hne).mpr (h x (.tail _ hx))
  rw [List.length_erase_of_mem ha] at ih;have:=List.length_pos_of_mem ha;simp only [List.length_cons];omega
theorem pigeon:∀ (D:Nat) (l:List Nat),(∀ j,1<=j->j<=D->j∈l)->D<=l.length
 | D,l,h=>by
  have:=nd_len (l:=(List.range D).map (· +1)) (l':=l) ?_ ?_
  ·simpa using this
  ·refine (List.pairwise_map.mpr ?_);exact List.nodup_range.imp fun h z=>h (by simpa using z)
  ·intro x hx;obtain ⟨i,hi,rfl⟩:=List.mem_map.mp hx;have:i < D:=by simpa using hi
   exact h _ (by omega) (by omega)
def sumF{α:Type}(l:List α)(f:α->Int):Int:=(l.map f).sum
theorem sumF_nil{α:Type}(f:α->Int):sumF [] f=0:=rfl
theorem se_{α:Type}(a:α)(l:List α)(f:α->Int):sumF (a::l) f=f a+sumF l f:=by unfold sumF;rw [List.map_cons,List.sum_cons]
theorem sumF_app{α:Type}(l l':List α)(f:α->Int):sumF (l++l') f=sumF l f+sumF l' f:=by
 induction l with
 | nil=>rw [List.nil_append,sumF_nil];omega
 | cons a r ih=>rw [List.cons_append,se_,se_,ih];omega
theorem sf_{α:Type}{l:List α}{f g:α->Int}(h:∀ a∈l,f a=g a):sumF l f=sumF l g:=by
 unfold sumF;rw [List.map_congr_left h]
theorem sumF_le{α:Type}{l:List α}{f:α->Int}{B:Int}(h:∀ a∈l,f a<=B):sumF l f<=l.length*B:=by
 induction l with
 | nil=>rw [sumF_nil];simp
 | cons a r ih=>
  have h1:=h a (.head _);have h2:=ih fun b hb=>h b (.tail _ hb);rw [se_,List.length_cons];have:((r.length+1:Nat):Int)*B=(r.length:Int)*B+B:=by rw [Int.natCast_add,Int.add_mul];simp
  omega
theorem sumF_nonneg{α:Type}{l:List α}{f:α->Int}(h:∀ a∈l,0<=f a):0<=sumF l f:=by
 induction l with
 | nil=>rw [sumF_nil];decide
 | cons a r ih=>
  have h1:=h a (.head _);have h2:=ih fun b hb=>h b (.tail _ hb);rw [se_];omega
theorem sumF_filter{α:Type}(l:List α)(g:α->Bool)(f:α->Int):((l.filter g).map f).sum=sumF l fun a=>if g a=true then f a else 0:=by
 induction l with
 | nil=>rfl
 | cons a r ih=>
  rw [List.filter_cons,se_,<-ih];by_cases h:g a=true
  ·rw [if_pos h,if_pos h,List.map_cons,List.sum_cons]
  ·rw [if_neg h,if_neg h];omega
theorem sumF_upd(ns:List Nd){n m:Nd}(nd:(ns.map (·.place)).Nodup)(hn:n∈ns)(hp:m.place=n.place)(f:Nd->Int):sumF (u_ ns m) f=sumF ns f+(f m - f n):=by
 induction ns with
 | nil=>cases hn
 | cons a r ih=>
  rw [List.map_cons,List.nodup_cons] at nd;have e:u_ (a::r) m=(if a.place=m.place then m else a)::u_ r m:=rfl;rw [e,se_,se_];rcases List.mem_cons.mp hn with rfl | hn
  ·rw [if_pos hp.symm];have:u_ r m=r:=by
    unfold u_;refine (List.map_congr_left (g:=id) fun b hb=>?_).trans (List.map_id _);have:b.place≠m.place:=fun z=>nd.1 (by rw [<-hp,<-z];exact List.mem_map_of_mem hb);show (if b.place=m.place then m else b)=b;rw [if_neg this]
   rw [this];omega
  ·have:a.place≠m.place:=fun z=>nd.1 (by rw [z,hp];exact List.mem_map_of_mem hn);rw [if_neg this,ih nd.2 hn];omega
theorem sumF_rm(ns:List Nd)(p:Int)(f:Nd->Int):sumF (rmNd ns p) f=sumF ns fun c=>if c.place=p then 0 else f c:=by
 induction ns with
 | nil=>rfl
 | cons a r ih=>
  have e:rmNd (a::r) p=if a.place≠p then a::rmNd r p else rmNd r p:=by
   unfold rmNd;rw [List.filter_cons];simp
  rw [e,se_];by_cases h:a.place=p
  ·rw [if_neg (fun z=>z h),if_pos h,ih];omega
  ·rw [if_pos h,if_neg h,se_,ih]
theorem sorted_eq{α:Type}{lt:α->α->Prop}(irr:∀ a,¬ lt a a)(tr:∀ a b c,lt a b->lt b c->lt a c):∀ {l l':List α},l.Pairwise lt->l'.Pairwise lt->(∀ x,x∈l ↔ x∈l')->l=l'
 | [],[],_,_,_=>rfl
 | [],b::_,_,_,h=>absurd ((h b).mpr (.head _)) List.not_mem_nil
 | a::_,[],_,_,h=>absurd ((h a).mp (.head _)) List.not_mem_nil
 | a::t,b::t',p,p',h=>by
  rw [List.pairwise_cons] at p p';have hab:a=b:=by
   rcases List.mem_cons.mp ((h a).mp (.head _)) with h1 | h1
   ·exact h1
   ·rcases List.mem_cons.mp ((h b).mpr (.head _)) with h2 | h2
    ·exact h2.symm
    ·exact absurd (tr _ _ _ (p.1 b h2) (p'.1 a h1)) (irr a)
  subst hab;congr 1;refine sorted_eq irr tr p.2 p'.2 fun x=>?_;have hx:=h x;rw [List.mem_cons,List.mem_cons] at hx;constructor
  ·intro m;rcases hx.mp (.inr m) with z | z
   ·exact absurd (p.1 x m) (z▸irr a)
   ·exact z
  ·intro m;rcases hx.mpr (.inr m) with z | z
   ·exact absurd (p'.1 x m) (z▸irr a)
   ·exact z
theorem insBy_ord{α:Type}{lt:α->α->Bool}{D:α->Prop}(tri:∀ a b,D a->D b->a≠b->lt a b=true\/lt b a=true)(tr:∀ a b c,D a->D b->D c->lt a b=true->lt b c=true->lt a c=true)(x:α)(hx:D x):
  ∀ l:List α,(∀ y∈l,D y)->x∉l->l.Pairwise (fun a b=>lt a b=true)->(ib_ lt x l).Pairwise (fun a b=>lt a b=true)
 | [],_,_,_=>by unfold ib_;exact List.pairwise_singleton _ _
 | y::r,hD,hne,p=>by
  rw [List.pairwise_cons] at p;unfold ib_;by_cases h:lt y x=true
  ·rw [if_pos h,List.pairwise_cons];refine ⟨fun z hz=>?_,insBy_ord tri tr x hx r (fun y hy=>hD y (.tail _ hy)) (fun z=>hne (.tail _ z)) p.2⟩;rcases (insBy_mem lt x r z).mp hz with hz | hz
   ·subst hz;exact h
   ·exact p.1 z hz
  ·rw [if_neg h,List.pairwise_cons];have hxy:lt x y=true:=(tri x y hx (hD y (.head _)) (fun z=>hne (by rw [z];exact .head _))).resolve_right h;refine ⟨fun z hz=>?_,List.pairwise_cons.mpr p⟩;rcases List.mem_cons.mp hz with hz | hz
   ·subst hz;exact hxy
   ·exact tr x y z hx (hD y (.head _)) (hD z (.tail _ hz)) hxy (p.1 z hz)
theorem sp_{α:Type}{lt:α->α->Bool}{D:α->Prop}(tri:∀ a b,D a->D b->a≠b->lt a b=true\/lt b a=true)(tr:∀ a b c,D a->D b->D c->lt a b=true->lt b c=true->lt a c=true):
  ∀ l:List α,(∀ y∈l,D y)->l.Nodup->(sa_ lt l).Pairwise (fun a b=>lt a b=true)
 | [],_,_=>List.Pairwise.nil
 | x::r,hD,nd=>by
  rw [List.nodup_cons] at nd;unfold sa_;refine insBy_ord tri tr x (hD x (.head _)) _ (fun y hy=>hD y (.tail _ ((sm_ _ _ y).mp hy))) (fun z=>nd.1 ((sm_ _ _ x).mp z)) (sp_ tri tr r (fun y hy=>hD y (.tail _ hy)) nd.2)
def goodNames:List Str:=lawNames.filter o_
theorem names_tri:∀ a∈lawNames,∀ b∈lawNames,a≠b->sd_ a b=true\/sd_ b a=true:=by decide+kernel
theorem names_tr:∀ a∈lawNames,∀ b∈lawNames,∀ c∈lawNames,sd_ a b=true->sd_ b c=true->sd_ a c=true:=by decide+kernel
theorem str_irr(a:Str):¬ sd_ a a=true:=by
 unfold sd_;rw [decide_eq_true_eq];exact List.lt_irrefl _
theorem plt_tri:∀ a b:Str×Int,a.1∈lawNames->b.1∈lawNames->a≠b->plt a b=true\/plt b a=true:=fun a b ha hb hne=>by
 unfold plt;by_cases h:a.1=b.1
 ·have h2:a.2≠b.2:=fun z=>hne (Prod.ext h z);rcases Int.lt_or_gt_of_ne h2 with h3 | h3
  ·left;simp [h,h3]
  ·right;simp [h,h3]
 ·rcases names_tri _ ha _ hb h with h1 | h1
  ·left;simp [h1]
  ·right;simp [h1]
theorem plt_tr:∀ a b c:Str×Int,a.1∈lawNames->b.1∈lawNames->c.1∈lawNames->plt a b=true->plt b c=true->plt a c=true:=fun a b c ha hb hc h1 h2=>by
 unfold plt at h1 h2 ⊢;simp only [Bool.or_eq_true,Bool.and_eq_true,decide_eq_true_eq] at h1 h2 ⊢;rcases h1 with h1 | ⟨h1,h1'⟩
 ·rcases h2 with h2 | ⟨h2,h2'⟩
  ·exact .inl (names_tr _ ha _ hb _ hc h1 h2)
  ·exact .inl (h2▸h1)
 ·rcases h2 with h2 | ⟨h2,h2'⟩
  ·exact .inl (h1▸h2)
  ·exact .inr ⟨h1.trans h2,by omega⟩
theorem sort_names{l l':List Str}(h1:∀ x∈l,x∈lawNames)(n1:l.Nodup)(n2:l'.Nodup)(h:∀ x,x∈l ↔ x∈l'):sa_ sd_ l=sa_ sd_ l':=by
 have s1:=sp_ (lt:=sd_) (D:=(· ∈lawNames)) (fun a b ha hb=>names_tri a ha b hb) (fun a b c ha hb hc=>names_tr a ha b hb c hc) l h1 n1;have s2:=sp_ (lt:=sd_) (D:=(· ∈lawNames)) (fun a b ha hb=>names_tri a ha b hb) (fun a b c ha hb hc=>names_tr a ha b hb c hc) l' (fun x hx=>h1 x ((h x).mpr hx)) n2;refine sorted_eq (lt:=fun a b=>sd_ a b=true) str_irr (fun a b c x y=>?_) s1 s2 fun x=>by rw [sm_,sm_];exact h x
 have lt1:a.cps.toList < b.cps.toList:=by simpa [sd_] using x
 have lt2:b.cps.toList < c.cps.toList:=by simpa [sd_] using y
 show decide _=true;exact decide_eq_true (List.lt_trans lt1 lt2)
def joinL(c:Nat):List (List Nat)->List Nat
 | []=> []
 | [x]=>x
 | x::y::r=>x++c::joinL c (y::r)
theorem joinL_inj(c:Nat):∀ {l l':List (List Nat)},l≠ []->l'≠ []->(∀ p∈l,c∉p)->(∀ p∈l',c∉p)->joinL c l=joinL c l'->l=l':=by
 have one:∀ (p q t u:List Nat),c∉p->c∉q->p++c::t=q++c::u->p=q/\t=u:=by
  intro p
  induction p with
  | nil=>
   intro q t u _ hq e;cases q with
   | nil=>simpa using e
   | cons b s=>
    simp only [List.nil_append,List.cons_append,List.cons.injEq] at e;exact absurd (e.1▸List.mem_cons_self) hq
  | cons a r ih=>
   intro q t u hp hq e;cases q with
   | nil=>
    simp only [List.nil_append,List.cons_append,List.cons.injEq] at e;exact absurd (e.1▸List.mem_cons_self) hp
   | cons b s=>
    simp only [List.cons_append,List.cons.injEq] at e;obtain ⟨h1,h2⟩:=ih s t u (fun z=>hp (.tail _ z)) (fun z=>hq (.tail _ z)) e.2;exact ⟨by rw [e.1,h1],h2⟩
 intro l
 induction l with
 | nil=>intro l' h;exact absurd rfl h
 | cons x r ih=>
  intro l' _ h2 f1 f2 e;cases l' with
  | nil=>exact absurd rfl h2
  | cons x' r'=>
   cases r with
   | nil=>
    cases r' with
    | nil=>simpa [joinL] using e
    | cons y' s'=>
     have e':x=x'++c::joinL c (y'::s'):=e;have:=f1 x (.head _);rw [e'] at this;exact absurd (by simp) this
   | cons y s=>
    cases r' with
    | nil=>
     have e':x++c::joinL c (y::s)=x':=e;have:=f2 x' (.head _);rw [<-e'] at this;exact absurd (by simp) this
    | cons y' s'=>
     obtain ⟨h3,h4⟩:=one x x' _ _ (f1 x (.head _)) (f2 x' (.head _)) e;rw [h3,ih (by simp) (by simp) (fun p hp=>f1 p (.tail _ hp)) (fun p hp=>f2 p (.tail _ hp)) h4]
theorem join_list(c:Nat):∀ l:List Str,(Str.join ⟨#[c]⟩ l).cps.toList=joinL c (l.map (·.cps.toList))
 | []=>rfl
 | [x]=>rfl
 | x::y::r=>by
  have ih:=join_list c (y::r);show (x++(⟨#[c]⟩:Str)++Str.join ⟨#[c]⟩ (y::r)).cps.toList=_;rw [Str.cps_append,Str.cps_append,Array.toList_append,Array.toList_append,ih];show x.cps.toList++ [c]++joinL c ((y::r).map (·.cps.toList))=x.cps.toList++c::joinL c ((y::r).map (·.cps.toList));simp
theorem slash:("/" :Str)=⟨#[47]⟩:=by decide+kernel
theorem txt_join(l:List Str):Txt.join "/" l=Str.join ⟨#[47]⟩ l:=by
 rw [<-slash];exact StrLaws.glued_eq_join _ _
theorem split_join{l:List Str}(h:l≠ [])(hf:∀ p∈l,47∉p.cps.toList):Txt.split (Txt.join "/" l) "/"=l:=by
 have e:=StrLaws.join_split (Txt.join "/" l) ⟨#[47]⟩;have fr:=StrLaws.split_free (Txt.join "/" l) 47;have ps:=split_pos (Txt.join "/" l) ⟨#[47]⟩;rw [slash];rw [slash] at e fr ps;generalize Txt.split (Txt.join ⟨#[47]⟩ l) ⟨#[47]⟩=l' at e fr ps;have e2:Txt.join ⟨#[47]⟩ l=Str.join ⟨#[47]⟩ l:=StrLaws.glued_eq_join _ _;rw [e2] at e;have e3:joinL 47 (l'.map (·.cps.toList))=joinL 47 (l.map (·.cps.toList)):=by rw [<-join_list,<-join_list,e]
 have ne:l'≠ []:=fun z=>by rw [z] at ps;simp at ps
 have e4:=joinL_inj 47 (by simpa using ne) (by simpa using h) (fun p hp=>by
  obtain ⟨q,hq,rfl⟩:=List.mem_map.mp hp;exact fr q hq) (fun p hp=>by
  obtain ⟨q,hq,rfl⟩:=List.mem_map.mp hp;exact hf q hq) e3
 refine List.map_inj_right (f:=fun x:Str=>x.cps.toList) (fun a b hab=>?_) |>.mp e4
 cases a;cases b;simp only [Array.toList_inj] at hab;rw [hab]
theorem gg_:∀ p∈lawNames,o_ p=true->47∉p.cps.toList/\p≠""/\p.length<=12/\p≠"nothing":=by decide+kernel
theorem join_ne{l:List Str}(h:l≠ [])(hf:∀ p∈l,p≠""):Txt.join "/" l≠"":=by
 intro z;have e:(Txt.join "/" l).cps.toList=("" :Str).cps.toList:=congrArg (fun x:Str=>x.cps.toList) z;rw [txt_join,join_list] at e;have e0:("" :Str).cps.toList= []:=by decide+kernel
 rw [e0] at e;cases l with
 | nil=>exact h rfl
 | cons x r=>
  have hx:x.cps.toList= []:=by
   cases r with
   | nil=>exact e
   | cons y s=>
    have e':x.cps.toList++47::joinL 47 ((y::s).map (·.cps.toList))= []:=e;simp at e'
  refine hf x (.head _) ?_;have e1:("" :Str)=⟨#[]⟩:=by decide+kernel
  rw [e1];cases x;simp only [Array.toList_eq_nil_iff] at hx;rw [hx]
theorem parts_join{l:List Str}(hf:∀ p∈l,p∈lawNames/\o_ p=true):pb_ (Txt.join "/" l)=l:=by
 cases l with
 | nil=>exact if_pos (by decide+kernel:Txt.join "/" []="")
 | cons x r=>
  unfold pb_;rw [if_neg (join_ne (by simp) fun p hp=>(gg_ p (hf p hp).1 (hf p hp).2).2.1)];exact split_join (by simp) fun p hp=>(gg_ p (hf p hp).1 (hf p hp).2).1
theorem nothing_free:47∉("nothing" :Str).cps.toList/\47∉("" :Str).cps.toList:=by decide+kernel
theorem join_snoc(x:Str)(l:List Str)(h:l≠ []):Txt.join "/" l++"/"++x=Txt.join "/" (l++ [x]):=by
 rw [txt_join,txt_join,slash]
 induction l with
 | nil=>exact absurd rfl h
 | cons a r ih=>
  cases r with
  | nil=>rfl
  | cons b s=>
   have ih:=ih (by simp);show a++(⟨#[47]⟩:Str)++Str.join ⟨#[47]⟩ (b::s)++⟨#[47]⟩++x=a++(⟨#[47]⟩:Str)++Str.join ⟨#[47]⟩ (b::s++ [x]);rw [<-ih];simp only [Str.append_assoc]
theorem parts_nothing{l:List Str}(hf:∀ p∈l,p∈lawNames/\o_ p=true):pb_ (Txt.join "/" l++"/nothing")=if l= [] then [("" :Str),("nothing" :Str)] else l++ [("nothing" :Str)]:=by
 have e1:("/nothing" :Str)=("/" :Str)++"nothing":=by decide+kernel
 cases l with
 | nil=>rw [if_pos rfl];decide+kernel
 | cons x r=>
  rw [if_neg (by simp),e1,<-Str.append_assoc,join_snoc _ _ (by simp)];have hne:∀ p∈(x::r)++ [("nothing" :Str)],p≠"":=fun p hp=>by
   rcases List.mem_append.mp hp with hp | hp
   ·exact (gg_ p (hf p hp).1 (hf p hp).2).2.1
   ·rw [List.mem_singleton.mp hp];decide+kernel
  unfold pb_;rw [if_neg (join_ne (by simp) hne)];refine split_join (by simp) fun p hp=>?_;rcases List.mem_append.mp hp with hp | hp
  ·exact (gg_ p (hf p hp).1 (hf p hp).2).1
  ·rw [List.mem_singleton.mp hp];exact nothing_free.1
theorem parts_ab:pb_ "a//b"= [("a" :Str),("" :Str),("b" :Str)]:=by decide+kernel
section
structure Tree(ps:List (Int×Int))(dep:Int->Nat):Prop where
 zero:dep 0=0
 up:∀ e∈ps,dep e.1=dep e.2+1/\(e.2=0\/∃ f∈ps,f.1=e.2)
theorem Tree.chain{ps:List (Int×Int)}{dep:Int->Nat}(T:Tree ps dep):∀ (D:Nat) (e:Int×Int),e∈ps->dep e.1=D->∀ j,1<=j->j<=D->∃ f∈ps,dep f.1=j
 | 0,e,he,hd,j,h1,h2=>by omega
 | D+1,e,he,hd,j,h1,h2=>by
  by_cases hj:j=D+1
  ·exact ⟨e,he,by rw [hd,hj]⟩
  ·obtain ⟨u1,u2⟩:=T.up e he;rcases u2 with u2 | ⟨f,hf,u2⟩
   ·rw [u2,T.zero] at u1;omega
   ·exact T.chain D f hf (by rw [u2];omega) j h1 (by omega)
theorem Tree.bound{ps:List (Int×Int)}{dep:Int->Nat}(T:Tree ps dep){e:Int×Int}(he:e∈ps):dep e.1<=ps.length:=by
 have:=pigeon (dep e.1) (ps.map fun f=>dep f.1) fun j h1 h2=>by
  obtain ⟨f,hf,e2⟩:=T.chain (dep e.1) e he rfl j h1 h2;exact List.mem_map.mpr ⟨f,hf,e2⟩
 simpa using this
abbrev keyN(n:Nd):Int×Int×Int×Int:=(n.place,n.par,n.used,n.res)
abbrev keyR(r:Rw):Int×Int×Int×Int:=(r.place,r.par,r.used,r.res)
def ce_(ns:List Nd)(ex p:Int):Int:=sumF ns fun c=>if c.par=p/\c.place≠ex then c.share else 0
structure Inv(last:Int)(ns:List Nd)(rs:List Rw)(t:Nat):Prop where
 key:rs.map keyR=ns.map keyN
 pnd:(ns.map (·.place)).Nodup
 pl:∀ n∈ns,4<=n.place/\n.place<=last
 kids:∀ p n,ndAt ns p=some n->∀ x c,n.kids.lookup x=some c ↔ ∃ r∈rs,r.par=p/\r.name=x/\r.place=c
 names:∀ r∈rs,r.par≠0->r.name∈lawNames/\o_ r.name=true
 root:(∃ r∈rs,r.place=4)/\∀ r∈rs,r.par=0 ↔ r.place=4
 dep:∃ dep,Tree (ns.map fun n=>(n.place,n.par)) dep
 sums:∀ n∈ns,n.bel=ce_ ns (-1) n.place
 bnd:∀ n∈ns,(0<=n.used/\n.used<=99)/\0<=n.res/\n.res<=99
 len:ns.length<=t+1/\last<=4+3*(t:Int)/\4<=last
theorem key_at:∀ {rs:List Rw} {ns:List Nd} (_:rs.map keyR=ns.map keyN) (p:Int),(rwAt rs p).map keyR=(ndAt ns p).map keyN
 | [],[],_,p=>rfl
 | r::rs,n::ns,h,p=>by
  simp only [List.map_cons,List.cons.injEq] at h;have hp:r.place=n.place:=congrArg (·.1) h.1;rw [nc_];unfold rwAt;rw [List.find?_cons];by_cases e:n.place=p
  ·rw [if_pos e,decide_eq_true (hp.trans e)];exact congrArg some h.1
  ·rw [if_neg e,decide_eq_false (fun z=>e (hp▸z))];exact key_at h.2 p
 | [],_::_,h,_=>by simp at h
 | _::_,[],h,_=>by simp at h
section
variable {last:Int} {ns:List Nd} {rs:List Rw} {t:Nat}
theorem Inv.nd_of(I:Inv last ns rs t){p:Int}{r:Rw}(h:rwAt rs p=some r):∃ n,ndAt ns p=some n/\keyR r=keyN n:=by
 have e:=key_at I.key p;rw [h] at e;cases hn:ndAt ns p with
 | none=>rw [hn] at e;cases e
 | some n=>rw [hn] at e;exact ⟨n,rfl,Option.some.inj e⟩
theorem Inv.rw_of(I:Inv last ns rs t){p:Int}{n:Nd}(h:ndAt ns p=some n):∃ r,rwAt rs p=some r/\keyR r=keyN n:=by
 have e:=key_at I.key p;rw [h] at e;cases hn:rwAt rs p with
 | none=>rw [hn] at e;cases e
 | some r=>rw [hn] at e;exact ⟨r,rfl,Option.some.inj e⟩
theorem key_places{rs:List Rw}{ns:List Nd}(h:rs.map keyR=ns.map keyN):rs.map (·.place)=ns.map (·.place):=by
 have:=congrArg (List.map (·.1)) h;rw [List.map_map,List.map_map] at this;exact this
theorem key_pars{rs:List Rw}{ns:List Nd}(h:rs.map keyR=ns.map keyN):(rs.map fun r=>(r.place,r.par))=ns.map fun n=>(n.place,n.par):=by
 have:=congrArg (List.map fun k:Int×Int×Int×Int=>(k.1,k.2.1)) h;rw [List.map_map,List.map_map] at this;exact this
theorem Inv.rnd(I:Inv last ns rs t):(rs.map (·.place)).Nodup:=by rw [key_places I.key];exact I.pnd
theorem Inv.rlen(I:Inv last ns rs t):rs.length=ns.length:=by
 have:=congrArg List.length I.key;simpa using this
structure TreeR(rs:List Rw)(dep:Int->Nat):Prop where
 zero:dep 0=0
 up:∀ r∈rs,dep r.place=dep r.par+1/\(r.par=0\/∃ q,rwAt rs r.par=some q)
 bound:∀ r∈rs,dep r.place<=rs.length
 nz:∀ r∈rs,r.place≠0
theorem Inv.tree(I:Inv last ns rs t){dep:Int->Nat}(T:Tree (ns.map fun n=>(n.place,n.par)) dep):TreeR rs dep:=by
 rw [<-key_pars I.key] at T;refine ⟨T.zero,fun r hr=>?_,fun r hr=>?_,fun r hr z=>?_⟩
 ·obtain ⟨h1,h2⟩:=T.up (r.place,r.par) (List.mem_map.mpr ⟨r,hr,rfl⟩);refine ⟨h1,h2.imp_right fun ⟨f,hf,e⟩=>?_⟩;obtain ⟨q,hq,rfl⟩:=List.mem_map.mp hf;refine ⟨q,?_⟩;have e:q.place=r.par:=e;rw [<-e];exact ro_ I.rnd hq
 ·have:=T.bound (e:=(r.place,r.par)) (List.mem_map.mpr ⟨r,hr,rfl⟩);simpa using this
 ·have:(0:Int)∈rs.map (·.place):=List.mem_map.mpr ⟨r,hr,z⟩;rw [key_places I.key] at this;obtain ⟨n,hn,e⟩:=List.mem_map.mp this;have:=I.pl n hn;have e:n.place=0:=e;omega
theorem TreeR.climb{dep:Int->Nat}(T:TreeR rs dep):∀ (k:Nat) (p:Int),(p=0\/∃ r,rwAt rs p=some r)->dep p<=k->ClimbR rs k p
 | 0,p,h,hk=>by
  rcases h with h | ⟨r,h⟩
  ·exact h
  ·obtain ⟨hr,hp⟩:=rm_ h;have:=(T.up r hr).1;rw [hp] at this;omega
 | k+1,p,h,hk=>by
  rcases h with h | ⟨r,h⟩
  ·exact .inl h
  ·obtain ⟨hr,hp⟩:=rm_ h;obtain ⟨h1,h2⟩:=T.up r hr;rw [hp] at h1;exact .inr ⟨r,h,T.climb k r.par h2 (by omega)⟩
theorem TreeR.deep{dep:Int->Nat}(T:TreeR rs dep):∀ (k:Nat) (p:Int),(∃ r,rwAt rs p=some r)->rs.length+1<=dep p+k->Deep rs k p
 | 0,p,⟨r,h⟩,hk=>by
  obtain ⟨hr,hp⟩:=rm_ h;have:=T.bound r hr;rw [hp] at this;omega
 | k+1,p,⟨r,h⟩,hk=>fun c hc hcp=>by
  have h1:=(T.up c hc).1;rw [hcp] at h1;refine T.deep k c.place ?_ (by omega);rcases h2:rwAt rs c.place with _ | q
  ·exfalso;have:=List.find?_eq_none.mp h2 c hc;simp at this
  ·exact ⟨q,rfl⟩
theorem us_(rs:List Rw)(k:Nat)(p:Int):upR rs (k+1) p=if p=0 then [] else match rwAt rs p with
  | some r=>p::upR rs k r.par
  | none=> []:=rfl
theorem is_(ns:List Nd)(k:Nat)(p o:Int):isIn ns (k+1) p o=if p=0 then false else if p=o then true else match ndAt ns p with
  | some n=>isIn ns k n.par o
  | none=>false:=rfl
theorem Inv.climbN(I:Inv last ns rs t):∀ (k:Nat) (p:Int),ClimbR rs k p->ci_ ns k p
 | 0,p,h=>h
 | k+1,p,h=>by
  rcases h with h | ⟨r,hr,h⟩
  ·exact .inl h
  ·obtain ⟨n,hn,e⟩:=I.nd_of hr;have e2:r.par=n.par:=congrArg (·.2.1) e;exact .inr ⟨n,hn,I.climbN k n.par (e2▸h)⟩
theorem Inv.inn(I:Inv last ns rs t):∀ (k:Nat) (p o:Int),ClimbR rs k p->isIn ns k p o=decide (o∈upR rs k p)
 | 0,p,o,h=>by simp [isIn,upR]
 | k+1,p,o,h=>by
  rw [is_,us_];by_cases hz:p=0
  ·rw [if_pos hz,if_pos hz];simp
  ·rw [if_neg hz,if_neg hz];rcases h with h | ⟨r,hr,h⟩
   ·exact absurd h hz
   ·obtain ⟨n,hn,e⟩:=I.nd_of hr;have e2:r.par=n.par:=congrArg (·.2.1) e;rw [hr,hn];dsimp only;by_cases ho:p=o
    ·subst ho;rw [if_pos rfl];simp
    ·rw [if_neg ho,I.inn k n.par o (e2▸h)];have:¬ o=p:=fun z=>ho z.symm;simp [this,e2]
theorem Inv.kid_mem(I:Inv last ns rs t){p:Int}{n:Nd}(hn:ndAt ns p=some n)(x:Str):x∈n.kids.map (·.1) ↔ x∈(rs.filter fun c=>decide (c.par=p)).map (·.name):=by
 constructor
 ·intro h;obtain ⟨c,hc⟩:=lookup_some h;obtain ⟨r,hr,h1,h2,h3⟩:=(I.kids p n hn x c).mp hc;exact List.mem_map.mpr ⟨r,List.mem_filter.mpr ⟨hr,by simpa using h1⟩,h2⟩
 ·intro h;obtain ⟨r,hr,h2⟩:=List.mem_map.mp h;obtain ⟨hr,h1⟩:=List.mem_filter.mp hr;have:=(I.kids p n hn x r.place).mpr ⟨r,hr,by simpa using h1,h2,rfl⟩;exact List.mem_map.mpr ⟨_,lm_ this,rfl⟩
theorem Inv.par_nz(I:Inv last ns rs t){p:Int}{n:Nd}(hn:ndAt ns p=some n):p≠0:=by
 obtain ⟨h1,h2⟩:=nm_ hn;have:=I.pl n h1;omega
theorem Inv.uniq(I:Inv last ns rs t){r q:Rw}(hr:r∈rs)(hq:q∈rs)(hp:r.par=q.par)(hx:r.name=q.name):r=q:=by
 obtain ⟨dep,T⟩:=I.dep;have TR:=I.tree T;rcases (TR.up r hr).2 with hz | ⟨o,ho⟩
 ·have h1:=(I.root.2 r hr).mp hz;have h2:=(I.root.2 q hq).mp (hp▸hz);exact ni_ I.rnd hr hq (h1.trans h2.symm)
 ·obtain ⟨n,hn,_⟩:=I.nd_of ho;have h1:=(I.kids r.par n hn r.name r.place).mpr ⟨r,hr,rfl,rfl,rfl⟩;have h2:=(I.kids r.par n hn r.name q.place).mpr ⟨q,hq,hp.symm,hx.symm,rfl⟩;rw [h1] at h2;exact ni_ I.rnd hr hq (Option.some.inj h2)
theorem Inv.kids_nd(I:Inv last ns rs t)(p:Int):((rs.filter fun c=>decide (c.par=p)).map (·.name)).Nodup:=by
 have nd:rs.Nodup:=List.Pairwise.of_map (·.place) (fun a b h z=>h (congrArg _ z)) I.rnd;have nf:(rs.filter fun c=>decide (c.par=p)).Nodup:=List.filter_sublist.nodup nd;refine List.pairwise_map.mpr (List.Pairwise.imp_of_mem (fun {a b} ha hb hne hx=>hne ?_) nf);obtain ⟨ha1,ha2⟩:=List.mem_filter.mp ha;obtain ⟨hb1,hb2⟩:=List.mem_filter.mp hb;exact I.uniq ha1 hb1 ((of_decide_eq_true ha2).trans (of_decide_eq_true hb2).symm) hx
theorem Inv.kid_good(I:Inv last ns rs t){p:Int}(hp:p≠0):∀ x∈(rs.filter fun c=>decide (c.par=p)).map (·.name),x∈lawNames:=by
 intro x hx;obtain ⟨r,hr,rfl⟩:=List.mem_map.mp hx;obtain ⟨hr,h1⟩:=List.mem_filter.mp hr;have h1:r.par=p:=of_decide_eq_true h1;exact (I.names r hr (h1▸hp)).1
theorem Inv.names_eq(I:Inv last ns rs t){p:Int}{n:Nd}(hn:ndAt ns p=some n)(nk:(n.kids.map (·.1)).Nodup):ka_ n=sa_ sd_ ((rs.filter fun c=>decide (c.par=p)).map (·.name)):=
 sort_names (fun x hx=>I.kid_good (I.par_nz hn) x ((I.kid_mem hn x).mp hx)) nk (I.kids_nd p) (I.kid_mem hn)
theorem Inv.kidsR_names(I:Inv last ns rs t){p:Int}(hp:p≠0):(kb_ rs p).map (·.1)=sa_ sd_ ((rs.filter fun c=>decide (c.par=p)).map (·.name)):=by
 have good:∀ e∈(rs.filter fun c=>decide (c.par=p)).map fun c=>(c.name,c.place),e.1∈lawNames:=fun e he=>by
  obtain ⟨c,hc,rfl⟩:=List.mem_map.mp he;exact I.kid_good hp c.name (List.mem_map.mpr ⟨c,hc,rfl⟩)
 have s1:=sp_ (lt:=plt) (D:=fun e=>e.1∈lawNames) plt_tri plt_tr _ good (kids_nodup I.rnd p);have s2:=sp_ (lt:=sd_) (D:=(· ∈lawNames)) (fun a b ha hb=>names_tri a ha b hb) (fun a b c ha hb hc=>names_tr a ha b hb c hc) _ (I.kid_good hp) (I.kids_nd p);refine sorted_eq (lt:=fun a b=>sd_ a b=true) str_irr (fun a b c x y=>?_) ?_ s2 fun x=>?_
 ·have lt1:a.cps.toList < b.cps.toList:=by simpa [sd_] using x
  have lt2:b.cps.toList < c.cps.toList:=by simpa [sd_] using y
  exact decide_eq_true (List.lt_trans lt1 lt2)
 ·have s3:=s1.imp (S:=fun a b=>plt a b=true/\a≠b) fun {a b} h=>⟨h,fun z=>by
   subst z;unfold plt at h;have h0:sd_ a.1 a.1=false:=by simpa using str_irr a.1
   rw [h0] at h;simp at h⟩
  refine List.pairwise_map.mpr (List.Pairwise.imp_of_mem (fun {a b} ha hb hlt=>?_) s3);obtain ⟨hlt,hne⟩:=hlt;unfold plt at hlt;simp only [Bool.or_eq_true,Bool.and_eq_true,decide_eq_true_eq] at hlt;rcases hlt with h | ⟨h,_⟩
  ·exact h
  ·exfalso;obtain ⟨c,hc,h1,h2,h3⟩:=km_ ha;obtain ⟨d,hd,h4,h5,h6⟩:=km_ hb;have:=I.uniq hc hd (h1.trans h4.symm) (h2.trans (h.trans h5.symm));subst this;exact hne (Prod.ext h (h3.symm.trans h6))
 ·rw [sm_];constructor
  ·intro h;obtain ⟨e,he,rfl⟩:=List.mem_map.mp h;obtain ⟨c,hc,h1,h2,h3⟩:=km_ he;exact List.mem_map.mpr ⟨c,List.mem_filter.mpr ⟨hc,by simpa using h1⟩,h2⟩
  ·intro h;obtain ⟨c,hc,rfl⟩:=List.mem_map.mp h;exact List.mem_map.mpr ⟨(c.name,c.place),(sm_ _ _ _).mpr (List.mem_map.mpr ⟨c,hc,rfl⟩),rfl⟩
theorem Inv.kidPlaces(I:Inv last ns rs t){p:Int}{n:Nd}(hn:ndAt ns p=some n)(nk:(n.kids.map (·.1)).Nodup):kidPlaces n=(kb_ rs p).map (·.2):=by
 unfold Mine.kidPlaces;rw [I.names_eq hn nk,<-I.kidsR_names (I.par_nz hn),List.map_map];refine List.map_congr_left fun e he=>?_;obtain ⟨c,hc,h1,h2,h3⟩:=km_ he;have:=(I.kids p n hn e.1 e.2).mpr ⟨c,hc,h1,h2,h3⟩;show (n.kids.lookup e.1).getD 0=e.2;rw [this];rfl
end
end
section
section
variable {last:Int} {ns:List Nd} {rs:List Rw} {t:Nat}
theorem sum_key{rs:List Rw}{ns:List Nd}(h:rs.map keyR=ns.map keyN)(F:Int×Int×Int×Int->Int):(sumF rs fun r=>F (keyR r))=sumF ns fun n=>F (keyN n):=by
 have:=congrArg (fun l=>(List.map F l).sum) h;simp only [List.map_map] at this;exact this
theorem Inv.share(I:Inv last ns rs t):∀ (k:Nat) (p:Int) (n:Nd),Deep rs k p->ndAt ns p=some n->sg_ rs k p=n.share
 | 0,p,n,hd,hn=>hd.elim
 | k+1,p,n,hd,hn=>by
  obtain ⟨r,hr,e⟩:=I.rw_of hn;obtain ⟨hnm,hnp⟩:=nm_ hn;have e1:r.used=n.used:=congrArg (·.2.2.1) e;have e2:r.res=n.res:=congrArg (·.2.2.2) e;have un:sg_ rs (k+1) p=max (r.used+((rs.filter fun c=>decide (c.par=p)).map fun c=>sg_ rs k c.place).sum) r.res:=by rw [sg_,hr]
  rw [un,sumF_filter,e1,e2];have s1:=sum_key I.key fun q=>if q.2.1=p then sg_ rs k q.1 else 0;have s2:(sumF rs fun a=>if decide (a.par=p)=true then sg_ rs k a.place else 0)=sumF rs fun r=>(fun q:Int×Int×Int×Int=>if q.2.1=p then sg_ rs k q.1 else 0) (keyR r):=sf_ fun a _=>by
   by_cases h:a.par=p <;> simp [h]
  rw [s2,s1];have s3:(sumF ns fun m=>(fun q:Int×Int×Int×Int=>if q.2.1=p then sg_ rs k q.1 else 0) (keyN m))=n.bel:=by
   rw [I.sums n hnm,hnp];unfold ce_;refine sf_ fun m hm=>?_;have hpl:=I.pl m hm;by_cases h:m.par=p
   ·have h2:m.place≠ -1:=by omega
    have hm2:=no_ I.pnd hm;obtain ⟨q,hq,eq⟩:=I.rw_of hm2;obtain ⟨hq1,hq2⟩:=rm_ hq;have e3:q.par=m.par:=congrArg (·.2.1) eq;have hdq:=hd q hq1 (e3.trans h);rw [hq2] at hdq;have:=I.share k m.place m hdq hm2;simp [h,h2,this]
   ·simp [h]
  rw [s3];rfl
theorem Inv.below(I:Inv last ns rs t){k:Nat}{p:Int}{n:Nd}(hd:Deep rs (k+1) p)(hn:ndAt ns p=some n):belowR rs k p=n.bel:=by
 obtain ⟨hnm,hnp⟩:=nm_ hn;unfold belowR;rw [sumF_filter,I.sums n hnm,hnp];have s1:=sum_key I.key fun q=>if q.2.1=p then sg_ rs k q.1 else 0;have s2:(sumF rs fun a=>if decide (a.par=p)=true then sg_ rs k a.place else 0)=sumF rs fun r=>(fun q:Int×Int×Int×Int=>if q.2.1=p then sg_ rs k q.1 else 0) (keyR r):=sf_ fun a _=>by
  by_cases h:a.par=p <;> simp [h]
 rw [s2,s1];unfold ce_;refine sf_ fun m hm=>?_;have hpl:=I.pl m hm;by_cases h:m.par=p
 ·have h2:m.place≠ -1:=by omega
  have hm2:=no_ I.pnd hm;obtain ⟨q,hq,eq⟩:=I.rw_of hm2;obtain ⟨hq1,hq2⟩:=rm_ hq;have e3:q.par=m.par:=congrArg (·.2.1) eq;have hdq:=hd q hq1 (e3.trans h);rw [hq2] at hdq;have:=I.share k m.place m hdq hm2;simp [h,h2,this]
 ·simp [h]
theorem TreeR.up_dep{dep:Int->Nat}(T:TreeR rs dep):∀ (k:Nat) (p y:Int),y∈upR rs k p->dep y<=dep p/\(y≠p->dep y < dep p)
 | 0,p,y,h=>by cases h
 | k+1,p,y,h=>by
  rw [us_] at h;by_cases hz:p=0
  ·rw [if_pos hz] at h;cases h
  ·rw [if_neg hz] at h;cases hr:rwAt rs p with
   | none=>rw [hr] at h;cases h
   | some r=>
    rw [hr] at h;obtain ⟨hr1,hr2⟩:=rm_ hr;have u:=(T.up r hr1).1;rw [hr2] at u;rcases List.mem_cons.mp h with h | h
    ·subst h;exact ⟨Nat.le_refl _,fun z=>absurd rfl z⟩
    ·have:=(T.up_dep k r.par y h).1;exact ⟨by omega,fun _=>by omega⟩
theorem TreeR.up_uniq{dep:Int->Nat}(T:TreeR rs dep):∀ (k:Nat) (p y z:Int),y∈upR rs k p->z∈upR rs k p->dep y=dep z->y=z
 | 0,p,y,z,h,_,_=>by cases h
 | k+1,p,y,z,h,h',e=>by
  have d1:=T.up_dep (k+1) p y h;have d2:=T.up_dep (k+1) p z h';rw [us_] at h h';by_cases hz:p=0
  ·rw [if_pos hz] at h;cases h
  ·rw [if_neg hz] at h h';cases hr:rwAt rs p with
   | none=>rw [hr] at h;cases h
   | some r=>
    rw [hr] at h h';by_cases hy:y=p
    ·by_cases hz2:z=p
     ·rw [hy,hz2]
     ·have:=d2.2 hz2;rw [<-e,hy] at this;omega
    ·by_cases hz2:z=p
     ·have:=d1.2 hy;rw [e,hz2] at this;omega
     ·exact T.up_uniq k r.par y z ((List.mem_cons.mp h).resolve_left hy) ((List.mem_cons.mp h').resolve_left hz2) e
theorem TreeR.up_par{dep:Int->Nat}(T:TreeR rs dep):∀ (k:Nat) (p y:Int) (r:Rw),dep p<=k->y∈upR rs k p->rwAt rs y=some r->r.par≠0->r.par∈upR rs k p
 | 0,p,y,r,_,h,_,_=>by cases h
 | k+1,p,y,r,hk,h,hr,hz=>by
  rw [us_] at h ⊢;by_cases hp:p=0
  ·rw [if_pos hp] at h;cases h
  ·rw [if_neg hp] at h ⊢;cases hq:rwAt rs p with
   | none=>rw [hq] at h;cases h
   | some q=>
    rw [hq] at h;obtain ⟨hq1,hq2⟩:=rm_ hq;have u:=(T.up q hq1).1;rw [hq2] at u;dsimp only at h ⊢;rcases List.mem_cons.mp h with h | h
    ·subst h;rw [hq] at hr;cases hr;refine List.mem_cons_of_mem _ ?_;cases k with
     | zero=>
      rcases (T.up _ hq1).2 with h0 | ⟨o,ho⟩
      ·exact absurd h0 hz
      ·obtain ⟨ho1,ho2⟩:=rm_ ho;have:=(T.up o ho1).1;rw [ho2] at this;omega
     | succ k=>
      rcases (T.up _ hq1).2 with h0 | ⟨o,ho⟩
      ·exact absurd h0 hz
      ·rw [us_,if_neg hz,ho];exact .head _
    ·exact List.mem_cons_of_mem _ (T.up_par k q.par y r (by omega) h hr hz)
theorem TreeR.up_self{dep:Int->Nat}(T:TreeR rs dep){k:Nat}{r:Rw}(hr:rwAt rs r.place=some r)(hk:dep r.place<=k):r.place∈upR rs k r.place:=by
 obtain ⟨h1,_⟩:=rm_ hr;have u:=(T.up r h1).1;cases k with
 | zero=>omega
 | succ k=>rw [us_,if_neg (T.nz r h1),hr];exact .head _
theorem TreeR.all_mem{dep:Int->Nat}(nd:(rs.map (·.place)).Nodup)(T:TreeR rs dep)(K:Nat)(hK:∀ r∈rs,dep r.place<=K):∀ (j:Nat) (r:Rw),r∈rs->∀ x∈allR rs j r.place,(∃ q∈rs,q.place=x)/\r.place∈upR rs K x
 | 0,r,hr,x,hx=>by cases hx
 | j+1,r,hr,x,hx=>by
  have hu:allR rs (j+1) r.place=r.place::(kb_ rs r.place).flatMap fun e=>allR rs j e.2:=rfl;rw [hu] at hx;rcases List.mem_cons.mp hx with rfl | hx
  ·exact ⟨⟨r,hr,rfl⟩,T.up_self (ro_ nd hr) (hK r hr)⟩
  ·obtain ⟨e,he,hx⟩:=List.mem_flatMap.mp hx;obtain ⟨c,hc,h1,h2,h3⟩:=km_ he;rw [<-h3] at hx;obtain ⟨⟨q,hq,hqx⟩,h5⟩:=T.all_mem nd K hK j c hc x hx;refine ⟨⟨q,hq,hqx⟩,?_⟩;have:=T.up_par K x c.place c (by rw [<-hqx];exact hK q hq) h5 (ro_ nd hc) (by rw [h1];exact T.nz r hr);rw [h1] at this;exact this
theorem TreeR.all_nd{dep:Int->Nat}(nd:(rs.map (·.place)).Nodup)(T:TreeR rs dep):∀ (j:Nat) (r:Rw),r∈rs->(allR rs j r.place).Nodup
 | 0,r,hr=>List.nodup_nil
 | j+1,r,hr=>by
  have hu:allR rs (j+1) r.place=r.place::(kb_ rs r.place).flatMap fun e=>allR rs j e.2:=rfl;have hK:∀ r∈rs,dep r.place<=rs.length:=T.bound;rw [hu,List.nodup_cons];constructor
  ·intro h;obtain ⟨e,he,hx⟩:=List.mem_flatMap.mp h;obtain ⟨c,hc,h1,h2,h3⟩:=km_ he;rw [<-h3] at hx;have h5:=(T.all_mem nd _ hK j c hc _ hx).2;have:=(T.up_dep _ _ _ h5).1;have u:=(T.up c hc).1;rw [h1] at u;omega
  ·rw [List.Nodup,List.pairwise_flatMap];constructor
   ·intro e he;obtain ⟨c,hc,h1,h2,h3⟩:=km_ he;rw [<-h3];exact T.all_nd nd j c hc
   ·have ndk:(kb_ rs r.place).Nodup:=by
     have h0:∀ (l:List (Str×Int)),l.Nodup->(sa_ plt l).Nodup:=by
      intro l hl;have:∀ (l:List (Str×Int)) (x:Str×Int),x∉l->l.Nodup->(ib_ plt x l).Nodup:=by
       intro l x hx hl
       induction l with
       | nil=>unfold ib_;simp
       | cons y s ih=>
        rw [List.nodup_cons] at hl;unfold ib_;split
        ·rw [List.nodup_cons,insBy_mem];refine ⟨fun z=>z.elim (fun z=>hx (by rw [z];exact .head _)) hl.1,ih (fun z=>hx (.tail _ z)) hl.2⟩
        ·rw [List.nodup_cons,List.nodup_cons];exact ⟨hx,hl⟩
      induction l with
      | nil=>exact List.nodup_nil
      | cons y s ih=>
       rw [List.nodup_cons] at hl;unfold sa_;exact this _ _ (fun z=>hl.1 ((sm_ _ _ _).mp z)) (ih hl.2)
     exact h0 _ (kids_nodup nd r.place)
    refine List.Pairwise.imp_of_mem (fun {e f} he hf hne x hx y hy z=>?_) ndk;obtain ⟨c,hc,h1,h2,h3⟩:=km_ he;obtain ⟨d,hd,h4,h5,h6⟩:=km_ hf;rw [<-h3] at hx;rw [<-h6] at hy;subst z;have a1:=(T.all_mem nd _ hK j c hc x hx).2;have a2:=(T.all_mem nd _ hK j d hd x hy).2;have u1:=(T.up c hc).1;have u2:=(T.up d hd).1;rw [h1] at u1;rw [h4] at u2;have:=T.up_uniq _ _ _ _ a1 a2 (by omega);have hcd:c=d:=ni_ nd hc hd this;subst hcd;exact hne (Prod.ext (h2.symm.trans h5) (h3.symm.trans h6))
theorem TreeR.all_len{dep:Int->Nat}(nd:(rs.map (·.place)).Nodup)(T:TreeR rs dep)(j:Nat){r:Rw}(hr:r∈rs):(allR rs j r.place).length<=rs.length:=by
 have:=nd_len (T.all_nd nd j r hr) (l':=rs.map (·.place)) fun x hx=>by
  obtain ⟨⟨q,hq,e⟩,_⟩:=T.all_mem nd _ T.bound j r hr x hx;exact List.mem_map.mpr ⟨q,hq,e⟩
 simpa using this
theorem dfs_cons{k:Nat}{p:Int}{n:Nd}{r:List Int}(h:ndAt ns p=some n):dfs ns (k+1) (p::r)=p::dfs ns k (kidPlaces n++r):=by
 show (match ndAt ns p with | some n=>_ | none=> [])=_;rw [h]
theorem allR_pos(j:Nat)(p:Int):1<=(allR rs (j+1) p).length:=by
 show 1<=(p::_).length;simp
theorem flat_len(j:Nat)(l:List (Str×Int)):l.length<=(l.flatMap fun e=>allR rs (j+1) e.2).length:=by
 induction l with
 | nil=>simp
 | cons e r ih=>rw [List.flatMap_cons,List.length_append,List.length_cons];have:=allR_pos (rs:=rs) j e.2;omega
theorem deep_pos{k:Nat}{p:Int}(h:Deep rs k p):∃ j,k=j+1:=by
 cases k with
 | zero=>exact h.elim
 | succ j=>exact ⟨j,rfl⟩
theorem Inv.dfs_all(I:Inv last ns rs t)(nk:∀ n∈ns,(n.kids.map (·.1)).Nodup):∀ (k:Nat) (p:Int) (n:Nd),Deep rs k p->ndAt ns p=some n->∀ (K:Nat) (r:List Int),(allR rs k p).length+r.length<=1000->
  dfs ns ((allR rs k p).length+K) (p::r)=allR rs k p++dfs ns K r/\(DfsOk ns K r->DfsOk ns ((allR rs k p).length+K) (p::r))
 | 0,p,n,hd,_,_,_,_=>hd.elim
 | k+1,p,n,hd,hn,K,r,hz=>by
  have hu:allR rs (k+1) p=p::(kb_ rs p).flatMap fun e=>allR rs k e.2:=rfl;have hkp:=I.kidPlaces hn (nk n (nm_ hn).1);rw [hu] at hz ⊢;rw [List.length_cons] at hz ⊢;have e1:((kb_ rs p).flatMap fun e=>allR rs k e.2).length+1+K=(((kb_ rs p).flatMap fun e=>allR rs k e.2).length+K)+1:=by omega
  rw [e1,dfs_cons hn,hkp];have key:∀ (l:List (Str×Int)),(∀ e∈l,Deep rs k e.2/\∃ m,ndAt ns e.2=some m)->(l.flatMap fun e=>allR rs k e.2).length+r.length<=1000->
    dfs ns ((l.flatMap fun e=>allR rs k e.2).length+K) (l.map (·.2)++r)=(l.flatMap fun e=>allR rs k e.2)++dfs ns K r/\(DfsOk ns K r->DfsOk ns ((l.flatMap fun e=>allR rs k e.2).length+K) (l.map (·.2)++r)):=by
   intro l
   induction l with
   | nil=>intro _ _;simp
   | cons e s ih=>
    intro hl hz2;obtain ⟨hde,m,hm⟩:=hl e (.head _);obtain ⟨j,rfl⟩:=deep_pos hde;have fl:=flat_len (rs:=rs) j s;rw [List.flatMap_cons,List.length_append] at hz2 ⊢;obtain ⟨i1,i2⟩:=ih (fun f hf=>hl f (.tail _ hf)) (by omega);have e2:(allR rs (j+1) e.2).length+(s.flatMap fun e=>allR rs (j+1) e.2).length+K=(allR rs (j+1) e.2).length+((s.flatMap fun e=>allR rs (j+1) e.2).length+K):=by omega
    rw [e2,List.map_cons,List.cons_append];obtain ⟨i3,i4⟩:=I.dfs_all nk (j+1) e.2 m hde hm ((s.flatMap fun e=>allR rs (j+1) e.2).length+K) (s.map (·.2)++r) (by rw [List.length_append,List.length_map];omega);rw [i3,i1,List.append_assoc];exact ⟨rfl,fun h=>i4 (i2 h)⟩
  have hkids:∀ e∈kb_ rs p,Deep rs k e.2/\∃ m,ndAt ns e.2=some m:=fun e he=>by
   obtain ⟨c,hc,h1,h2,h3⟩:=km_ he;rw [<-h3];obtain ⟨m,hm,_⟩:=I.nd_of (ro_ I.rnd hc);exact ⟨hd c hc h1,m,hm⟩
  obtain ⟨k1,k2⟩:=key (kb_ rs p) hkids (by omega);rw [k1];refine ⟨rfl,fun h=>⟨n,hn,?_,?_⟩⟩
  ·rw [hkp,List.length_append,List.length_map];by_cases he:kb_ rs p= []
   ·rw [he];simp;omega
   ·obtain ⟨e,he⟩:=List.exists_mem_of_ne_nil _ he;obtain ⟨j,rfl⟩:=deep_pos (hkids e he).1;have:=flat_len (rs:=rs) j (kb_ rs p);omega
  ·rw [hkp];exact k2 h
theorem pathN_succ{k:Nat}{p:Int}{n:Nd}{acc:List Str}(h:ndAt ns p=some n):pathN ns (k+1) p acc=if n.par=0 then acc else match ndAt ns n.par with
  | some m=>pathN ns k n.par (nd_ m p::acc)
  | none=>acc:=by
 show (match ndAt ns p with | some n=>_ | none=>acc)=_;rw [h];try rfl
theorem lookup_of_mem{x:Str}{c:Int}:∀ {l:List (Str×Int)},(l.map (·.1)).Nodup->(x,c)∈l->l.lookup x=some c
 | (y,u)::r,nd,h=>by
  rw [List.map_cons,List.nodup_cons] at nd;rw [List.lookup_cons];rcases List.mem_cons.mp h with h | h
  ·cases h;simp
  ·have:x≠y:=fun z=>nd.1 (by rw [<-z];exact List.mem_map.mpr ⟨_,h,rfl⟩);have e:(x==y)=false:=by simpa using this
   rw [e];exact lookup_of_mem nd.2 h
theorem Inv.named(I:Inv last ns rs t){r:Rw}{m:Nd}(hr:r∈rs)(hm:ndAt ns r.par=some m):((ka_ m).find? fun x=>decide (m.kids.lookup x=some r.place))=some r.name:=by
 have h1:=(I.kids r.par m hm r.name r.place).mpr ⟨r,hr,rfl,rfl,rfl⟩;have hmem:r.name∈ka_ m:=(sm_ _ _ _).mpr (List.mem_map.mpr ⟨_,lm_ h1,rfl⟩);cases hf:(ka_ m).find? fun x=>decide (m.kids.lookup x=some r.place) with
 | none=>
  have:=List.find?_eq_none.mp hf _ hmem;simp [h1] at this
 | some x=>
  have h2:m.kids.lookup x=some r.place:=by simpa using List.find?_some hf
  obtain ⟨q,hq,q1,q2,q3⟩:=(I.kids r.par m hm x r.place).mp h2;have:q=r:=ni_ I.rnd hq hr q3;rw [this] at q2;rw [q2]
theorem Inv.namedAll(I:Inv last ns rs t):Named ns:=fun n hn hz=>by
 obtain ⟨dep,T⟩:=I.dep;have TR:=I.tree T;obtain ⟨r,hr,e⟩:=I.rw_of (no_ I.pnd hn);obtain ⟨hr1,hr2⟩:=rm_ hr;have e1:r.par=n.par:=congrArg (·.2.1) e;rcases (TR.up r hr1).2 with h | ⟨q,hq⟩
 ·exact absurd (e1▸h) hz
 ·obtain ⟨m,hm,_⟩:=I.nd_of hq;have:=I.named hr1 hm;rw [hr2] at this;exact ⟨m,e1▸hm,r.name,this⟩
theorem Inv.closed(I:Inv last ns rs t)(nk:∀ n∈ns,(n.kids.map (·.1)).Nodup):Closed ns:=fun n hn e he=>by
 have hl:=lookup_of_mem (nk n hn) (show (e.1,e.2)∈n.kids from he);obtain ⟨r,hr,h1,h2,h3⟩:=(I.kids n.place n (no_ I.pnd hn) e.1 e.2).mp hl;obtain ⟨m,hm,_⟩:=I.nd_of (ro_ I.rnd hr);rw [h3] at hm;rw [hm];rfl
theorem pathR_succ{k:Nat}{p:Int}{r:Rw}(hz:p≠0)(hr:rwAt rs p=some r)(hne:upR rs k r.par≠ []):pd_ rs (k+1) p=pd_ rs k r.par++ [r.name]:=by
 unfold pd_;rw [us_,if_neg hz,hr];dsimp only;obtain ⟨a,b,hab⟩:=List.exists_cons_of_ne_nil hne;rw [hab,List.dropLast_cons_of_ne_nil (by simp),List.reverse_cons,List.map_append,List.map_cons,List.map_nil,hr];rfl
theorem upR_zero(k:Nat):upR rs k 0= []:=by
 cases k with
 | zero=>rfl
 | succ k=>rw [us_,if_pos rfl]
theorem Inv.path(I:Inv last ns rs t){dep:Int->Nat}(T:TreeR rs dep):∀ (k:Nat) (p:Int) (r:Rw),rwAt rs p=some r->dep p<=k->∀ acc,pathN ns k p acc=pd_ rs k p++acc/\fc_ ns 4 (pd_ rs k p)=some p/\(∀ x∈pd_ rs k p,x∈lawNames/\o_ x=true)/\(pd_ rs k p).length<=k
 | 0,p,r,hr,hk,acc=>by
  obtain ⟨h1,h2⟩:=rm_ hr;have:=(T.up r h1).1;rw [h2] at this;omega
 | k+1,p,r,hr,hk,acc=>by
  obtain ⟨h1,h2⟩:=rm_ hr;have u:=T.up r h1;rw [h2] at u;have hz:p≠0:=h2▸T.nz r h1;obtain ⟨n,hn,e⟩:=I.nd_of hr;have e1:r.par=n.par:=congrArg (·.2.1) e;rw [pathN_succ hn];by_cases h0:n.par=0
  ·rw [if_pos h0];have hp4:p=4:=h2▸(I.root.2 r h1).mp (e1.trans h0);have:pd_ rs (k+1) p= []:=by
    unfold pd_;rw [us_,if_neg hz,hr];dsimp only;rw [e1,h0,upR_zero];rfl
   rw [this,hp4];exact ⟨rfl,rfl,(by intro x hx;cases hx),(by simp)⟩
  ·rw [if_neg h0];have h0':r.par≠0:=e1▸h0;rcases u.2 with hh | ⟨q,hq⟩
   ·exact absurd hh h0'
   ·obtain ⟨m,hm,_⟩:=I.nd_of hq;have hm':ndAt ns n.par=some m:=e1▸hm;rw [hm'];dsimp only;have nm:nd_ m p=r.name:=by
     have:=I.named h1 hm;rw [h2] at this;unfold nd_;rw [this];rfl
    obtain ⟨i1,i2,i3,i4⟩:=I.path T k n.par q (e1▸hq) (by rw [<-e1];omega) (nd_ m p::acc);have hne:upR rs k r.par≠ []:=by
     obtain ⟨hq1,hq2⟩:=rm_ hq;have:=T.up_self (k:=k) (r:=q) (by rw [hq2];exact hq) (by rw [hq2];omega);rw [hq2] at this;exact List.ne_nil_of_mem this
    rw [pathR_succ hz hr hne,i1,nm,e1];refine ⟨by simp,?_,?_,?_⟩
    ·have app:∀ (xs:List Str) (a b:Int) (y:Str),fc_ ns a xs=some b->fc_ ns a (xs++ [y])=fc_ ns b [y]:=by
      intro xs
      induction xs with
      | nil=>intro a b y h;cases h;rfl
      | cons x s ih=>
       intro a b y h;have h':(match (ndAt ns a).bind fun n=>n.kids.lookup x with | some c=>fc_ ns c s | none=>none)=some b:=h;show (match (ndAt ns a).bind fun n=>n.kids.lookup x with | some c=>fc_ ns c (s++ [y]) | none=>none)=_;cases hb:(ndAt ns a).bind fun n=>n.kids.lookup x with
       | none=>rw [hb] at h';cases h'
       | some c=>rw [hb] at h';exact ih c b y h'
     rw [app _ _ _ _ i2,fs_ hm',(I.kids n.par m hm' r.name p).mpr ⟨r,h1,e1,rfl,h2⟩];rfl
    ·intro x hx;rcases List.mem_append.mp hx with hx | hx
     ·exact i3 x hx
     ·rw [List.mem_singleton.mp hx];exact I.names r h1 h0'
    ·rw [List.length_append];simp;omega
end
end
section
abbrev keyK(n:Nd):Int×Int×Int×Int×List (Str×Int):=(n.place,n.par,n.used,n.res,n.kids)
structure Stat(ns:List Nd)(dep:Int->Nat):Prop where
 pnd:(ns.map (·.place)).Nodup
 tree:Tree (ns.map fun n=>(n.place,n.par)) dep
 len:ns.length<=13
 ok:∀ n∈ns,(4<=n.place/\n.place<=800)/\(0<=n.used/\n.used<=99)/\0<=n.res/\n.res<=99
def Off(ns:List Nd)(ex q δ:Int):Prop:=∀ n∈ns,n.bel+(if n.place=q then δ else 0)=ce_ ns ex n.place
theorem map_of_keyN{β:Type}{ns ns':List Nd}(h:ns'.map keyN=ns.map keyN)(f:Int×Int×Int×Int->β):(ns'.map fun n=>f (keyN n))=ns.map fun n=>f (keyN n):=by
 have:=congrArg (List.map f) h;rw [List.map_map,List.map_map] at this;exact this
theorem mo_{β:Type}{ns ns':List Nd}{f:Nd->β}(h:ns'.map f=ns.map f){n:Nd}(hn:n∈ns'):∃ m∈ns,f n=f m:=by
 have:f n∈ns.map f:=by rw [<-h];exact List.mem_map_of_mem hn
 obtain ⟨m,hm,e⟩:=List.mem_map.mp this;exact ⟨m,hm,e.symm⟩
theorem keyK_N{ns ns':List Nd}(h:ns'.map keyK=ns.map keyK):ns'.map keyN=ns.map keyN:=by
 have:=congrArg (List.map fun k:Int×Int×Int×Int×List (Str×Int)=>(k.1,k.2.1,k.2.2.1,k.2.2.2.1)) h;rw [List.map_map,List.map_map] at this;exact this
theorem keyN_pl{ns ns':List Nd}(h:ns'.map keyN=ns.map keyN):(ns'.map (·.place))=ns.map (·.place):=map_of_keyN h fun k=>k.1
theorem keyN_pp{ns ns':List Nd}(h:ns'.map keyN=ns.map keyN):(ns'.map fun n=>(n.place,n.par))=ns.map fun n=>(n.place,n.par):=map_of_keyN h fun k=>(k.1,k.2.1)
theorem Stat.congr{ns ns':List Nd}{dep:Int->Nat}(S:Stat ns dep)(h:ns'.map keyN=ns.map keyN):Stat ns' dep where
 pnd:=by rw [keyN_pl h];exact S.pnd
 tree:=by rw [keyN_pp h];exact S.tree
 len:=by
  have:=congrArg List.length h;simp only [List.length_map] at this;rw [this];exact S.len
 ok:=fun n hn=>by
  obtain ⟨m,hm,e⟩:=mo_ h hn;have e1:n.place=m.place:=congrArg (·.1) e;have e2:n.used=m.used:=congrArg (·.2.2.1) e;have e3:n.res=m.res:=congrArg (·.2.2.2) e;rw [e1,e2,e3];exact S.ok m hm
theorem ua_{β:Type}(f:Nd->β){ns:List Nd}(nd:(ns.map (·.place)).Nodup){n m:Nd}(hn:n∈ns)(hp:m.place=n.place)(hf:f m=f n):(u_ ns m).map f=ns.map f:=by
 unfold u_;rw [List.map_map];refine List.map_congr_left fun a ha=>?_;show f (if a.place=m.place then m else a)=f a;split
 ·rename_i e;have e1:a=n:=ni_ nd ha hn (e.trans hp);rw [e1];exact hf
 ·rfl
theorem keyN_at:∀ {ns' ns:List Nd} (_:ns'.map keyN=ns.map keyN) (p:Int),(ndAt ns' p).map keyN=(ndAt ns p).map keyN
 | [],[],_,p=>rfl
 | r::rs,n::ns,h,p=>by
  simp only [List.map_cons,List.cons.injEq] at h;have hp:r.place=n.place:=congrArg (·.1) h.1;rw [nc_,nc_];by_cases e:n.place=p
  ·rw [if_pos e,if_pos (hp.trans e)];exact congrArg some h.1
  ·rw [if_neg e,if_neg (fun z=>e (hp▸z))];exact keyN_at h.2 p
 | [],_::_,h,_=>by simp at h
 | _::_,[],h,_=>by simp at h
theorem keyK_at:∀ {ns' ns:List Nd} (_:ns'.map keyK=ns.map keyK) (p:Int),(ndAt ns' p).map keyK=(ndAt ns p).map keyK
 | [],[],_,p=>rfl
 | r::rs,n::ns,h,p=>by
  simp only [List.map_cons,List.cons.injEq] at h;have hp:r.place=n.place:=congrArg (·.1) h.1;rw [nc_,nc_];by_cases e:n.place=p
  ·rw [if_pos e,if_pos (hp.trans e)];exact congrArg some h.1
  ·rw [if_neg e,if_neg (fun z=>e (hp▸z))];exact keyK_at h.2 p
 | [],_::_,h,_=>by simp at h
 | _::_,[],h,_=>by simp at h
theorem par_at{ns ns':List Nd}(h:ns'.map keyN=ns.map keyN){p:Int}{n:Nd}(hn:ndAt ns p=some n):∃ m,ndAt ns' p=some m/\keyN m=keyN n:=by
 have:=keyN_at h p;rw [hn] at this;cases hm:ndAt ns' p with
 | none=>rw [hm] at this;cases this
 | some m=>rw [hm] at this;exact ⟨m,rfl,Option.some.inj this⟩
theorem climb_congr{ns ns':List Nd}(h:ns'.map keyN=ns.map keyN):∀ (k:Nat) (p:Int),ci_ ns k p->ci_ ns' k p
 | 0,p,c=>c
 | k+1,p,c=>by
  rcases c with c | ⟨n,hn,c⟩
  ·exact .inl c
  ·obtain ⟨m,hm,e⟩:=par_at h hn;have e1:m.par=n.par:=congrArg (·.2.1) e;exact .inr ⟨m,hm,e1▸climb_congr h k n.par c⟩
theorem isIn_congr{ns ns':List Nd}(h:ns'.map keyN=ns.map keyN):∀ (k:Nat) (p o:Int),isIn ns' k p o=isIn ns k p o
 | 0,p,o=>rfl
 | k+1,p,o=>by
  rw [is_,is_];have e:=keyN_at h p;cases hn:ndAt ns p with
  | none=>
   rw [hn] at e;cases hm:ndAt ns' p with
   | none=>rfl
   | some m=>rw [hm] at e;cases e
  | some n=>
   obtain ⟨m,hm,e⟩:=par_at h hn;have e1:m.par=n.par:=congrArg (·.2.1) e;rw [hm];dsimp only;rw [e1,isIn_congr h k n.par o]
theorem chSum_upd{ns:List Nd}(nd:(ns.map (·.place)).Nodup){n m:Nd}(hn:n∈ns)(hp:m.place=n.place)(hpar:m.par=n.par)(ex p:Int):ce_ (u_ ns m) ex p=ce_ ns ex p+(if n.par=p/\n.place≠ex then m.share - n.share else 0):=by
 unfold ce_;rw [sumF_upd ns nd hn hp];rw [hpar,hp];split <;> omega
theorem off_step{ns:List Nd}(nd:(ns.map (·.place)).Nodup){n m:Nd}(hn:n∈ns)(hp:m.place=n.place)(hpar:m.par=n.par)(hne:n.par≠n.place){ex:Int}(hex:n.place≠ex)(h1:m.bel=ce_ ns ex n.place)
  (h2:∀ a∈ns,a.place≠n.place->a.bel=ce_ ns ex a.place):Off (u_ ns m) ex n.par (m.share - n.share):=fun a ha=>by
 rw [chSum_upd nd hn hp hpar];rcases um_ ha with rfl | ⟨ha,hane⟩
 ·have c1:¬ (n.par=a.place/\n.place≠ex):=fun z=>hne (z.1.trans hp);have c2:¬ a.place=n.par:=fun z=>hne (z.symm.trans hp);rw [if_neg c1,if_neg c2,hp,h1]
 ·have:=h2 a ha (fun z=>hane (z.trans hp.symm));rw [this];by_cases h:a.place=n.par
  ·rw [if_pos h,if_pos ⟨h.symm,hex⟩]
  ·rw [if_neg h,if_neg (fun z=>h z.1.symm)]
theorem pow14(j:Nat):(100:Int)<=100*14 ^ j:=by
 have:(1:Int)<=14 ^ j:=by
  have:0 < (14:Int) ^ j:=Int.pow_pos (by decide);omega
 omega
section
variable {dep:Int->Nat} {ns:List Nd}
theorem Stat.par(S:Stat ns dep){n:Nd}(hn:n∈ns):dep n.place=dep n.par+1/\(n.par=0\/∃ m,ndAt ns n.par=some m)/\dep n.place<=13:=by
 obtain ⟨h1,h2⟩:=S.tree.up (n.place,n.par) (List.mem_map.mpr ⟨n,hn,rfl⟩);have h3:=S.tree.bound (e:=(n.place,n.par)) (List.mem_map.mpr ⟨n,hn,rfl⟩);rw [List.length_map] at h3;refine ⟨h1,h2.imp_right fun ⟨f,hf,e⟩=>?_,Nat.le_trans h3 S.len⟩;obtain ⟨m,hm,rfl⟩:=List.mem_map.mp hf;have e:m.place=n.par:=e;exact ⟨m,by rw [<-e];exact no_ S.pnd hm⟩
theorem Stat.par_le(S:Stat ns dep){n:Nd}(hn:n∈ns):0<=n.par/\n.par<=800:=by
 rcases (S.par hn).2.1 with h | ⟨m,hm⟩
 ·omega
 ·obtain ⟨h1,h2⟩:=nm_ hm;have:=(S.ok m h1).1;omega
theorem Stat.share_nn(S:Stat ns dep){n:Nd}(hn:n∈ns):0<=n.share:=by
 have:=(S.ok n hn).2.2.1;unfold Nd.share;omega
theorem Stat.ch_nn(S:Stat ns dep)(ex p:Int):0<=ce_ ns ex p:=sumF_nonneg fun c hc=>by
 have:=S.share_nn hc;split <;> omega
theorem Stat.shares(S:Stat ns dep){ex q δ:Int}(O:Off ns ex q δ):∀ (j:Nat) (n:Nd),n∈ns->dep q < dep n.place->14<=dep n.place+j->n.share<=100*14 ^ j
 | 0,n,hn,hd,hj=>by have:=(S.par hn).2.2;omega
 | j+1,n,hn,hd,hj=>by
  have hq:n.place≠q:=fun z=>by rw [z] at hd;omega
  have hb:=O n hn;rw [if_neg hq] at hb;have hs:ce_ ns ex n.place<=ns.length*(100*14 ^ j):=sumF_le fun c hc=>by
   have p0:=pow14 j;by_cases h:c.par=n.place/\c.place≠ex
   ·rw [if_pos h];have u:=(S.par hc).1;rw [h.1] at u;exact S.shares O j c hc (by omega) (by omega)
   ·rw [if_neg h];omega
  have hl:(ns.length:Int)*(100*14 ^ j)<=13*(100*14 ^ j):=Int.mul_le_mul_of_nonneg_right (by have:=S.len;omega) (by have:=pow14 j;omega);have p0:=pow14 j;have hok:=S.ok n hn;have e:(100:Int)*14 ^ (j+1)=14*(100*14 ^ j):=by rw [Int.pow_succ];omega
  rw [e];unfold Nd.share;omega
theorem Stat.ch_le(S:Stat ns dep){ex q δ:Int}(O:Off ns ex q δ):ce_ ns ex q<=13*(100*14 ^ 13):=by
 have hs:ce_ ns ex q<=ns.length*(100*14 ^ 13):=sumF_le fun c hc=>by
  have p0:=pow14 13;by_cases h:c.par=q/\c.place≠ex
  ·rw [if_pos h];have u:=(S.par hc).1;rw [h.1] at u;exact S.shares O 13 c hc (by omega) (by omega)
  ·rw [if_neg h];omega
 have hl:(ns.length:Int)*(100*14 ^ 13)<=13*(100*14 ^ 13):=Int.mul_le_mul_of_nonneg_right (by have:=S.len;omega) (by have:=pow14 13;omega);omega
theorem Stat.fit(S:Stat ns dep){n m:Nd}(hn:n∈ns)(hp:m.place=n.place)(hpar:0<=m.par/\m.par<=800)(hu:0<=m.used/\m.used<=99)(hr:0<=m.res/\m.res<=99)(hb:0<=m.bel/\m.bel<=13*(100*14 ^ 13)):m.Fit:=by
 have:=(S.ok n hn).1;have big:(13:Int)*(100*14 ^ 13) < 256 ^ 8:=by decide+kernel
 have big2:(1000:Int) < 256 ^ 8:=by decide+kernel
 intro x hx;unfold Nd.row at hx;simp only [List.mem_cons,List.not_mem_nil,or_false] at hx;rcases hx with rfl | rfl | rfl | rfl | rfl | rfl | rfl | rfl | rfl | rfl <;> omega
theorem cu_stop{k:Nat}{q u b:Int}(h:¬ (q≠0/\(u≠0\/b≠0))):ca_ k ns q u b=ns/\CuOk k ns q u b:=by
 cases k with
 | zero=>exact ⟨rfl,h⟩
 | succ k=>exact ⟨if_neg h,fun z=>absurd z h⟩
theorem cu_go{k:Nat}{q u b:Int}{n:Nd}(h:q≠0/\(u≠0\/b≠0))(hn:ndAt ns q=some n):ca_ (k+1) ns q u b=ca_ k (u_ ns (n.add u b)) n.par 0 ((n.add u b).share - n.share):=by
 show (if q≠0/\(u≠0\/b≠0) then match ndAt ns q with | some n=>_ | none=>ns else ns)=_;rw [if_pos h,hn]
end
theorem cu_ok{dep:Int->Nat}{ex:Int}:∀ (k:Nat) (ns:List Nd) (q δ:Int),Stat ns dep->Off ns ex q δ->ci_ ns k q->isIn ns k q ex=false->
  CuOk k ns q 0 δ/\(∀ n∈ca_ k ns q 0 δ,n.bel=ce_ (ca_ k ns q 0 δ) ex n.place)/\(ca_ k ns q 0 δ).map keyK=ns.map keyK/\(ex≠0->ndAt (ca_ k ns q 0 δ) ex=ndAt ns ex):=by
 have stop:∀ (k:Nat) (ns:List Nd) (q δ:Int),Stat ns dep->Off ns ex q δ->¬ (q≠0/\((0:Int)≠0\/δ≠0))->CuOk k ns q 0 δ/\(∀ n∈ca_ k ns q 0 δ,n.bel=ce_ (ca_ k ns q 0 δ) ex n.place)/\(ca_ k ns q 0 δ).map keyK=ns.map keyK/\(ex≠0->ndAt (ca_ k ns q 0 δ) ex=ndAt ns ex):=by
  intro k ns q δ S O h;obtain ⟨h1,h2⟩:=cu_stop (k:=k) (ns:=ns) h;rw [h1];refine ⟨h2,fun n hn=>?_,rfl,fun _=>rfl⟩;have:=O n hn;by_cases hq:n.place=q
  ·have hq0:q≠0:=by have:=(S.ok n hn).1;omega
   have hd:δ=0:=by
    by_cases hd:δ=0
    ·exact hd
    ·exact absurd ⟨hq0,.inr hd⟩ h
   rw [hd] at this;simpa using this
  ·rw [if_neg hq] at this;omega
 intro k
 induction k with
 | zero=>
  intro ns q δ S O c _;exact stop 0 ns q δ S O fun h=>h.1 c
 | succ k ih=>
  intro ns q δ S O c hx;by_cases h:q≠0/\((0:Int)≠0\/δ≠0)
  ·rcases c with c | ⟨n,hn,c⟩
   ·exact absurd c h.1
   ·obtain ⟨hnm,hnp⟩:=nm_ hn;rw [is_,if_neg h.1,hn] at hx;have hqe:q≠ex:=fun z=>by rw [if_pos z] at hx;cases hx
    rw [if_neg hqe] at hx;have hO:=O n hnm;rw [if_pos hnp] at hO;have kN:(u_ ns (n.add 0 δ)).map keyN=ns.map keyN:=ua_ keyN S.pnd hnm rfl (by unfold Nd.add keyN;simp);have kK:(u_ ns (n.add 0 δ)).map keyK=ns.map keyK:=ua_ keyK S.pnd hnm rfl (by unfold Nd.add keyK;simp);have hpn:=(S.par hnm).1;have O2:Off (u_ ns (n.add 0 δ)) ex n.par ((n.add 0 δ).share - n.share):=off_step (m:=n.add 0 δ) S.pnd hnm rfl rfl (fun z=>by rw [z] at hpn;omega) (by rw [hnp];exact hqe) hO (fun a ha hane=>by
     have:=O a ha;rw [if_neg (fun z=>hane (z.trans hnp.symm))] at this;omega)
    have c2:=climb_congr kN k n.par c;have hx2:isIn (u_ ns (n.add 0 δ)) k n.par ex=false:=by rw [isIn_congr kN];exact hx
    obtain ⟨i1,i2,i3,i4⟩:=ih (u_ ns (n.add 0 δ)) n.par _ (S.congr kN) O2 c2 hx2;rw [cu_go h hn];refine ⟨fun _=>⟨n,hn,?_,i1⟩,i2,i3.trans kK,fun h0=>?_⟩
    ·have hle:=S.ch_le O;have hnn:=S.ch_nn ex q;have hok:=S.ok n hnm;rw [hnp] at hO;refine S.fit (m:=n.add 0 δ) hnm rfl (show 0<=n.par/\n.par<=800 from S.par_le hnm) ?_ hok.2.2 ?_
     ·show 0<=n.used+0/\n.used+0<=99;omega
     ·show 0<=n.bel+δ/\n.bel+δ<=_;rw [hO];exact ⟨hnn,hle⟩
    ·rw [i4 h0,nu_];have:¬ ex=(n.add 0 δ).place:=fun z=>hqe (hnp.symm.trans z.symm);rw [if_neg this]
  ·exact stop (k+1) ns q δ S O h
end
section
section
variable {last:Int} {ns:List Nd} {rs:List Rw} {t:Nat}
theorem Inv.stat(I:Inv last ns rs t)(ht:t<=12){dep:Int->Nat}(T:Tree (ns.map fun n=>(n.place,n.par)) dep):Stat ns dep where
 pnd:=I.pnd
 tree:=T
 len:=by have:=I.len.1;omega
 ok:=fun n hn=>by
  have h1:=I.pl n hn;have h2:=I.bnd n hn;have h3:=I.len.2.1;omega
theorem noNeg(h:∀ m∈ns,m.par≠ -1):∀ (k:Nat) (p:Int),p≠ -1->isIn ns k p (-1)=false
 | 0,p,_=>rfl
 | k+1,p,hp=>by
  rw [is_];by_cases hz:p=0
  ·rw [if_pos hz]
  ·rw [if_neg hz,if_neg hp];cases hn:ndAt ns p with
   | none=>rfl
   | some n=>exact noNeg h k n.par (h n (nm_ hn).1)
theorem Stat.upd{dep:Int->Nat}(S:Stat ns dep){n m:Nd}(hn:n∈ns)(hp:m.place=n.place)(hpar:m.par=n.par)(hu:0<=m.used/\m.used<=99)(hr:0<=m.res/\m.res<=99):Stat (u_ ns m) dep where
 pnd:=by rw [up_];exact S.pnd
 tree:=by rw [ua_ (fun n=>(n.place,n.par)) S.pnd hn hp (by rw [hp,hpar])];exact S.tree
 len:=by unfold u_;rw [List.length_map];exact S.len
 ok:=fun a ha=>by
  rcases um_ ha with rfl | ⟨ha,_⟩
  ·rw [hp];exact ⟨(S.ok n hn).1,hu,hr⟩
  ·exact S.ok a ha
theorem updN_keys(ns:List Nd)(m:Nd):(u_ ns m).map keyN=(ns.map keyN).map fun k=>if k.1=m.place then keyN m else k:=by
 unfold u_;rw [List.map_map,List.map_map];refine List.map_congr_left fun a _=>?_;show keyN (if a.place=m.place then m else a)=if a.place=m.place then keyN m else keyN a;split <;> rfl
theorem updR_keys(rs:List Rw)(m:Rw):(ub_ rs m).map keyR=(rs.map keyR).map fun k=>if k.1=m.place then keyR m else k:=by
 unfold ub_;rw [List.map_map,List.map_map];refine List.map_congr_left fun a _=>?_;show keyR (if a.place=m.place then m else a)=if a.place=m.place then keyR m else keyR a;split <;> rfl
theorem map_at{β:Type}{f:Nd->β}(hf:∀ a b:Nd,f a=f b->a.place=b.place):∀ {ns' ns:List Nd} (_:ns'.map f=ns.map f) (p:Int),(ndAt ns' p).map f=(ndAt ns p).map f
 | [],[],_,p=>rfl
 | r::rs,n::ns,h,p=>by
  simp only [List.map_cons,List.cons.injEq] at h;have hp:r.place=n.place:=hf _ _ h.1;rw [nc_,nc_];by_cases e:n.place=p
  ·rw [if_pos e,if_pos (hp.trans e)];exact congrArg some h.1
  ·rw [if_neg e,if_neg (fun z=>e (hp▸z))];exact map_at hf h.2 p
 | [],_::_,h,_=>by simp at h
 | _::_,[],h,_=>by simp at h
theorem climbP{ns ns':List Nd}(h:(ns'.map fun n=>(n.place,n.par))=ns.map fun n=>(n.place,n.par)):∀ (k:Nat) (p:Int),ci_ ns k p->ci_ ns' k p
 | 0,p,c=>c
 | k+1,p,c=>by
  rcases c with c | ⟨n,hn,c⟩
  ·exact .inl c
  ·have e:=map_at (f:=fun n=>(n.place,n.par)) (fun a b h=>congrArg (·.1) h) h p;rw [hn] at e;cases hm:ndAt ns' p with
   | none=>rw [hm] at e;cases e
   | some m=>
    rw [hm] at e;have e1:m.par=n.par:=congrArg (·.2) (Option.some.inj e);exact .inr ⟨m,hm,e1▸climbP h k n.par c⟩
theorem Inv.same(I:Inv last ns rs t){ns':List Nd}{rs':List Rw}{t':Nat}(ht:t<=t')(hk:(ns'.map fun n=>(n.place,n.par,n.kids))=ns.map fun n=>(n.place,n.par,n.kids))(hr:(rs'.map fun r=>(r.place,r.par,r.name))=rs.map fun r=>(r.place,r.par,r.name))
  (key:rs'.map keyR=ns'.map keyN) (sums:∀ n∈ns',n.bel=ce_ ns' (-1) n.place) (bnd:∀ n∈ns',(0<=n.used/\n.used<=99)/\0<=n.res/\n.res<=99):Inv last ns' rs' t':=by
 have mk:∀ {r:Rw},r∈rs'->∃ q∈rs,q.place=r.place/\q.par=r.par/\q.name=r.name:=fun {r} h=>by
  have:(r.place,r.par,r.name)∈rs.map fun r=>(r.place,r.par,r.name):=by rw [<-hr];exact List.mem_map.mpr ⟨r,h,rfl⟩
  obtain ⟨q,hq,e⟩:=List.mem_map.mp this;simp only [Prod.mk.injEq] at e;exact ⟨q,hq,e.1,e.2.1,e.2.2⟩
 have mk':∀ {r:Rw},r∈rs->∃ q∈rs',q.place=r.place/\q.par=r.par/\q.name=r.name:=fun {r} h=>by
  have:(r.place,r.par,r.name)∈rs'.map fun r=>(r.place,r.par,r.name):=by rw [hr];exact List.mem_map.mpr ⟨r,h,rfl⟩
  obtain ⟨q,hq,e⟩:=List.mem_map.mp this;simp only [Prod.mk.injEq] at e;exact ⟨q,hq,e.1,e.2.1,e.2.2⟩
 have hpl:ns'.map (·.place)=ns.map (·.place):=by
  have:=congrArg (List.map fun k:Int×Int×List (Str×Int)=>k.1) hk;rw [List.map_map,List.map_map] at this;exact this
 have hpp:(ns'.map fun n=>(n.place,n.par))=ns.map fun n=>(n.place,n.par):=by
  have:=congrArg (List.map fun k:Int×Int×List (Str×Int)=>(k.1,k.2.1)) hk;rw [List.map_map,List.map_map] at this;exact this
 refine {key:=key,pnd:=by rw [hpl];exact I.pnd,pl:=fun n hn=>?_,kids:=fun p n hn x c=>?_,names:=fun r h hz=>?_,root:=⟨?_,fun r h=>?_⟩,dep:=by rw [hpp];exact I.dep,sums:=sums,bnd:=bnd,len:=?_}
 ·have:n.place∈ns.map (·.place):=by rw [<-hpl];exact List.mem_map_of_mem hn
  obtain ⟨m,hm,e⟩:=List.mem_map.mp this;rw [<-e];exact I.pl m hm
 ·have e:=map_at (f:=fun n=>(n.place,n.par,n.kids)) (fun a b h=>congrArg (·.1) h) hk p;rw [hn] at e;cases hm:ndAt ns p with
  | none=>rw [hm] at e;cases e
  | some m=>
   rw [hm] at e;have e2:n.kids=m.kids:=congrArg (·.2.2) (Option.some.inj e);rw [e2,I.kids p m hm x c];constructor
   ·rintro ⟨r,h,h1,h2,h3⟩;obtain ⟨q,hq,q1,q2,q3⟩:=mk' h;exact ⟨q,hq,q2.trans h1,q3.trans h2,q1.trans h3⟩
   ·rintro ⟨r,h,h1,h2,h3⟩;obtain ⟨q,hq,q1,q2,q3⟩:=mk h;exact ⟨q,hq,q2.trans h1,q3.trans h2,q1.trans h3⟩
 ·obtain ⟨q,hq,q1,q2,q3⟩:=mk h;rw [<-q3];exact I.names q hq (q2▸hz)
 ·obtain ⟨r,h,e⟩:=I.root.1;obtain ⟨q,hq,q1,_⟩:=mk' h;exact ⟨q,hq,q1.trans e⟩
 ·obtain ⟨q,hq,q1,q2,q3⟩:=mk h;rw [<-q1,<-q2];exact I.root.2 q hq
 ·have:=congrArg List.length hpl;simp only [List.length_map] at this;have:=I.len;omega
theorem keyK_K{ns ns':List Nd}(h:ns'.map keyK=ns.map keyK):(ns'.map fun n=>(n.place,n.par,n.kids))=ns.map fun n=>(n.place,n.par,n.kids):=by
 have:=congrArg (List.map fun k:Int×Int×Int×Int×List (Str×Int)=>(k.1,k.2.1,k.2.2.2.2)) h;rw [List.map_map,List.map_map] at this;exact this
theorem Inv.parNeg(I:Inv last ns rs t){dep:Int->Nat}(S:Stat ns dep):∀ m∈ns,m.par≠ -1:=fun m hm=>by have:=S.par_le hm;omega
theorem upd_self{ns:List Nd}(nd:(ns.map (·.place)).Nodup){n:Nd}(hn:n∈ns):u_ ns n=ns:=by
 have:=ua_ id nd hn (m:=n) rfl rfl;simpa using this
theorem Inv.used(I:Inv last ns rs t)(ht:t<=11){r:Rw}(hr:rwAt rs r.place=some r){many:Int}(hm:0<=many/\many<=99){k:Nat}(hk:ci_ ns k r.place):
  CuOk k ns r.place (many - r.used) 0/\Inv last (ca_ k ns r.place (many - r.used) 0) (ub_ rs {r with used:=many}) (t+1):=by
 obtain ⟨dep,T⟩:=I.dep;have S:=I.stat (by omega) T;obtain ⟨n,hn,e⟩:=I.nd_of hr;obtain ⟨hnm,hnp⟩:=nm_ hn;obtain ⟨hrm,_⟩:=rm_ hr;have e1:r.used=n.used:=congrArg (·.2.2.1) e;have e2:r.par=n.par:=congrArg (·.2.1) e;have e3:r.res=n.res:=congrArg (·.2.2.2) e;have hbnd:=S.ok n hnm;have hpn:=(S.par hnm).1;have fin:∀ ns',ns'.map keyK=(u_ ns (n.add (many - r.used) 0)).map keyK->(∀ a∈ns',a.bel=ce_ ns' (-1) a.place)->Inv last ns' (ub_ rs {r with used:=many}) (t+1):=fun ns' hk1 hs=>by
  have hkN:=keyK_N hk1;refine I.same (Nat.le_succ t) ((keyK_K hk1).trans (ua_ _ S.pnd hnm rfl rfl)) (uc_ _ I.rnd hrm rfl rfl) ?_ hs fun a ha=>?_
  ·rw [hkN,updN_keys,updR_keys,I.key];have:keyR {r with used:=many}=keyN (n.add (many - r.used) 0):=by
    unfold keyR keyN Nd.add;simp only [Prod.mk.injEq];exact ⟨hnp.symm,e2,by omega,e3⟩
   rw [this];have:(n.add (many - r.used) 0).place=({r with used:=many}:Rw).place:=hnp;rw [this]
  ·obtain ⟨b,hb,eb⟩:=mo_ hkN ha;have u1:a.used=b.used:=congrArg (·.2.2.1) eb;have u2:a.res=b.res:=congrArg (·.2.2.2) eb;rw [u1,u2];rcases um_ hb with rfl | ⟨hb,_⟩
   ·show (0<=n.used+(many - r.used)/\n.used+(many - r.used)<=99)/\0<=n.res/\n.res<=99;omega
   ·exact I.bnd b hb
 by_cases hu:many - r.used=0
 ·obtain ⟨c1,c2⟩:=cu_stop (k:=k) (ns:=ns) (q:=r.place) (u:=many - r.used) (b:=0) (by rw [hu];simp);rw [c1];refine ⟨c2,fin ns ?_ I.sums⟩;have:n.add (many - r.used) 0=n:=by rw [hu];unfold Nd.add;simp
  rw [this,upd_self S.pnd hnm]
 ·have hz:r.place≠0:=by omega
  cases k with
  | zero=>exact absurd hk hz
  | succ k=>
   rcases hk with hk | ⟨n',hn',hk⟩
   ·exact absurd hk hz
   ·rw [hn] at hn';cases hn';have hcond:r.place≠0/\(many - r.used≠0\/(0:Int)≠0):=⟨hz,.inl hu⟩;have hsum:=I.sums n hnm;have S2:Stat (u_ ns (n.add (many - r.used) 0)) dep:=S.upd hnm rfl rfl (by show 0<=n.used+(many - r.used)/\n.used+(many - r.used)<=99;omega) hbnd.2.2;have O2:Off (u_ ns (n.add (many - r.used) 0)) (-1) n.par ((n.add (many - r.used) 0).share - n.share):=off_step (m:=n.add (many - r.used) 0) S.pnd hnm rfl rfl (fun z=>by rw [z] at hpn;omega) (by omega) (by show n.bel+0=_;omega) fun a ha _=>I.sums a ha;have hpp:(u_ ns (n.add (many - r.used) 0)).map (fun n=>(n.place,n.par))=ns.map fun n=>(n.place,n.par):=ua_ _ S.pnd hnm rfl rfl;have c2:ci_ (u_ ns (n.add (many - r.used) 0)) k n.par:=climbP hpp k n.par hk;obtain ⟨i1,i2,i3,_⟩:=cu_ok (dep:=dep) (ex:= -1) k _ n.par _ S2 O2 c2 (noNeg (fun m hm=>by
     rcases um_ hm with rfl | ⟨hm,_⟩
     ·exact I.parNeg S n hnm
     ·exact I.parNeg S m hm) k n.par (I.parNeg S n hnm))
    rw [cu_go hcond hn];refine ⟨fun _=>⟨n,hn,?_,i1⟩,fin _ i3 i2⟩;have hnn:=S.ch_nn (-1) n.place;have hle:=S.ch_le (ex:= -1) (q:=n.place) (δ:=0) (fun a ha=>by have:=I.sums a ha;split <;> omega);refine S.fit (m:=n.add (many - r.used) 0) hnm rfl (show 0<=n.par/\n.par<=800 from S.par_le hnm) (show 0<=n.used+(many - r.used)/\n.used+(many - r.used)<=99 by omega) hbnd.2.2 ?_;show 0<=n.bel+0/\n.bel+0<=_;rw [hsum];omega
end
end
section
section
variable {last:Int} {ns:List Nd} {rs:List Rw} {t:Nat}
theorem Inv.reserved(I:Inv last ns rs t)(ht:t<=11){r:Rw}(hr:rwAt rs r.place=some r){n:Nd}(hn:ndAt ns r.place=some n){many:Int}(hm:0<=many/\many<=99){k:Nat}(hk:ci_ ns k n.par):
  ({n with res:=many}:Nd).Fit/\CuOk k (u_ ns {n with res:=many}) n.par 0 (({n with res:=many}:Nd).share - n.share)/\
  Inv last (ca_ k (u_ ns {n with res:=many}) n.par 0 (({n with res:=many}:Nd).share - n.share)) (ub_ rs {r with res:=many}) (t+1):=by
 obtain ⟨dep,T⟩:=I.dep;have S:=I.stat (by omega) T;obtain ⟨n',hn',e⟩:=I.nd_of hr;rw [hn] at hn';cases hn';obtain ⟨hnm,hnp⟩:=nm_ hn;obtain ⟨hrm,_⟩:=rm_ hr;have e1:r.used=n.used:=congrArg (·.2.2.1) e;have e2:r.par=n.par:=congrArg (·.2.1) e;have hbnd:=S.ok n hnm;have hpn:=(S.par hnm).1;have hsum:=I.sums n hnm;have S2:Stat (u_ ns {n with res:=many}) dep:=S.upd hnm rfl rfl hbnd.2.1 hm;have O2:Off (u_ ns {n with res:=many}) (-1) n.par (({n with res:=many}:Nd).share - n.share):=off_step (m:={n with res:=many}) S.pnd hnm rfl rfl (fun z=>by rw [z] at hpn;omega) (by omega) hsum fun a ha _=>I.sums a ha;have hpp:(u_ ns {n with res:=many}).map (fun n=>(n.place,n.par))=ns.map fun n=>(n.place,n.par):=ua_ _ S.pnd hnm rfl rfl;obtain ⟨i1,i2,i3,_⟩:=cu_ok (dep:=dep) (ex:= -1) k _ n.par _ S2 O2 (climbP hpp k n.par hk) (noNeg (fun m hm=>by
  rcases um_ hm with rfl | ⟨hm,_⟩
  ·exact I.parNeg S n hnm
  ·exact I.parNeg S m hm) k n.par (I.parNeg S n hnm))
 have hkN:=keyK_N i3;refine ⟨?_,i1,I.same (Nat.le_succ t) ((keyK_K i3).trans (ua_ _ S.pnd hnm rfl rfl)) (uc_ _ I.rnd hrm rfl rfl) ?_ i2 fun a ha=>?_⟩
 ·have hnn:=S.ch_nn (-1) n.place;have hle:=S.ch_le (ex:= -1) (q:=n.place) (δ:=0) (fun a ha=>by have:=I.sums a ha;split <;> omega);refine S.fit (m:={n with res:=many}) hnm rfl (show 0<=n.par/\n.par<=800 from S.par_le hnm) hbnd.2.1 hm ?_;show 0<=n.bel/\n.bel<=_;rw [hsum];exact ⟨hnn,hle⟩
 ·rw [hkN,updN_keys,updR_keys,I.key];have e3:keyR {r with res:=many}=keyN {n with res:=many}:=by
   unfold keyR keyN;rw [e2,e1];show (r.place,n.par,n.used,many)=(n.place,n.par,n.used,many);rw [hnp]
  rw [e3];have:({n with res:=many}:Nd).place=({r with res:=many}:Rw).place:=hnp;rw [this]
 ·obtain ⟨b,hb,eb⟩:=mo_ hkN ha;have u1:a.used=b.used:=congrArg (·.2.2.1) eb;have u2:a.res=b.res:=congrArg (·.2.2.2) eb;rw [u1,u2];rcases um_ hb with rfl | ⟨hb,_⟩
  ·exact ⟨hbnd.2.1,hm⟩
  ·exact I.bnd b hb
theorem lookup_app{x y:Str}{c:Int}:∀ {l:List (Str×Int)},(l++ [(x,c)]).lookup y=match l.lookup y with
  | some d=>some d
  | none=>if y=x then some c else none
 | []=>by
  rw [List.nil_append,List.lookup_cons];by_cases h:y=x
  ·subst h;simp
  ·have:(y==x)=false:=by simpa using h
   rw [this];simp [h]
 | (z,u)::r=>by
  rw [List.cons_append,List.lookup_cons,List.lookup_cons];by_cases h:y=z
  ·subst h;simp
  ·have:(y==z)=false:=by simpa using h
   rw [this];exact lookup_app
theorem ld_{x y:Str}:∀ {l:List (Str×Int)},(l.map (·.1)).Nodup->(db_ x l).lookup y=if y=x then none else l.lookup y
 | [],_=>by unfold db_;split <;> rfl
 | (z,u)::r,nd=>by
  rw [List.map_cons,List.nodup_cons] at nd;unfold db_;by_cases h:z=x
  ·rw [if_pos h];by_cases hy:y=x
   ·rw [if_pos hy];cases hl:r.lookup y with
    | none=>rfl
    | some c=>
     exact absurd (List.mem_map.mpr ⟨_,lm_ hl,rfl⟩) (by
      have:z=y:=h.trans hy.symm;rw [<-this];exact nd.1)
   ·rw [if_neg hy,List.lookup_cons];have:(y==z)=false:=by rw [h];simpa using hy
    rw [this]
  ·rw [if_neg h,List.lookup_cons,List.lookup_cons,ld_ nd.2];by_cases hy:y=z
   ·have e:(y==z)=true:=by simpa using hy
    have:y≠x:=fun q=>h (hy.symm.trans q);rw [e];simp [this]
   ·have:(y==z)=false:=by simpa using hy
    rw [this]
theorem chSum_none{ns:List Nd}{ex p:Int}(h:∀ c∈ns,c.par≠p):ce_ ns ex p=0:=by
 unfold ce_;have:(sumF ns fun c=>if c.par=p/\c.place≠ex then c.share else 0)=sumF ns fun _=>0:=sf_ fun c hc=>if_neg fun z=>h c hc z.1;rw [this];clear this h
 induction ns with
 | nil=>rfl
 | cons a r ih=>rw [se_,ih];rfl
theorem Inv.added(I:Inv last ns rs t)(ht:t<=11){n:Nd}(hp:ndAt ns n.place=some n){x:Str}(hx:x∈lawNames)(ok:o_ x=true)(free:n.kids.lookup x=none)(z a:Nat):
  Inv (last+1+1+1) (addNs ns last n x z) (rs++ [⟨last+1+1+1,n.place,x,0,0,a⟩]) (t+1):=by
 obtain ⟨dep,T⟩:=I.dep;have S:=I.stat (by omega) T;obtain ⟨hnm,_⟩:=nm_ hp;have hpl:=I.pl n hnm;have hlen:=I.len;have hnew:∀ m∈ns,m.place≠last+1+1+1:=fun m hm z=>by have:=I.pl m hm;omega
 have hpar:∀ m∈ns,m.par≠last+1+1+1:=fun m hm z=>by
  rcases (S.par hm).2.1 with h | ⟨q,hq⟩
  ·omega
  ·obtain ⟨h1,h2⟩:=nm_ hq;exact hnew q h1 (h2.trans z)
 have nd2:((ns++ [ne_ last n.place z]).map (·.place)).Nodup:=by
  rw [List.map_append];refine List.nodup_append.mpr ⟨I.pnd,by simp,?_⟩;intro u hu v hv e;obtain ⟨m,hm,rfl⟩:=List.mem_map.mp hu;simp only [List.map_cons,List.map_nil,List.mem_singleton] at hv;exact hnew m hm (e.trans hv)
 have hn2:n∈ns++ [ne_ last n.place z]:=List.mem_append_left _ hnm;have hkey:(addNs ns last n x z).map keyN=ns.map keyN++ [(last+1+1+1,n.place,0,0)]:=by
  unfold addNs;rw [ua_ keyN nd2 hn2 (m:={n with kids:=n.kids++ [(x,last+1+1+1)]}) rfl rfl,List.map_append];rfl
 have hch:∀ p,ce_ (addNs ns last n x z) (-1) p=ce_ ns (-1) p:=fun p=>by
  unfold addNs;rw [chSum_upd nd2 hn2 (m:={n with kids:=n.kids++ [(x,last+1+1+1)]}) rfl rfl];have e0:({n with kids:=n.kids++ [(x,last+1+1+1)]}:Nd).share - n.share=0:=Int.sub_self n.share;rw [e0];unfold ce_;rw [sumF_app,se_,sumF_nil];have e1:(ne_ last n.place z).share=0:=rfl;rw [e1];split <;> split <;> omega
 have nkid:∀ p m,ndAt ns p=some m->p≠last+1+1+1:=fun p m h e=>by
  obtain ⟨h1,h2⟩:=nm_ h;exact hnew m h1 (h2.trans e)
 have rpar:∀ r∈rs,r.par≠last+1+1+1:=fun r hr e=>by
  obtain ⟨m,hm,em⟩:=I.nd_of (ro_ I.rnd hr);exact hpar m (nm_ hm).1 ((congrArg (·.2.1) em:r.par=m.par).symm.trans e)
 refine {key:=?_,pnd:=?_,pl:=fun m hm=>?_,kids:=fun p m hm y c=>?_,names:=fun r hr hz=>?_,root:=⟨?_,fun r hr=>?_⟩,dep:=⟨fun q=>if q=last+1+1+1 then dep n.place+1 else dep q,?_⟩,sums:=fun m hm=>?_,bnd:=fun m hm=>?_,len:=?_}
 ·rw [hkey,List.map_append,I.key];rfl
 ·unfold addNs;rw [up_];exact nd2
 ·rcases um_ hm with rfl | ⟨hm,_⟩
  ·show 4<=n.place/\n.place<=_;omega
  ·rcases List.mem_append.mp hm with hm | hm
   ·have:=I.pl m hm;omega
   ·rw [List.mem_singleton.mp hm];show 4<=last+1+1+1/\last+1+1+1<=last+1+1+1;omega
 ·unfold addNs at hm;rw [nu_,ndAt_app] at hm;by_cases h1:p=n.place
  ·have h1':p=({n with kids:=n.kids++ [(x,last+1+1+1)]}:Nd).place:=h1;rw [if_pos h1',h1,hp] at hm;cases hm;show (n.kids++ [(x,last+1+1+1)]).lookup y=some c ↔ _;rw [lookup_app];constructor
   ·intro h;cases hl:n.kids.lookup y with
    | some d=>
     rw [hl] at h;obtain ⟨r,hr,h2,h3,h4⟩:=(I.kids n.place n hp y d).mp hl;cases h;exact ⟨r,List.mem_append_left _ hr,h2.trans h1.symm,h3,h4⟩
    | none=>
     rw [hl] at h;dsimp only at h;by_cases hy:y=x
     ·rw [if_pos hy] at h;exact ⟨_,List.mem_append_right _ (List.mem_singleton.mpr rfl),h1.symm,hy.symm,Option.some.inj h⟩
     ·rw [if_neg hy] at h;cases h
   ·rintro ⟨r,hr,h2,h3,h4⟩;rcases List.mem_append.mp hr with hr | hr
    ·have:=(I.kids n.place n hp y c).mpr ⟨r,hr,h2.trans h1,h3,h4⟩;rw [this]
    ·rw [List.mem_singleton.mp hr] at h2 h3 h4;have h3:x=y:=h3;rw [<-h3,free];dsimp only;rw [if_pos rfl];exact congrArg some h4
  ·have h1':¬ p=({n with kids:=n.kids++ [(x,last+1+1+1)]}:Nd).place:=h1;rw [if_neg h1'] at hm;cases ho:ndAt ns p with
   | some o=>
    rw [ho] at hm;cases hm;rw [I.kids p m ho y c];constructor
    ·rintro ⟨r,hr,h2⟩;exact ⟨r,List.mem_append_left _ hr,h2⟩
    ·rintro ⟨r,hr,h2,h3⟩;rcases List.mem_append.mp hr with hr | hr
     ·exact ⟨r,hr,h2,h3⟩
     ·rw [List.mem_singleton.mp hr] at h2;exact absurd h2.symm h1
   | none=>
    rw [ho] at hm;dsimp only at hm;by_cases h5:(ne_ last n.place z).place=p
    ·rw [if_pos h5] at hm;cases hm;have h5:last+1+1+1=p:=h5;constructor
     ·intro h;cases h
     ·rintro ⟨r,hr,h2,h3⟩;exfalso;rcases List.mem_append.mp hr with hr | hr
      ·exact rpar r hr (h2.trans h5.symm)
      ·rw [List.mem_singleton.mp hr] at h2;exact h1 h2.symm
    ·rw [if_neg h5] at hm;cases hm
 ·rcases List.mem_append.mp hr with hr | hr
  ·exact I.names r hr hz
  ·rw [List.mem_singleton.mp hr];exact ⟨hx,ok⟩
 ·obtain ⟨r,hr,e⟩:=I.root.1;exact ⟨r,List.mem_append_left _ hr,e⟩
 ·rcases List.mem_append.mp hr with hr | hr
  ·exact I.root.2 r hr
  ·rw [List.mem_singleton.mp hr];show n.place=0 ↔ last+1+1+1=4;omega
 ·have hpp:((addNs ns last n x z).map fun n=>(n.place,n.par))=(ns.map fun n=>(n.place,n.par))++ [(last+1+1+1,n.place)]:=by
   have:=congrArg (List.map fun k:Int×Int×Int×Int=>(k.1,k.2.1)) hkey;rw [List.map_append,List.map_map,List.map_map] at this;exact this
  rw [hpp];refine ⟨?_,fun e he=>?_⟩
  ·show (if (0:Int)=last+1+1+1 then dep n.place+1 else dep 0)=0;rw [if_neg (by omega)];exact T.zero
  ·rcases List.mem_append.mp he with he | he
   ·obtain ⟨u1,u2⟩:=T.up e he;obtain ⟨m,hm,rfl⟩:=List.mem_map.mp he;dsimp only at u1 u2 ⊢;rw [if_neg (hnew m hm),if_neg (hpar m hm)];exact ⟨u1,u2.imp_right fun ⟨f,hf,ef⟩=>⟨f,List.mem_append_left _ hf,ef⟩⟩
   ·rw [List.mem_singleton.mp he];dsimp only;rw [if_pos rfl,if_neg (show ¬ n.place=last+1+1+1 by omega)];exact ⟨rfl,.inr ⟨(n.place,n.par),List.mem_append_left _ (List.mem_map.mpr ⟨n,hnm,rfl⟩),rfl⟩⟩
 ·rw [hch];rcases um_ hm with rfl | ⟨hm,_⟩
  ·exact I.sums n hnm
  ·rcases List.mem_append.mp hm with hm | hm
   ·exact I.sums m hm
   ·rw [List.mem_singleton.mp hm];exact (chSum_none hpar).symm
 ·rcases um_ hm with rfl | ⟨hm,_⟩
  ·exact I.bnd n hnm
  ·rcases List.mem_append.mp hm with hm | hm
   ·exact I.bnd m hm
   ·rw [List.mem_singleton.mp hm];exact ⟨⟨Int.le_refl 0,(by decide:(0:Int)<=99)⟩,Int.le_refl 0,(by decide:(0:Int)<=99)⟩
 ·have:=congrArg List.length hkey;simp only [List.length_map,List.length_append,List.length_cons,List.length_nil] at this;omega
end
end
section
section
variable {last:Int} {ns:List Nd} {rs:List Rw} {t:Nat}
theorem sumF_single{ns:List Nd}(nd:(ns.map (·.place)).Nodup){n:Nd}(hn:n∈ns)(f:Nd->Int):(sumF ns fun c=>if c.place=n.place then 0 else f c)=sumF ns f - f n:=by
 induction ns with
 | nil=>cases hn
 | cons a r ih=>
  rw [List.map_cons,List.nodup_cons] at nd;rw [se_,se_];rcases List.mem_cons.mp hn with rfl | hn
  ·rw [if_pos rfl];have:(sumF r fun c=>if c.place=n.place then 0 else f c)=sumF r f:=sf_ fun c hc=>if_neg fun z=>nd.1 (by rw [<-z];exact List.mem_map_of_mem hc);rw [this];omega
  ·have:a.place≠n.place:=fun z=>nd.1 (by rw [z];exact List.mem_map_of_mem hn);rw [if_neg this,ih nd.2 hn];omega
theorem chSum_ex{ns:List Nd}(nd:(ns.map (·.place)).Nodup)(pl:∀ c∈ns,c.place≠ -1){n:Nd}(hn:n∈ns)(p:Int):ce_ ns n.place p=ce_ ns (-1) p - (if n.par=p then n.share else 0):=by
 unfold ce_;have e1:(sumF ns fun c=>if c.par=p/\c.place≠n.place then c.share else 0)=sumF ns fun c=>if c.place=n.place then 0 else (if c.par=p then c.share else 0):=sf_ fun c _=>by
  by_cases h1:c.place=n.place <;> by_cases h2:c.par=p <;> simp [h1,h2]
 have e2:(sumF ns fun c=>if c.par=p/\c.place≠ -1 then c.share else 0)=sumF ns fun c=>if c.par=p then c.share else 0:=sf_ fun c hc=>by
  have:=pl c hc;by_cases h2:c.par=p <;> simp [h2,this]
 rw [e1,e2,sumF_single nd hn]
theorem chSum_same{ns ns':List Nd}(h:ns'.map (fun n=>(n.place,n.par,n.share))=ns.map fun n=>(n.place,n.par,n.share))(ex p:Int):ce_ ns' ex p=ce_ ns ex p:=by
 have:=congrArg (fun l=>(List.map (fun k:Int×Int×Int=>if k.2.1=p/\k.1≠ex then k.2.2 else 0) l).sum) h;simp only [List.map_map] at this;exact this
theorem isIn_dep{dep:Int->Nat}(S:Stat ns dep):∀ (k:Nat) (p o:Int),isIn ns k p o=true->dep o<=dep p
 | 0,p,o,h=>by cases h
 | k+1,p,o,h=>by
  rw [is_] at h;by_cases hz:p=0
  ·rw [if_pos hz] at h;cases h
  ·rw [if_neg hz] at h;by_cases ho:p=o
   ·rw [ho];exact Nat.le_refl _
   ·rw [if_neg ho] at h;cases hn:ndAt ns p with
    | none=>rw [hn] at h;cases h
    | some n=>
     rw [hn] at h;obtain ⟨h1,h2⟩:=nm_ hn;have:=isIn_dep S k n.par o h;have u:=(S.par h1).1;rw [h2] at u;omega
theorem Inv.old(I:Inv last ns rs t){dep:Int->Nat}(S:Stat ns dep){n:Nd}{r:Rw}(hp:ndAt ns n.place=some n)(hr:rwAt rs n.place=some r)(hz:n.par≠0):∃ o,ndAt ns n.par=some o/\o.kids.lookup r.name=some n.place/\((ka_ o).find? fun y=>decide (o.kids.lookup y=some n.place))=some r.name:=by
 obtain ⟨hnm,_⟩:=nm_ hp;obtain ⟨hr1,hr2⟩:=rm_ hr;obtain ⟨n',hn',e⟩:=I.nd_of hr;rw [hp] at hn';cases hn';have e1:r.par=n.par:=congrArg (·.2.1) e;rcases (S.par hnm).2.1 with h | ⟨o,ho⟩
 ·exact absurd h hz
 ·have:=I.named hr1 (e1▸ho);rw [hr2] at this;exact ⟨o,ho,(I.kids n.par o ho r.name n.place).mpr ⟨r,hr1,e1,rfl,hr2⟩,this⟩
theorem Inv.less(I:Inv last ns rs t){dep:Int->Nat}(S:Stat ns dep){n:Nd}(hn:n∈ns){ns2:List Nd}(hk:ns2.map keyN=ns.map keyN)(hs:(ns2.map fun n=>(n.place,n.par,n.share))=ns.map fun n=>(n.place,n.par,n.share))(hb:(ns2.map fun n=>(n.place,n.bel))=ns.map fun n=>(n.place,n.bel)){k:Nat}(hc:ci_ ns k n.par):
  CuOk k ns2 n.par 0 (0 - n.share)/\(∀ a∈ca_ k ns2 n.par 0 (0 - n.share),a.bel=ce_ (ca_ k ns2 n.par 0 (0 - n.share)) n.place a.place)/\(ca_ k ns2 n.par 0 (0 - n.share)).map keyK=ns2.map keyK/\ndAt (ca_ k ns2 n.par 0 (0 - n.share)) n.place=ndAt ns2 n.place:=by
 have S2:=S.congr hk;have hpn:=(S.par hn).1;have O:Off ns2 n.place n.par (0 - n.share):=fun a ha=>by
  rw [chSum_same hs,chSum_ex I.pnd (fun c hc=>by have:=I.pl c hc;omega) hn];obtain ⟨b,hb2,eb⟩:=mo_ hb ha;simp only [Prod.mk.injEq] at eb;have:=I.sums b hb2;rw [eb.1,eb.2,this];by_cases h:b.place=n.par
  ·rw [if_pos h,if_pos h.symm];omega
  ·rw [if_neg h,if_neg (fun z=>h z.symm)];omega
 have hx:isIn ns2 k n.par n.place=false:=by
  cases h:isIn ns2 k n.par n.place with
  | false=>rfl
  | true=>have:=isIn_dep S2 _ _ _ h;omega
 obtain ⟨i1,i2,i3,i4⟩:=cu_ok (dep:=dep) k ns2 n.par _ S2 O (climb_congr hk k n.par hc) hx;exact ⟨i1,i2,i3,i4 (by have:=I.pl n hn;omega)⟩
theorem rmN_keys(ns:List Nd)(p:Int):(rmNd ns p).map keyN=(ns.map keyN).filter fun k=>decide (k.1≠p):=by
 unfold rmNd;rw [List.filter_map];rfl
theorem rmR_keys(rs:List Rw)(p:Int):(rmRw rs p).map keyR=(rs.map keyR).filter fun k=>decide (k.1≠p):=by
 unfold rmRw;rw [List.filter_map];rfl
theorem mv1_keys(nd:(ns.map (·.place)).Nodup){o:Nd}(ho:o∈ns)(ks:List (Str×Int)):(u_ ns {o with kids:=ks}).map keyN=ns.map keyN/\(u_ ns {o with kids:=ks}).map (fun n=>(n.place,n.par,n.share))=ns.map (fun n=>(n.place,n.par,n.share))/\(u_ ns {o with kids:=ks}).map (fun n=>(n.place,n.bel))=ns.map fun n=>(n.place,n.bel):=
 ⟨ua_ _ nd ho rfl rfl,ua_ _ nd ho rfl rfl,ua_ _ nd ho rfl rfl⟩
theorem Inv.dropped(I:Inv last ns rs t)(ht:t<=11)(nk:∀ n∈ns,(n.kids.map (·.1)).Nodup){n:Nd}(hp:ndAt ns n.place=some n){r:Rw}(hr:rwAt rs n.place=some r)(hz:n.par≠0)(hkn:n.kids= []){k1:Nat}(hc:ci_ ns k1 n.par):
  (∃ o x0,DropOk ns n o x0 k1)/\∀ o x0,DropOk ns n o x0 k1->Inv last (rmNd (ca_ k1 (mv1 ns o x0) n.par 0 (0 - n.share)) n.place) (rmRw rs n.place) (t+1):=by
 obtain ⟨dep,T⟩:=I.dep;have S:=I.stat (by omega) T;obtain ⟨hnm,_⟩:=nm_ hp;obtain ⟨hr1,hr2⟩:=rm_ hr;obtain ⟨n',hn',e⟩:=I.nd_of hr;rw [hp] at hn';cases hn';have e1:r.par=n.par:=congrArg (·.2.1) e;obtain ⟨o,ho,hol,hx0⟩:=I.old S hp hr hz;have hpn:=(S.par hnm).1;have main:∀ o x0,ndAt ns n.par=some o->CuOk k1 (mv1 ns o x0) n.par 0 (0 - n.share)/\(∀ a∈ca_ k1 (mv1 ns o x0) n.par 0 (0 - n.share),a.bel=ce_ (ca_ k1 (mv1 ns o x0) n.par 0 (0 - n.share)) n.place a.place)/\(ca_ k1 (mv1 ns o x0) n.par 0 (0 - n.share)).map keyK=(mv1 ns o x0).map keyK/\ndAt (ca_ k1 (mv1 ns o x0) n.par 0 (0 - n.share)) n.place=ndAt (mv1 ns o x0) n.place:=fun o x0 ho=>by
  obtain ⟨m1,m2,m3⟩:=mv1_keys S.pnd (nm_ ho).1 (db_ x0 o.kids);exact I.less S hnm m1 m2 m3 hc
 refine ⟨⟨o,r.name,ho,hx0,(main o r.name ho).1,n,?_⟩,fun o' x0 M=>?_⟩
 ·obtain ⟨hom,hop⟩:=nm_ ho;rw [(main o r.name ho).2.2.2,nu_];have:¬ n.place=({o with kids:=db_ r.name o.kids}:Nd).place:=fun z=>by
   have z:n.place=o.place:=z;rw [hop] at z;rw [z] at hpn;omega
  rw [if_neg this];exact hp
 ·have hoo:=M.ho;rw [ho] at hoo;cases hoo;have hxx:=M.hx0;rw [hx0] at hxx;cases hxx;obtain ⟨hom,hop⟩:=nm_ ho;obtain ⟨c1,c2,c3,c4⟩:=main o r.name ho;have kN1:=(mv1_keys S.pnd hom (db_ r.name o.kids)).1;have kN2:=(keyK_N c3).trans kN1;generalize hns2:ca_ k1 (mv1 ns o r.name) n.par 0 (0 - n.share)=ns2 at c1 c2 c3 c4 kN2;have hne4:n.place≠4:=fun z=>hz (by rw [<-e1];exact (I.root.2 r hr1).mpr (hr2.trans z));have nopar:∀ q∈rs,q.par≠n.place:=fun q hq z=>by
   have:=(I.kids n.place n hp q.name q.place).mpr ⟨q,hq,z,rfl,rfl⟩;rw [hkn] at this;cases this
  have key:(rmRw rs n.place).map keyR=(rmNd ns2 n.place).map keyN:=by rw [rmN_keys,rmR_keys,kN2,I.key]
  have sub:∀ a∈rmNd ns2 n.place,a∈ns2/\a.place≠n.place:=fun a ha=>by
   obtain ⟨h1,h2⟩:=List.mem_filter.mp ha;exact ⟨h1,by simpa using h2⟩
  have subR:∀ a,a∈rmRw rs n.place ↔ a∈rs/\a.place≠n.place:=fun a=>by
   unfold rmRw;rw [List.mem_filter];simp
  refine {key:=key,pnd:=?_,pl:=fun a ha=>?_,kids:=fun p m hm y c=>?_,names:=fun q hq hqz=>I.names q ((subR q).mp hq).1 hqz,root:=⟨?_,fun q hq=>I.root.2 q ((subR q).mp hq).1⟩,dep:=⟨dep,T.zero,fun f hf=>?_⟩,sums:=fun a ha=>?_,bnd:=fun a ha=>?_,len:=?_}
  ·have:(ns2.map (·.place)).Nodup:=by rw [keyN_pl kN2];exact I.pnd
   exact (List.filter_sublist.map _).nodup this
  ·obtain ⟨b,hb,eb⟩:=mo_ kN2 (sub a ha).1;have:a.place=b.place:=congrArg (·.1) eb;rw [this];exact I.pl b hb
  ·rw [ndAt_rm] at hm;by_cases hpp:p=n.place
   ·rw [if_pos hpp] at hm;cases hm
   ·rw [if_neg hpp] at hm;have e2:=keyK_at c3 p;rw [hm,nu_] at e2;by_cases hpo:p=n.par
    ·have hpo':p=({o with kids:=db_ r.name o.kids}:Nd).place:=hpo.trans hop.symm;rw [if_pos hpo',hpo,ho] at e2;have e3:m.kids=db_ r.name o.kids:=congrArg (·.2.2.2.2) (Option.some.inj e2);rw [e3,ld_ (nk o hom)];by_cases hy:y=r.name
     ·rw [if_pos hy];constructor
      ·intro h;cases h
      ·rintro ⟨q,hq,q1,q2,q3⟩;obtain ⟨hq1,hq2⟩:=(subR q).mp hq;have:=I.uniq hq1 hr1 (q1.trans (hpo.trans e1.symm)) (q2.trans hy);rw [this,hr2] at hq2;exact absurd rfl hq2
     ·rw [if_neg hy,I.kids n.par o ho y c];constructor
      ·rintro ⟨q,hq,q1,q2,q3⟩;refine ⟨q,(subR q).mpr ⟨hq,fun z=>hy ?_⟩,q1.trans hpo.symm,q2,q3⟩;have:q=r:=ni_ I.rnd hq hr1 (z.trans hr2.symm);rw [<-q2,this]
      ·rintro ⟨q,hq,q1,q2,q3⟩;exact ⟨q,((subR q).mp hq).1,q1.trans hpo,q2,q3⟩
    ·have hpo':¬ p=({o with kids:=db_ r.name o.kids}:Nd).place:=fun z=>hpo (z.trans hop);rw [if_neg hpo'] at e2;cases hm2:ndAt ns p with
     | none=>rw [hm2] at e2;cases e2
     | some m2=>
      rw [hm2] at e2;have e3:m.kids=m2.kids:=congrArg (·.2.2.2.2) (Option.some.inj e2);rw [e3,I.kids p m2 hm2 y c];constructor
      ·rintro ⟨q,hq,q1,q2,q3⟩;refine ⟨q,(subR q).mpr ⟨hq,fun z=>hpo ?_⟩,q1,q2,q3⟩;have:q=r:=ni_ I.rnd hq hr1 (z.trans hr2.symm);rw [<-q1,this,e1]
      ·rintro ⟨q,hq,q1,q2,q3⟩;exact ⟨q,((subR q).mp hq).1,q1,q2,q3⟩
  ·obtain ⟨q,hq,e4⟩:=I.root.1;exact ⟨q,(subR q).mpr ⟨hq,fun z=>hne4 (z.symm.trans e4)⟩,e4⟩
  ·obtain ⟨a,ha,rfl⟩:=List.mem_map.mp hf;obtain ⟨ha1,ha2⟩:=sub a ha;obtain ⟨b,hb,eb⟩:=mo_ kN2 ha1;have eb1:a.place=b.place:=congrArg (·.1) eb;have eb2:a.par=b.par:=congrArg (·.2.1) eb;dsimp only;rw [eb1,eb2];refine ⟨(S.par hb).1,(S.par hb).2.1.imp_right fun ⟨m,hm⟩=>?_⟩;obtain ⟨hm1,hm2⟩:=nm_ hm;obtain ⟨m',hm',em⟩:=mo_ kN2.symm hm1;have em1:m.place=m'.place:=congrArg (·.1) em;have hnp:m'.place≠n.place:=fun z=>by
    obtain ⟨q,hq,eq⟩:=I.rw_of (no_ I.pnd hb);have eq2:q.par=b.par:=congrArg (·.2.1) eq;exact nopar q (rm_ hq).1 (eq2.trans (hm2.symm.trans (em1.trans z)))
   exact ⟨(m'.place,m'.par),List.mem_map.mpr ⟨m',List.mem_filter.mpr ⟨hm',by simpa using hnp⟩,rfl⟩,em1.symm.trans hm2⟩
  ·obtain ⟨ha1,ha2⟩:=sub a ha;rw [c2 a ha1];unfold ce_;rw [sumF_rm];refine sf_ fun c hc=>?_;obtain ⟨b,hb,eb⟩:=mo_ kN2 hc;have eb1:c.place=b.place:=congrArg (·.1) eb;have:=I.pl b hb;have hm1:c.place≠ -1:=by omega
   by_cases h1:c.place=n.place <;> by_cases h2:c.par=a.place <;> simp [h1,h2,hm1]
  ·obtain ⟨b,hb,eb⟩:=mo_ kN2 (sub a ha).1;have u1:a.used=b.used:=congrArg (·.2.2.1) eb;have u2:a.res=b.res:=congrArg (·.2.2.2) eb;rw [u1,u2];exact I.bnd b hb
  ·have h1:(rmNd ns2 n.place).length<=ns2.length:=List.length_filter_le _ _;have h2:=congrArg List.length kN2;simp only [List.length_map] at h2;have:=I.len;omega
end
end
section
section
variable {last:Int} {ns:List Nd} {rs:List Rw} {t:Nat}
theorem Inv.kids_len(I:Inv last ns rs t){p:Int}{n:Nd}(hn:ndAt ns p=some n)(nk:(n.kids.map (·.1)).Nodup):n.kids.length<=ns.length:=by
 have:=nd_len nk (l':=(rs.filter fun c=>decide (c.par=p)).map (·.name)) fun x hx=>(I.kid_mem hn x).mp hx;rw [List.length_map,List.length_map] at this;have h2:=List.length_filter_le (fun c:Rw=>decide (c.par=p)) rs;have:=I.rlen;omega
theorem isIn_never{o:Int}(ho:o≠0):∀ (k:Nat) (p:Int),ci_ ns k p->isIn ns k p o=false->∀ j,isIn ns j p o=false
 | 0,p,c,_,j=>by
  have c:p=0:=c;cases j with
  | zero=>rfl
  | succ j=>rw [is_,if_pos c]
 | k+1,p,c,h,j=>by
  cases j with
  | zero=>rfl
  | succ j=>
   rw [is_] at h ⊢;by_cases hz:p=0
   ·rw [if_pos hz]
   ·rw [if_neg hz] at h ⊢;by_cases hp:p=o
    ·rw [if_pos hp] at h;cases h
    ·rw [if_neg hp] at h ⊢;rcases c with c | ⟨n,hn,c⟩
     ·exact absurd c hz
     ·rw [hn] at h ⊢;exact isIn_never ho k n.par c h j
theorem climb_avoid{ns':List Nd}{o:Int}(h:∀ p,p≠o->(ndAt ns' p).map (·.par)=(ndAt ns p).map (·.par)):∀ (k:Nat) (p:Int),ci_ ns k p->isIn ns k p o=false->ci_ ns' k p
 | 0,p,c,_=>c
 | k+1,p,c,hi=>by
  rcases c with c | ⟨n,hn,c⟩
  ·exact .inl c
  ·rw [is_] at hi;by_cases hz:p=0
   ·exact .inl hz
   ·rw [if_neg hz] at hi;by_cases hp:p=o
    ·rw [if_pos hp] at hi;cases hi
    ·rw [if_neg hp,hn] at hi;have e:=h p hp;rw [hn] at e;cases hm:ndAt ns' p with
     | none=>rw [hm] at e;cases e
     | some m=>
      rw [hm] at e;have e1:m.par=n.par:=Option.some.inj e;exact .inr ⟨m,hm,e1▸climb_avoid h k n.par c hi⟩
theorem isIn_anyK{o:Int}(ho:o≠0){k k':Nat}{p:Int}(c:ci_ ns k p)(h:isIn ns k p o=false):isIn ns k' p o=false:=isIn_never ho k p c h k'
theorem Inv.kids1(I:Inv last ns rs t)(nk:∀ n∈ns,(n.kids.map (·.1)).Nodup){n:Nd}{r:Rw}(hr:rwAt rs n.place=some r)(e1:r.par=n.par){o:Nd}(ho:ndAt ns n.par=some o){p:Int}{m:Nd}(hm:ndAt (mv1 ns o r.name) p=some m)(y:Str)(c:Int):
  m.kids.lookup y=some c ↔ ∃ q∈rs,q.place≠n.place/\q.par=p/\q.name=y/\q.place=c:=by
 obtain ⟨hr1,hr2⟩:=rm_ hr;obtain ⟨hom,hop⟩:=nm_ ho;rw [nu_] at hm;by_cases hpo:p=n.par
 ·have hpo':p=({o with kids:=db_ r.name o.kids}:Nd).place:=hpo.trans hop.symm;rw [if_pos hpo',hpo,ho] at hm;cases hm;rw [show ({o with kids:=db_ r.name o.kids}:Nd).kids=db_ r.name o.kids from rfl,ld_ (nk o hom)];by_cases hy:y=r.name
  ·rw [if_pos hy];constructor
   ·intro h;cases h
   ·rintro ⟨q,hq,hq2,q1,q2,q3⟩;have:=I.uniq hq hr1 (q1.trans (hpo.trans e1.symm)) (q2.trans hy);rw [this,hr2] at hq2;exact absurd rfl hq2
  ·rw [if_neg hy,I.kids n.par o ho y c];constructor
   ·rintro ⟨q,hq,q1,q2,q3⟩;refine ⟨q,hq,fun z=>hy ?_,q1.trans hpo.symm,q2,q3⟩;have:q=r:=ni_ I.rnd hq hr1 (z.trans hr2.symm);rw [<-q2,this]
   ·rintro ⟨q,hq,_,q1,q2,q3⟩;exact ⟨q,hq,q1.trans hpo,q2,q3⟩
 ·have hpo':¬ p=({o with kids:=db_ r.name o.kids}:Nd).place:=fun z=>hpo (z.trans hop);rw [if_neg hpo'] at hm;rw [I.kids p m hm y c];constructor
  ·rintro ⟨q,hq,q1,q2,q3⟩;refine ⟨q,hq,fun z=>hpo ?_,q1,q2,q3⟩;have:q=r:=ni_ I.rnd hq hr1 (z.trans hr2.symm);rw [<-q1,this,e1]
  ·rintro ⟨q,hq,_,q1,q2,q3⟩;exact ⟨q,hq,q1,q2,q3⟩
theorem Inv.moved(I:Inv last ns rs t)(ht:t<=11)(nk:∀ n∈ns,(n.kids.map (·.1)).Nodup){n tn:Nd}(hp:ndAt ns n.place=some n){r:Rw}(hr:rwAt rs n.place=some r){np:Int}(htn:ndAt ns np=some tn){x:Str}(hx:x∈lawNames)(ok:o_ x=true)(hz:n.par≠0)
  {k:Nat} (hck:ci_ ns k np) (hin:isIn ns k np n.place=false) (free:tn.kids.lookup x=none) {k1 k2:Nat} (hc1:ci_ ns k1 n.par) (hc2:ci_ ns k2 np):
  (∃ o x0 t1,MoveOk ns n np x o x0 t1 k1 k2)/\∀ o x0 t1,MoveOk ns n np x o x0 t1 k1 k2->Inv last (mv5 ns n np x o x0 t1 k1 k2) (ub_ rs {r with par:=np,name:=x}) (t+1):=by
 obtain ⟨dep,T⟩:=I.dep;have S:=I.stat (by omega) T;obtain ⟨hnm,_⟩:=nm_ hp;obtain ⟨htm,htp⟩:=nm_ htn;obtain ⟨hr1,hr2⟩:=rm_ hr;obtain ⟨n',hn',e⟩:=I.nd_of hr;rw [hp] at hn';cases hn';have e1:r.par=n.par:=congrArg (·.2.1) e;obtain ⟨o,ho,hol,hx0⟩:=I.old S hp hr hz;obtain ⟨hom,hop⟩:=nm_ ho;have hpn:=(S.par hnm).1;have hpl:=I.pl n hnm;have htpl:=I.pl tn htm;have hlen:=I.len;have hbn:=S.ok n hnm;have hnz:n.place≠0:=by omega
 have hnpz:np≠0:=by omega
 have hin2:isIn ns k2 np n.place=false:=isIn_anyK hnz hck hin;have hnpn:np≠n.place:=fun z=>by
  have h:=isIn_anyK (k':=1) hnz hck hin;rw [is_,if_neg hnpz,if_pos z] at h;cases h
 have hnp2:n.place≠n.par:=fun z=>by rw [z] at hpn;omega
 have kN1:=mv1_keys S.pnd hom (db_ r.name o.kids);have pnd1:((mv1 ns o r.name).map (·.place)).Nodup:=by rw [up_];exact S.pnd
 have ht1e:∃ t1,ndAt (mv1 ns o r.name) np=some t1/\t1.kids.lookup x=none/\t1.kids.length < 63:=by
  have hkl:=I.kids_len htn (nk tn htm);by_cases hno:np=o.place
  ·have hto:tn=o:=by
    rw [hno,hop,ho] at htn;exact (Option.some.inj htn).symm
   refine ⟨{o with kids:=db_ r.name o.kids},?_,?_,?_⟩
   ·rw [nu_,if_pos (show np=({o with kids:=db_ r.name o.kids}:Nd).place from hno),htn];rfl
   ·show (db_ r.name o.kids).lookup x=none;rw [ld_ (nk o hom)];rw [hto] at free;split
    ·rfl
    ·exact free
   ·show (db_ r.name o.kids).length < 63;have:=(dropL_sub r.name o.kids).length_le;rw [hto] at hkl;omega
  ·refine ⟨tn,?_,free,by omega⟩;rw [nu_,if_neg (show ¬ np=({o with kids:=db_ r.name o.kids}:Nd).place from hno)];exact htn
 have main:∀ t1,ndAt (mv1 ns o r.name) np=some t1->t1.kids.lookup x=none->t1.kids.length < 63->MoveOk ns n np x o r.name t1 k1 k2/\Inv last (mv5 ns n np x o r.name t1 k1 k2) (ub_ rs {r with par:=np,name:=x}) (t+1):=fun t1 ht1 fr1 ln1=>by
  obtain ⟨ht1m,ht1p⟩:=nm_ ht1;have kN2:=mv1_keys pnd1 ht1m (t1.kids++ [(x,n.place)]);have kN:(mv2 ns n x o r.name t1).map keyN=ns.map keyN:=kN2.1.trans kN1.1;obtain ⟨c1,c2,c3,c4⟩:=I.less S hnm (ns2:=mv2 ns n x o r.name t1) kN (kN2.2.1.trans kN1.2.1) (kN2.2.2.trans kN1.2.2) hc1;have hn2:ndAt (mv2 ns n x o r.name t1) n.place=some n:=by
   rw [nu_,if_neg (show ¬ n.place=({t1 with kids:=t1.kids++ [(x,n.place)]}:Nd).place from fun z=>hnpn (ht1p.symm.trans z.symm)),nu_,if_neg (show ¬ n.place=({o with kids:=db_ r.name o.kids}:Nd).place from fun z=>hnp2 (z.trans hop))];exact hp
  have hn3:ndAt (mv3 ns n x o r.name t1 k1) n.place=some n:=c4.trans hn2;have kN3:(mv3 ns n x o r.name t1 k1).map keyN=ns.map keyN:=(keyK_N c3).trans kN;have hsum3:∀ a∈mv3 ns n x o r.name t1 k1,a.bel=ce_ (mv3 ns n x o r.name t1 k1) n.place a.place:=c2;have S3:=S.congr kN3;have hn3m:=(nm_ hn3).1;have pl3:∀ c∈mv3 ns n x o r.name t1 k1,c.place≠ -1:=fun c hc=>by have:=(S3.ok c hc).1;omega
  have keys4:(mv4 ns n np x o r.name t1 k1).map keyN=(ns.map keyN).map fun q=>if q.1=n.place then (n.place,np,n.used,n.res) else q:=by
   show (u_ _ _).map keyN=_;rw [updN_keys,kN3]
  have pp4:((mv4 ns n np x o r.name t1 k1).map fun n=>(n.place,n.par))=(ns.map fun n=>(n.place,n.par)).map fun q=>if q.1=n.place then (n.place,np) else q:=by
   have:=congrArg (List.map fun q:Int×Int×Int×Int=>(q.1,q.2.1)) keys4;rw [List.map_map,List.map_map,List.map_map] at this;rw [List.map_map];refine this.trans (List.map_congr_left fun a _=>?_);show (fun q:Int×Int×Int×Int=>(q.1,q.2.1)) (if a.place=n.place then (n.place,np,n.used,n.res) else keyN a)=if a.place=n.place then (n.place,np) else (a.place,a.par);split <;> rfl
  have ch4:∀ p,ce_ (mv4 ns n np x o r.name t1 k1) (-1) p=ce_ (mv3 ns n x o r.name t1 k1) n.place p+(if np=p then n.share else 0):=fun p=>by
   have h1:=chSum_ex S3.pnd pl3 hn3m p;show ce_ (u_ _ _) (-1) p=_;unfold ce_ at h1 ⊢;rw [sumF_upd _ S3.pnd hn3m (m:={n with par:=np}) rfl,h1];have hnn:n.place≠ -1:=by omega
   have e4:({n with par:=np}:Nd).share=n.share:=rfl;have e5:({n with par:=np}:Nd).place=n.place:=rfl;have e6:({n with par:=np}:Nd).par=np:=rfl;rw [e4,e5,e6];by_cases h2:np=p <;> by_cases h3:n.par=p <;> simp [h2,h3,hnn] <;> omega
  have O4:Off (mv4 ns n np x o r.name t1 k1) (-1) np n.share:=fun a ha=>by
   rw [ch4];have ab:a.bel=ce_ (mv3 ns n x o r.name t1 k1) n.place a.place:=by
    rcases um_ ha with rfl | ⟨ha,_⟩
    ·exact hsum3 n hn3m
    ·exact hsum3 a ha
   rw [ab];by_cases h:a.place=np
   ·rw [if_pos h,if_pos h.symm]
   ·rw [if_neg h,if_neg (fun z=>h z.symm)]
  have sub0:∀ j,isIn ns j 0 n.place=false:=fun j=>by
   cases j with
   | zero=>rfl
   | succ j=>rw [is_,if_pos rfl]
  have subnp:∀ j,isIn ns j np n.place=false:=isIn_never hnz k np hck hin;have subn:∃ j,isIn ns j n.place n.place=true:=⟨1,by rw [is_,if_neg hnz,if_pos rfl]⟩;have subm:∀ m∈ns,m.place≠n.place->((∃ j,isIn ns j m.place n.place=true) ↔ ∃ j,isIn ns j m.par n.place=true):=fun m hm hne=>by
   have hmz:m.place≠0:=by have:=I.pl m hm;omega
   have hma:=no_ I.pnd hm;constructor
   ·rintro ⟨j,hj⟩;cases j with
    | zero=>cases hj
    | succ j=>
     rw [is_,if_neg hmz,if_neg hne,hma] at hj;exact ⟨j,hj⟩
   ·rintro ⟨j,hj⟩;refine ⟨j+1,?_⟩;rw [is_,if_neg hmz,if_neg hne,hma];exact hj
  classical
  have T4:Tree ((mv4 ns n np x o r.name t1 k1).map fun n=>(n.place,n.par)) (fun q=>if ∃ j,isIn ns j q n.place=true then dep q+dep np+1 - dep n.place else dep q):=by
   have no0:¬ ∃ j,isIn ns j 0 n.place=true:=fun ⟨j,hj⟩=>by rw [sub0 j] at hj;cases hj
   have nonp:¬ ∃ j,isIn ns j np n.place=true:=fun ⟨j,hj⟩=>by rw [subnp j] at hj;cases hj
   refine ⟨?_,fun f hf=>?_⟩
   ·show (if ∃ j,isIn ns j 0 n.place=true then dep 0+dep np+1 - dep n.place else dep 0)=0;rw [if_neg no0];exact T.zero
   ·rw [pp4] at hf ⊢;obtain ⟨g,hg,rfl⟩:=List.mem_map.mp hf;obtain ⟨m,hm,rfl⟩:=List.mem_map.mp hg;have inn:∀ b∈ns,∃ f∈((ns.map fun n=>(n.place,n.par)).map fun q=>if q.1=n.place then (n.place,np) else q),f.1=b.place:=fun b hb=>by
     refine ⟨_,List.mem_map.mpr ⟨(b.place,b.par),List.mem_map.mpr ⟨b,hb,rfl⟩,rfl⟩,?_⟩;dsimp only;split
     ·rename_i h;exact h.symm
     ·rfl
    by_cases hmn:m.place=n.place
    ·dsimp only;rw [if_pos hmn];dsimp only;rw [if_pos subn,if_neg nonp];refine ⟨by omega,.inr ?_⟩;obtain ⟨f,hf1,hf2⟩:=inn tn htm;exact ⟨f,hf1,hf2.trans htp⟩
    ·dsimp only;rw [if_neg hmn];dsimp only;obtain ⟨u1,u2,_⟩:=S.par hm;refine ⟨?_,u2.imp_right fun ⟨b,hb⟩=>?_⟩
     ·by_cases hs:∃ j,isIn ns j m.place n.place=true
      ·have hs2:=(subm m hm hmn).mp hs;rw [if_pos hs,if_pos hs2];obtain ⟨j,hj⟩:=hs2;have:=isIn_dep S _ _ _ hj;omega
      ·have hs2:¬ ∃ j,isIn ns j m.par n.place=true:=fun z=>hs ((subm m hm hmn).mpr z);rw [if_neg hs,if_neg hs2];exact u1
     ·obtain ⟨hb1,hb2⟩:=nm_ hb;obtain ⟨f,hf1,hf2⟩:=inn b hb1;exact ⟨f,hf1,hf2.trans hb2⟩
  have len4:(mv4 ns n np x o r.name t1 k1).length=ns.length:=by
   have:=congrArg List.length keys4;simpa using this
  have ok4:∀ a∈mv4 ns n np x o r.name t1 k1,(4<=a.place/\a.place<=last)/\(0<=a.used/\a.used<=99)/\0<=a.res/\a.res<=99:=fun a ha=>by
   rcases um_ ha with rfl | ⟨ha,_⟩
   ·exact ⟨hpl,hbn.2⟩
   ·obtain ⟨b,hb,eb⟩:=mo_ kN3 ha;have u0:a.place=b.place:=congrArg (·.1) eb;have u1:a.used=b.used:=congrArg (·.2.2.1) eb;have u2:a.res=b.res:=congrArg (·.2.2.2) eb;rw [u0,u1,u2];exact ⟨I.pl b hb,(S.ok b hb).2⟩
  have pnd4:((mv4 ns n np x o r.name t1 k1).map (·.place)).Nodup:=by
   show ((u_ _ _).map (·.place)).Nodup;rw [up_];exact S3.pnd
  have S4:Stat (mv4 ns n np x o r.name t1 k1) _:=⟨pnd4,T4,by rw [len4];exact S.len,fun a ha=>by have:=ok4 a ha;omega⟩;have par4:∀ p,p≠n.place->(ndAt (mv4 ns n np x o r.name t1 k1) p).map (·.par)=(ndAt ns p).map (·.par):=fun p hpne=>by
   show (ndAt (u_ _ _) p).map (·.par)=_;rw [nu_,if_neg (show ¬ p=({n with par:=np}:Nd).place from hpne)];have:=congrArg (Option.map fun q:Int×Int×Int×Int=>q.2.1) (keyN_at kN3 p);rw [Option.map_map,Option.map_map] at this;exact this
  have c4':ci_ (mv4 ns n np x o r.name t1 k1) k2 np:=climb_avoid par4 k2 np hc2 hin2;obtain ⟨d1,d2,d3,_⟩:=cu_ok (ex:= -1) k2 _ np n.share S4 O4 c4' (noNeg (fun m hm=>by have:=S4.par_le hm;omega) k2 np (by omega));have fit:({n with par:=np}:Nd).Fit:=by
   have hnn:=S.ch_nn (-1) n.place;have hle:=S.ch_le (ex:= -1) (q:=n.place) (δ:=0) (fun a ha=>by have:=I.sums a ha;split <;> omega);refine S.fit (m:={n with par:=np}) hnm rfl (show 0<=np/\np<=800 by omega) hbn.2.1 hbn.2.2 ?_;show 0<=n.bel/\n.bel<=_;rw [I.sums n hnm];exact ⟨hnn,hle⟩
  refine ⟨⟨ho,hx0,ht1,fr1,ln1,c1,hn3,fit,d1⟩,?_⟩;have kN5:(mv5 ns n np x o r.name t1 k1 k2).map keyN=(mv4 ns n np x o r.name t1 k1).map keyN:=keyK_N d3;have hkid:((mv5 ns n np x o r.name t1 k1 k2).map fun n=>(n.place,n.kids))=(mv2 ns n x o r.name t1).map fun n=>(n.place,n.kids):=by
   have h1:=congrArg (List.map fun q:Int×Int×Int×Int×List (Str×Int)=>(q.1,q.2.2.2.2)) d3;rw [List.map_map,List.map_map] at h1;have h2:((mv4 ns n np x o r.name t1 k1).map fun n=>(n.place,n.kids))=(mv3 ns n x o r.name t1 k1).map fun n=>(n.place,n.kids):=ua_ _ S3.pnd hn3m rfl rfl;have h3:=congrArg (List.map fun q:Int×Int×Int×Int×List (Str×Int)=>(q.1,q.2.2.2.2)) c3;rw [List.map_map,List.map_map] at h3;exact (show _=_ from h1).trans (h2.trans h3)
  have memR:∀ q,q∈ub_ rs {r with par:=np,name:=x} ↔ q={r with par:=np,name:=x}\/(q∈rs/\q.place≠n.place):=fun q=>by
   constructor
   ·intro h;rcases updRw_mem h with h | ⟨h,h2⟩
    ·exact .inl h
    ·exact .inr ⟨h,fun z=>h2 (z.trans hr2.symm)⟩
   ·rintro (h | ⟨h,h2⟩)
    ·rw [h];exact List.mem_map.mpr ⟨r,hr1,if_pos rfl⟩
    ·exact List.mem_map.mpr ⟨q,h,if_neg fun z=>h2 (z.trans hr2)⟩
  refine {key:=?_,pnd:=?_,pl:=fun a ha=>?_,kids:=fun p m hm y c=>?_,names:=fun q hq hqz=>?_,root:=⟨?_,fun q hq=>?_⟩,dep:=⟨_,by rw [keyN_pp kN5];exact T4⟩,sums:=d2,bnd:=fun a ha=>?_,len:=?_}
  ·rw [kN5,keys4,updR_keys,I.key];have:keyR {r with par:=np,name:=x}=(n.place,np,n.used,n.res):=by
    have e2:r.used=n.used:=congrArg (·.2.2.1) e;have e3:r.res=n.res:=congrArg (·.2.2.2) e;show (r.place,np,r.used,r.res)=_;rw [hr2,e2,e3]
   rw [this];have:({r with par:=np,name:=x}:Rw).place=n.place:=hr2;rw [this]
  ·rw [keyN_pl kN5];exact pnd4
  ·obtain ⟨b,hb,eb⟩:=mo_ kN5 ha;have u0:a.place=b.place:=congrArg (·.1) eb;rw [u0];exact (ok4 b hb).1
  ·have e2:=map_at (f:=fun n=>(n.place,n.kids)) (fun a b h=>congrArg (·.1) h) hkid p;rw [hm] at e2;cases hm2:ndAt (mv2 ns n x o r.name t1) p with
   | none=>rw [hm2] at e2;cases e2
   | some m2=>
    rw [hm2] at e2;have e3:m.kids=m2.kids:=congrArg (·.2) (Option.some.inj e2);rw [e3];rw [nu_] at hm2;have rhs:(∃ q∈ub_ rs {r with par:=np,name:=x},q.par=p/\q.name=y/\q.place=c) ↔ (np=p/\x=y/\n.place=c)\/∃ q∈rs,q.place≠n.place/\q.par=p/\q.name=y/\q.place=c:=by
     constructor
     ·rintro ⟨q,hq,q1,q2,q3⟩;rcases (memR q).mp hq with h | ⟨h,h2⟩
      ·subst h;exact .inl ⟨q1,q2,hr2.symm.trans q3⟩
      ·exact .inr ⟨q,h,h2,q1,q2,q3⟩
     ·rintro (⟨q1,q2,q3⟩ | ⟨q,h,h2,q1,q2,q3⟩)
      ·exact ⟨_,(memR _).mpr (.inl rfl),q1,q2,hr2.trans q3⟩
      ·exact ⟨q,(memR q).mpr (.inr ⟨h,h2⟩),q1,q2,q3⟩
    rw [rhs];by_cases hpt:p=np
    ·have hpt':p=({t1 with kids:=t1.kids++ [(x,n.place)]}:Nd).place:=hpt.trans ht1p.symm;rw [if_pos hpt',hpt,ht1] at hm2;cases hm2;rw [show ({t1 with kids:=t1.kids++ [(x,n.place)]}:Nd).kids=t1.kids++ [(x,n.place)] from rfl,lookup_app];have k1':=I.kids1 nk hr e1 ho ht1 y c;rw [hpt];rw [<-k1'];cases hl:t1.kids.lookup y with
     | some d=>
      dsimp only;constructor
      ·intro h;exact .inr h
      ·rintro (⟨_,q2,_⟩ | h)
       ·rw [<-q2,fr1] at hl;cases hl
       ·exact h
     | none=>
      dsimp only;by_cases hy:y=x
      ·rw [if_pos hy];constructor
       ·intro h;exact .inl ⟨rfl,hy.symm,Option.some.inj h⟩
       ·rintro (⟨_,_,q3⟩ | h)
        ·rw [q3]
        ·cases h
      ·rw [if_neg hy];constructor
       ·intro h;cases h
       ·rintro (⟨_,q2,_⟩ | h)
        ·exact absurd q2.symm hy
        ·cases h
    ·have hpt':¬ p=({t1 with kids:=t1.kids++ [(x,n.place)]}:Nd).place:=fun z=>hpt (z.trans ht1p);rw [if_neg hpt'] at hm2;rw [I.kids1 nk hr e1 ho hm2 y c];constructor
     ·intro h;exact .inr h
     ·rintro (⟨q1,_⟩ | h)
      ·exact absurd q1.symm hpt
      ·exact h
  ·rcases (memR q).mp hq with h | ⟨h,_⟩
   ·rw [h];exact ⟨hx,ok⟩
   ·exact I.names q h hqz
  ·obtain ⟨q,hq,e4⟩:=I.root.1;have hne4:n.place≠4:=fun z=>hz (by rw [<-e1];exact (I.root.2 r hr1).mpr (hr2.trans z));exact ⟨q,(memR q).mpr (.inr ⟨hq,fun z=>hne4 (z.symm.trans e4)⟩),e4⟩
  ·rcases (memR q).mp hq with h | ⟨h,_⟩
   ·subst h;constructor
    ·intro h;exact absurd h hnpz
    ·intro h;have h:r.place=4:=h;exact absurd (e1▸(I.root.2 r hr1).mpr h) hz
   ·exact I.root.2 q h
  ·obtain ⟨b,hb,eb⟩:=mo_ kN5 ha;have u1:a.used=b.used:=congrArg (·.2.2.1) eb;have u2:a.res=b.res:=congrArg (·.2.2.2) eb;rw [u1,u2];exact (ok4 b hb).2
  ·have:=congrArg List.length kN5;simp only [List.length_map] at this;omega
 obtain ⟨t1,h1,h2,h3⟩:=ht1e;refine ⟨⟨o,r.name,t1,(main t1 h1 h2 h3).1⟩,fun o' x0 t1' M=>?_⟩;have hoo:=M.ho;rw [ho] at hoo;cases hoo;have hxx:=M.hx0;rw [hx0] at hxx;cases hxx;exact (main t1' M.ht1 M.free M.len).2
end
end
section
section
variable {last:Int} {ns:List Nd} {rs:List Rw} {t:Nat}
theorem Inv.later(I:Inv last ns rs t):Inv last ns rs (t+1):={I with len:=by have:=I.len;omega}
theorem Inv.link(I:Inv last ns rs t){p:Int}{n:Nd}(hn:ndAt ns p=some n)(x:Str):(n.kids.lookup x).isSome=takenR rs p x:=by
 unfold takenR;cases h:n.kids.lookup x with
 | some c=>
  obtain ⟨r,hr,h1,h2,h3⟩:=(I.kids p n hn x c).mp h;have:(rs.any fun c=>decide (c.par=p) && decide (c.name=x))=true:=List.any_eq_true.mpr ⟨r,hr,by simp [h1,h2]⟩;rw [this];rfl
 | none=>
  cases h2:(rs.any fun c=>decide (c.par=p) && decide (c.name=x)) with
  | false=>rfl
  | true=>
   obtain ⟨r,hr,h3⟩:=List.any_eq_true.mp h2;simp only [Bool.and_eq_true,decide_eq_true_eq] at h3;have:=(I.kids p n hn x r.place).mpr ⟨r,hr,h3.1,h3.2,rfl⟩;rw [h] at this;cases this
theorem Inv.emp(I:Inv last ns rs t){p:Int}{n:Nd}(hn:ndAt ns p=some n):n.kids.isEmpty= !(rs.any fun c=>decide (c.par=p)):=by
 cases hk:n.kids with
 | nil=>
  cases h2:(rs.any fun c=>decide (c.par=p)) with
  | false=>rfl
  | true=>
   obtain ⟨r,hr,h3⟩:=List.any_eq_true.mp h2;have:=(I.kids p n hn r.name r.place).mpr ⟨r,hr,of_decide_eq_true h3,rfl,rfl⟩;rw [hk] at this;cases this
 | cons e r=>
  have hl:n.kids.lookup e.1=some e.2:=by rw [hk,List.lookup_cons];simp
  obtain ⟨q,hq,h1,_⟩:=(I.kids p n hn e.1 e.2).mp hl;have:(rs.any fun c=>decide (c.par=p))=true:=List.any_eq_true.mpr ⟨q,hq,by simp [h1]⟩;rw [this];rfl
theorem names_at{i:Nat}(h:i < 12):∃ x,lawNames[i]? =some x/\x∈lawNames/\x.cps.size<=1000:=by
 have hl:lawNames.length=12:=rfl;have hb:∀ x∈lawNames,x.cps.size<=1000:=by decide+kernel
 have e:=List.getElem?_eq_getElem (l:=lawNames) (by omega:i < lawNames.length);exact ⟨_,e,List.mem_of_getElem? e,hb _ (List.mem_of_getElem? e)⟩
end
variable {w:World}
section
variable {s:S} {A:Adr} {R:Nat} {last:Int} {ns:List Nd} {rs:List Rw} {t:Nat} {d:Nat} {E:Addr->S->Prop}
theorem law_step_W(X:Wld s.h A R last ns rs)(I:Inv last ns rs t)(ht:t<=11){x y z:Int}{Q:V->S->Prop}
  (q:∀ h last' ns' rs',Wld h A R last' ns' rs'->Inv last' ns' rs' (t+1)->Nxt s.h (fb_ A R ns rs) h (fb_ A R ns' rs')->Q (.bool true) {h:=h,l:=s.l}):
  W (pg w) (fun F=>F.call (.glob 508) [.ref A.b,.ref R,.int x,.int y,.int z] (d+10)) Q E s:=by
 obtain ⟨dep,T⟩:=I.dep;have S0:=I.stat (by omega) T;have TR:=I.tree T;have hlen:=I.len;have hrl:=I.rlen;obtain ⟨nt,zp,Rp⟩:=X.rep;have nk:∀ n∈ns,(n.kids.map (·.1)).Nodup:=fun n hn=>(Rp.kok n hn).2;obtain ⟨r0,hr0,_⟩:=I.root.1;have hpos:0 < rs.length:=List.length_pos_of_mem hr0;have hev:sn_ ((ra_ rs).map (·.1))=some ((sa_ (fun a b:Int=>decide (a < b)) (rs.map (·.place))).map V.int):=by
  have e:(ra_ rs).map (·.1)=(rs.map (·.place)).map V.int:=by unfold ra_;rw [List.map_map,List.map_map];rfl
  rw [e];unfold sn_;rw [ints_of]
 have hel:(sa_ (fun a b:Int=>decide (a < b)) (rs.map (·.place))).length=rs.length:=by rw [sortBy_len,List.length_map]
 have pick:∀ v:Int,∃ p,((sa_ (fun a b:Int=>decide (a < b)) (rs.map (·.place))).map V.int)[(v % (rs.length:Int)).toNat]? =some (.int p)/\∃ r,rwAt rs p=some r/\r.place=p:=fun v=>by
  have h1:=Int.emod_nonneg v (show (rs.length:Int)≠0 by omega);have h2:=Int.emod_lt_of_pos v (show 0 < (rs.length:Int) by omega);have hlt:(v % (rs.length:Int)).toNat < (sa_ (fun a b:Int=>decide (a < b)) (rs.map (·.place))).length:=by rw [hel];omega
  have e:=List.getElem?_eq_getElem hlt;have hm:=(sm_ _ _ _).mp (List.mem_of_getElem? e);obtain ⟨r,hr,hp⟩:=List.mem_map.mp hm;refine ⟨_,by rw [List.getElem?_map,e];rfl,r,?_,hp⟩;rw [<-hp];exact ro_ I.rnd hr
 refine W.f (P:=pg w) rfl ?_;dsimp only;obtain ⟨kR,eR⟩:=X.rows.dict;refine W.stC (W.sA (W.cG (by rfl) ((W.lo rfl ⟨rfl,W.bi (W.sortedD eR (decide_eq_true (by simp;omega)) hev (W.asN rfl ?_))⟩))));generalize hm:s.h.length=m;have e1:(s.h++ [O.list ((sa_ (fun a b:Int=>decide (a < b)) (rs.map (·.place))).map V.int)])[m]? =some (.list ((sa_ (fun a b:Int=>decide (a < b)) (rs.map (·.place))).map V.int)):=by subst hm;exact gn_
 have p1:Pre s.h (s.h++ [O.list ((sa_ (fun a b:Int=>decide (a < b)) (rs.map (·.place))).map V.int)]):=Pre.app _ _;dsimp only;generalize (s.h++ [O.list ((sa_ (fun a b:Int=>decide (a < b)) (rs.map (·.place))).map V.int)])=h1 at e1 p1 ⊢;obtain ⟨p,hp1,r,hr,hrp⟩:=pick y;obtain ⟨o,ho1,ro,hro,hrop⟩:=pick (z / 12);have z12:=Int.emod_nonneg z (show (12:Int)≠0 by decide);have z12':=Int.emod_lt_of_pos z (show (0:Int) < 12 by decide);obtain ⟨nm,hnm,hnmem,hnz⟩:=names_at (i:=(z % 12).toNat) (by omega);have modN:∀ {a b:Int},0 < b/\b < 1000000->binM .Mod (.int a) (.int b)=Pure.pure (.int (a % b)):=fun {a b} h=>if_pos h;have divN:∀ {a b:Int},0 < b/\b < 1000000->binM .FloorDiv (.int a) (.int b)=Pure.pure (.int (a / b)):=fun {a b} h=>if_pos h;have hlb:0 < (rs.length:Int)/\(rs.length:Int) < 1000000:=by omega
 have hlenE:((sa_ (fun a b:Int=>decide (a < b)) (rs.map (·.place))).map V.int).length=rs.length:=by rw [List.length_map,hel]
 have idx:∀ v:Int,0<=v % (rs.length:Int)/\v % (rs.length:Int) < 2 ^ 62:=fun v=>by
  have h1:=Int.emod_nonneg v (show (rs.length:Int)≠0 by omega);have h2:=Int.emod_lt_of_pos v (show 0 < (rs.length:Int) by omega);omega
 refine W.stC (W.sSwap (names:= ["place","other","name"]) rfl rfl (W.tuple rfl rfl ?_));refine W.it (W.lo rfl (W.b_ (W.lo rfl (W.cG (by rfl) ((W.lo rfl ⟨rfl,W.bi (W.lenL e1 (by rw [hlenE];omega) ?_)⟩))))));rw [hlenE];refine W.p_ (fun _=>modN hlb) (W.itemL e1 (idx y) hp1 ?_);refine W.it (W.lo rfl (W.b_ (W.b_ (W.lo rfl (W.c_ rfl (W.p_ (fun _=>divN (by decide)) (W.cG (by rfl) ((W.lo rfl ⟨rfl,W.bi (W.lenL e1 (by rw [hlenE];omega) ?_)⟩)))))))));rw [hlenE];refine W.p_ (fun _=>modN hlb) (W.itemL e1 (idx _) ho1 ?_);refine W.it (W.cG (by rfl) (⟨rfl,law_names_W fun h2 r2 p2 hl2=>W.b_ (W.lo rfl (W.c_ rfl (W.p_ (fun _=>modN (by decide)) (W.itemL hl2 ⟨z12,by omega⟩ (by rw [List.getElem?_map,hnm];rfl) ?_))))⟩));refine ⟨_,it_ gn_,rfl,W.stoL rfl (W.stoL rfl (W.stoL rfl (W.sto0 ?_)))⟩;have p3:Pre s.h (h2++ [O.tup [.int p,.int o,.str nm]]):=p1.trans (p2.trans (Pre.app _ _));generalize (h2++ [O.tup [V.int p,.int o,.str nm]])=h3 at p3;have X3:=X.pre p3;refine W.stC (W.sA (W.b_ (W.lo rfl (W.c_ rfl (W.p_ (fun _=>modN (by decide)) (W.asN rfl ?_))))));obtain ⟨n,hn,en⟩:=I.nd_of hr;obtain ⟨to,hto,eo⟩:=I.nd_of hro;obtain ⟨hnm',hnpl⟩:=nm_ hn;obtain ⟨htm',htpl⟩:=nm_ hto;have hpn:ndAt ns n.place=some n:=by rw [hnpl];exact hn
 have hrn:rwAt rs n.place=some r:=by rw [hnpl];exact hr
 have hrr:rwAt rs r.place=some r:=by rw [hrp];exact hr
 have hpar:r.par=n.par:=congrArg (·.2.1) en;have climbs:∀ p,(p=0\/∃ r,rwAt rs p=some r)->dep p<=13->ClimbR rs 13 p:=fun p h h2=>TR.climb 13 p h h2;have bnd13:∀ r∈rs,dep r.place<=13:=fun r hr=>by have:=TR.bound r hr;omega
 have cpar:ClimbR rs 13 n.par:=by
  obtain ⟨u1,u2⟩:=TR.up r (rm_ hr).1;have:=bnd13 r (rm_ hr).1;rw [<-hpar];exact climbs _ u2 (by omega)
 have cp:ClimbR rs 13 r.place:=climbs _ (.inr ⟨r,hrr⟩) (bnd13 r (rm_ hr).1);have co:ClimbR rs 13 o:=climbs _ (.inr ⟨ro,hro⟩) (by rw [<-hrop];exact bnd13 ro (rm_ hro).1);have stay:∀ h,Pre h3 h->Q (.bool true) {h:=h,l:=s.l}:=fun h hpre=>q h last ns rs (X3.pre hpre) I.later (Nxt.of_pre (p3.trans hpre) _);have next:∀ {h last' ns' rs'},Wld h A R last' ns' rs'->Inv last' ns' rs' (t+1)->Nxt h3 (fb_ A R ns rs) h (fb_ A R ns' rs')->Q (.bool true) {h:=h,l:=s.l}:=fun {h last' ns' rs'} W I' N=>q h last' ns' rs' W I' ((Nxt.of_pre p3 _).trans N)
 refine W.stC (W.sIf (W.t_ rfl (W.lo rfl (W.c_ rfl (W.p_ (a:=decide (x % 6 < 2)) (fun _=>rfl) ?_)))));cases w1:decide (x % 6 < 2) with
 | true=>
  refine W.stC (W.s_ (W.cG (by rfl) ((W.lo rfl (W.lo rfl (W.lo rfl (W.lo rfl ⟨rfl,?_⟩)))))));rw [<-hnpl];refine law_added_W X3 hpn hnz (by omega) ?_ (by omega) ?_ (I.link hpn nm) (fun h hpre _=>stay h hpre) (fun h z a X4 N4 ok1 tk1=>?_)
  ·have:=I.kids_len hpn (nk n hnm');omega
  ·cases hnew:rwAt rs (last+1+1+1) with
   | none=>rfl
   | some b=>
    obtain ⟨b',hb',_⟩:=I.nd_of hnew;obtain ⟨h5,h6⟩:=nm_ hb';have:=I.pl b' h5;omega
  ·refine next X4 (I.added ht hpn hnmem ok1 ?_ z a) N4
   have hlk:=I.link hpn nm;rw [tk1] at hlk;cases hlk2:n.kids.lookup nm with
   | none=>rfl
   | some c=>rw [hlk2] at hlk;cases hlk
 | false=>
  refine W.stN (W.stC (W.sIf (W.t_ rfl (W.lo rfl (W.c_ rfl (W.p_ (a:=decide (x % 6=2)) (fun _=>rfl) ?_))))));cases w2:decide (x % 6=2) with
  | true=>
   have z100:=Int.emod_nonneg z (show (100:Int)≠0 by decide);have z100':=Int.emod_lt_of_pos z (show (0:Int) < 100 by decide);refine W.stC (W.s_ (W.cG (by rfl) ((W.lo rfl (W.lo rfl (W.lo rfl (W.b_ (W.lo rfl (W.c_ rfl (W.p_ (fun _=>modN (by decide)) ⟨rfl,?_⟩))))))))));rw [<-hrp];obtain ⟨c1,c2⟩:=I.used ht hrr (many:=z % 100) ⟨z100,by omega⟩ (I.climbN 13 _ cp);exact law_used_W X3 hrr c1 fun h X4 N4=>next X4 c2 N4
  | false=>
   refine W.stN (W.stC (W.sIf (W.t_ rfl (W.lo rfl (W.c_ rfl (W.p_ (a:=decide (x % 6=3)) (fun _=>rfl) ?_))))));cases w3:decide (x % 6=3) with
   | true=>
    refine W.stC (W.s_ (W.cG (by rfl) ((W.lo rfl (W.lo rfl (W.lo rfl (W.lo rfl (W.lo rfl ⟨rfl,?_⟩))))))));rw [<-hnpl];have mv:=fun (h1:n.par≠0) (h2:isIn ns 13 o n.place=false) (h3:o_ nm=true) (h4:to.kids.lookup nm=none)=>I.moved ht nk hpn hrn hto hnmem h3 h1 (I.climbN 13 _ co) h2 h4 (k1:=13) (k2:=13) (I.climbN 13 _ cpar) (I.climbN 13 _ co);refine law_moved_W (k:=13) (k1:=13) (k2:=13) X3 hpn hrn hpar hto hnz (by decide) (I.climbN 13 _ co) co (I.inn 13 o n.place co) (I.link hto nm) (fun h1 h2 h3 h4=>(mv h1 h2 h3 h4).1) (fun h hpre=>stay h hpre) (fun h1 h2 h3 h4 o' x0 t1 M h X4 N4=>?_);refine next X4 ((mv h1 h2 h3 ?_).2 o' x0 t1 M) N4
    have hlk:=I.link hto nm;rw [h4] at hlk;cases hlk2:to.kids.lookup nm with
    | none=>rfl
    | some c=>rw [hlk2] at hlk;cases hlk
   | false=>
    refine W.stN (W.stC (W.s_ (W.ifexp (W.t_ rfl (W.lo rfl (W.c_ rfl (W.p_ (a:=decide (x % 6=4)) (fun _=>rfl) ?_)))))));cases w4:decide (x % 6=4) with
    | true=>
     have z60:=Int.emod_nonneg z (show (60:Int)≠0 by decide);have z60':=Int.emod_lt_of_pos z (show (0:Int) < 60 by decide);refine W.cG (by rfl) ((W.lo rfl (W.lo rfl (W.lo rfl (W.b_ (W.lo rfl (W.c_ rfl (W.p_ (fun _=>modN (by decide)) ⟨rfl,?_⟩))))))));rw [<-hrp];have hnr:ndAt ns r.place=some n:=by rw [hrp];exact hn
     obtain ⟨c0,c1,c2⟩:=I.reserved ht hrr hnr (many:=z % 60) ⟨z60,by omega⟩ (I.climbN 13 _ cpar);exact law_reserved_W X3 hrr hnr c0 c1 fun h X4 N4=>next X4 c2 N4
    | false=>
     refine W.cG (by rfl) ((W.lo rfl (W.lo rfl (W.lo rfl ⟨rfl,?_⟩))));rw [<-hnpl];have dr:=fun (h1:n.par≠0) (h2:n.kids= [])=>I.dropped ht nk hpn hrn h1 h2 (k1:=13) (I.climbN 13 _ cpar);refine law_dropped_W (k1:=13) X3 hpn hrn hpar (I.emp hpn) (fun h1 h2=>(dr h1 h2).1) (fun h hpre=>stay h hpre) (fun h1 h2 o' x0 M h X4 N4=>?_);exact next X4 ((dr h1 h2).2 o' x0 M) N4
end
end
section
theorem fi_:∀ l:List Int,fa_ (l.map V.int) (l.map V.int)=some true
 | []=>rfl
 | x::r=>by
  rw [List.map_cons];unfold fa_;rw [fi_ r];simp [fe_]
theorem flatEqs_strs:∀ l:List Str,fa_ (l.map V.str) (l.map V.str)=some true
 | []=>rfl
 | x::r=>by
  rw [List.map_cons];unfold fa_;rw [flatEqs_strs r];simp [fe_]
section
variable {P:Prg} {E:Addr->S->Prop} {s:S} {ρ:Ev}
theorem W.neSame{x y:Nat}{u:List V}{Q:Bool->S->Prop}(hx:s.h[x]? =some (.list u))(hy:s.h[y]? =some (.list u))(he:fa_ u u=some true)(q:Q false s):W P (fun _=>cmpM .NotEq (.ref x) (.ref y)) Q E s:=by
 refine W.bind (W.gc_ hx (W.gc_ hy ?_));refine W.eq (m:=fun _=>Mine.opt (some true)) (W.opt' rfl (W.pure q)) fun _=>?_;dsimp only;rw [if_neg (fun h=>h rfl),he]
theorem W.eqSame{x y:Nat}{u:List V}{Q:Bool->S->Prop}(hx:s.h[x]? =some (.list u))(hy:s.h[y]? =some (.list u))(he:fa_ u u=some true)(q:Q true s):W P (fun _=>cmpM .Eq (.ref x) (.ref y)) Q E s:=by
 refine W.gc_ hx (W.gc_ hy ?_);refine W.eq (m:=fun _=>Mine.opt (some true)) (W.opt' rfl q) fun _=>?_;dsimp only;rw [if_neg (fun h=>h rfl),he]
theorem W.sortedL{n:Nat}{us vs:List V}{Q:V->S->Prop}(hn:s.h[n]? =some (.list us))(hz:us.length < 64)(hv:sn_ us=some vs)(q:Q (.ref s.h.length) {s with h:=s.h++ [.list vs]}):W P (fun _=>cd_ "sorted" [.ref n]) Q E s:=by
 refine W.gc_ hn (W.bind (W.n_ (decide_eq_true hz) ?_));refine W.eq (m:=fun _=>Pure.pure vs) (W.pure (W.bind (W.alloc (W.pure q)))) fun _=>?_;rw [hv]
theorem W.neTup{x y:Nat}{u:List V}{Q:Bool->S->Prop}(hx:s.h[x]? =some (.tup u))(hy:s.h[y]? =some (.tup u))(he:fa_ u u=some true)(q:Q false s):W P (fun _=>cmpM .NotEq (.ref x) (.ref y)) Q E s:=
 W.bind (W.gc_ hx (W.gc_ hy (W.opt' he (W.pure q))))
end
theorem short_sum:∀ l:List Str,(∀ p∈l,p.length<=12)->(l.map (·.length)).sum<=12*l.length
 | [],_=>Nat.le_refl _
 | a::r,h=>by
  have h1:=h a (.head _);have h2:=short_sum r fun p hp=>h p (.tail _ hp);rw [List.map_cons,List.sum_cons,List.length_cons];omega
variable {w:World}
section
variable {s:S} {A:Adr} {R:Nat} {last:Int} {ns:List Nd} {rs:List Rw} {t:Nat} {d:Nat} {E:Addr->S->Prop}
theorem is_same_W(X:Wld s.h A R last ns rs)(I:Inv last ns rs t)(ht:t<=12){Q:V->S->Prop}(q:∀ h,Pre s.h h->Q (.bool true) {h:=h,l:=s.l}):
  W (pg w) (fun F=>F.call (.glob 513) [.ref A.b,.ref R,.int 4] (d+30)) Q E s:=by
 refine W.fnK (P:=pg w) (d:=d+29) rfl (hK:=by rfl) (hb:=rfl) (hf:=rfl) (hok:=by rfl) (hs:=rfl) (lq:=none) (hq:=by rfl) (hbs:=rfl) (hc:=rfl) ?_;dsimp only;have hpl:(s.h++ [O.cell none]).length=s.h.length+1:=by simp
 rw [hpl];refine W.parL rfl (W.parC (w:=none) rfl rfl (by simp) (W.parL rfl (W.par0 ?_)));refine W.heap (h':=s.h++ [.cell (some (.ref R)),.cell none]) (by simp) ?_;dsimp only;obtain ⟨nt,zp,Rp⟩:=X.rep;have nk:∀ n∈ns,(n.kids.map (·.1)).Nodup:=fun n hn=>(Rp.kok n hn).2;obtain ⟨dep,T⟩:=I.dep;have TR:=I.tree T;have hrl:=I.rlen;have hlen:=I.len;obtain ⟨r4,hr4,hr4p⟩:=I.root.1;have hr4a:rwAt rs 4=some r4:=by rw [<-hr4p];exact ro_ I.rnd hr4
 obtain ⟨n4,hn4,_⟩:=I.nd_of hr4a;have deep:∀ (k:Nat) (p:Int),13<=k->(∃ r,rwAt rs p=some r)->Deep rs k p:=fun k p hk h=>by
  obtain ⟨r,hr⟩:=h;refine TR.deep k p ⟨r,hr⟩ ?_;obtain ⟨h1,h2⟩:=rm_ hr;have:=(TR.up r h1).1;rw [h2] at this;omega
 have bnd13:∀ {p:Int} {r:Rw},rwAt rs p=some r->dep p<=13:=fun {p r} hr=>by
  obtain ⟨h1,h2⟩:=rm_ hr;have:=TR.bound r h1;rw [h2] at this;omega
 have hb:∀ j,∀ r∈rs,(allR rs j r.place).length<=1000:=fun j r hr=>by have:=TR.all_len I.rnd j hr;omega
 have hal:(allR rs 13 4).length<=1000:=by rw [<-hr4p];exact hb 13 r4 hr4
 obtain ⟨df1,df2⟩:=I.dfs_all nk 13 4 n4 (deep 13 4 (Nat.le_refl _) ⟨r4,hr4a⟩) hn4 0 [] (by simpa using hal);have df1:dfs ns ((allR rs 13 4).length+0) [4]=allR rs 13 4:=by rw [df1];simp [dfs]
 generalize hm:s.h.length=m;have c1:(s.h++ [O.cell (some (.ref R)),.cell none])[m]? =some (.cell (some (.ref R))):=by subst hm;simp
 have c2:(s.h++ [O.cell (some (.ref R)),.cell none])[m+1]? =some (.cell none):=by subst hm;simp
 have p1:Pre s.h (s.h++ [O.cell (some (.ref R)),.cell none]):=Pre.app _ _;generalize (s.h++ [O.cell (some (.ref R)),.cell none])=h1 at c1 c2 p1 ⊢;refine W.stC (W.sIf (W.trOr (W.anyC (W.t_ rfl (W.cG (by rfl) ((W.lo rfl ⟨rfl,root_dir_W (Rp.on p1 _) fun h2 p2=>W.lo rfl (W.p_ (a:=false) (fun _=>rfl) ?_)⟩)))))));have p12:=p1.trans p2;refine W.anyC (W.t_ rfl (W.cG (by rfl) ((W.lo rfl ⟨rfl,all_dirs_W (Rp.on p12 _) (df2 rfl) hal fun h3 r3 p3 hr3=>?_⟩))));rw [df1] at hr3;have p13:=p12.trans p3;refine W.cG (by rfl) ((W.cI (p3.get (p2.get c1)) (W.lo rfl ⟨rfl,?_⟩)));refine law_all_W (d:=d+16) hb 13 (X.rows.pre p13) ⟨r4,hr4,hr4p⟩ (deep 13 4 (Nat.le_refl _) ⟨r4,hr4a⟩) fun h4 r4' p4 hr4'=>W.neSame (p4.get hr3) hr4' (fi_ _) (W.any0 (W.stN ?_));have p14:=p13.trans p4;have d1:=p4.get (p3.get (p2.get c1));have d2:=p4.get (p3.get (p2.get c2));obtain ⟨kR,eR⟩:=X.rows.dict;refine W.stC (W.sFor rfl (W.cI d1 (W.iterD (p14.get eR) (ri_ rs) ?_)));have hRl:R < s.h.length:=gl_ eR;have l14:s.h.length<=h4.length:=p14.len;have ld1:=gl_ d1;have ld2:=gl_ d2;have e0:(ra_ rs).length=rs.length:=by simp
 refine W.forG (vs:=(ra_ rs).map (·.1)) (it:=h4.length) (fun i=> .itD R i (ra_ rs).length kR) (I:=fun i s'=>Pre s.h s'.h/\s'.h[h4.length]? =some (.itD R i (ra_ rs).length kR)/\s'.h[m]? =some (.cell (some (.ref R)))/\(∃ c,s'.h[m+1]? =some (.cell c))/\has s'.l "base" (.ref A.b)) ?_ ?_ ?_ ((ra_ rs).map (·.1)).length 0 _ (by omega) ?_
 ·intro i s' Q2 ⟨i1,i2,i3,i4,i5⟩ hle q1 q2;refine W.nextD i2 (i1.get eR) (ri_ rs) (fun e he=>q1 _ (by rw [List.getElem?_map,he];rfl)) fun hl=>q2 (by rw [List.length_map];exact hl)
 ·intro i v s' ⟨i1,i2,i3,⟨c0,i4⟩,i5⟩ hv;have hv2:∃ r∈rs,v= .int r.place:=by
   have:=List.mem_of_getElem? hv;obtain ⟨e,he,rfl⟩:=List.mem_map.mp this;obtain ⟨r,hr,rfl⟩:=List.mem_map.mp he;exact ⟨r,hr,rfl⟩
  obtain ⟨r,hr,rfl⟩:=hv2;refine W.own0 (W.asC rfl rfl (gb_ (by omega) i4) ?_);have j1:Pre s.h ((s'.h.set h4.length (.itD R (i+1) (ra_ rs).length kR)).set (m+1) (.cell (some (.int r.place)))):=(i1.set (by omega)).set (by omega);have j2:((s'.h.set h4.length (.itD R (i+1) (ra_ rs).length kR)).set (m+1) (.cell (some (.int r.place))))[h4.length]? =some (.itD R (i+1) (ra_ rs).length kR):=gb_ (by omega) (ge_ i2);have j3:((s'.h.set h4.length (.itD R (i+1) (ra_ rs).length kR)).set (m+1) (.cell (some (.int r.place))))[m]? =some (.cell (some (.ref R))):=gb_ (by omega) (gb_ (by omega) i3);have j4:((s'.h.set h4.length (.itD R (i+1) (ra_ rs).length kR)).set (m+1) (.cell (some (.int r.place))))[m+1]? =some (.cell (some (.int r.place))):=ge_ (gb_ (by omega) i4);refine W.heap (h':=(s'.h.set h4.length (.itD R (i+1) (ra_ rs).length kR)).set (m+1) (.cell (some (.int r.place)))) rfl ?_;generalize ((s'.h.set h4.length (.itD R (i+1) (ra_ rs).length kR)).set (m+1) (.cell (some (.int r.place))))=h5 at j1 j2 j3 j4 ⊢;have hra:=ro_ I.rnd hr;obtain ⟨n,hn,en⟩:=I.nd_of hra;obtain ⟨hnm,hnp⟩:=nm_ hn;have hd13:=bnd13 hra;have hcl:=TR.climb 13 r.place (.inr ⟨r,hra⟩) hd13;obtain ⟨pa1,pa2,pa3,pa4⟩:=I.path TR 13 r.place r hra hd13 [];rw [List.append_nil] at pa1;have hss:=short_sum (pd_ rs 13 r.place) fun x hx=>(gg_ x (pa3 x hx).1 (pa3 x hx).2).2.2.1;have hj:((pd_ rs 13 r.place).map (·.length)).sum+(pd_ rs 13 r.place).length<=1048576:=by omega
  have hpz:(Txt.join "/" (pd_ rs 13 r.place)).length<=90000:=by
   rw [txt_join];have:=StrLaws.join_length_le ⟨#[47]⟩ (pd_ rs 13 r.place);have e1:(⟨#[47]⟩:Str).length=1:=rfl;rw [e1] at this;omega
  refine W.stC (W.sSwap (names:= ["info","path"]) rfl rfl (W.tuple rfl rfl (W.cG (by rfl) ((W.lo i5 (W.cI j4 ⟨rfl,?_⟩))))));refine (Rp.on j1 _).load hn fun h6 i6 di6 p6 _ _ Inf=>W.cG (by rfl) ((W.cI (p6.get j3) (W.cI (p6.get j4) ⟨rfl,?_⟩)));refine law_path_W (X.rows.pre (j1.trans p6)) hcl (by decide) hj fun h7 p7=>⟨_,it_ gn_,rfl,W.stoL rfl (W.stoL rfl (W.sto0 ?_))⟩;have g7:Pre h5 (h7++ [O.tup [.ref i6,.str (Txt.join "/" (pd_ rs 13 r.place))]]):=p6.trans (p7.trans (Pre.app _ _));have Inf7:=(Inf.pre p7).pre (Pre.app h7 [O.tup [.ref i6,.str (Txt.join "/" (pd_ rs 13 r.place))]]);generalize (h7++ [O.tup [V.ref i6,.str (Txt.join "/" (pd_ rs 13 r.place))]])=h8 at g7 Inf7;refine W.stC (W.sA (W.tuple rfl rfl (W.r_ (X.rows.pre (j1.trans g7)) hra (j:=2) ⟨by decide,by decide⟩ rfl (W.cI (g7.get j3) ⟨rfl,rfl,W.cI (g7.get j4) ⟨rfl,rfl,W.c_ rfl ⟨rfl,rfl,?_⟩⟩⟩))));refine W.cG (by rfl) ((W.cI (g7.get j3) (W.cI (g7.get j4) ⟨rfl,?_⟩)));refine below_W (d:=d+2) (k:=13) (X.rows.pre (j1.trans g7)) (fun c hc _=>deep 13 c.place (Nat.le_refl _) ⟨c,ro_ I.rnd hc⟩) fun h9 p9=>?_;have g9:=g7.trans p9;refine W.r_ (X.rows.pre (j1.trans g9)) hra (j:=3) ⟨by decide,by decide⟩ rfl (W.cI (g9.get j3) ⟨rfl,rfl,W.cI (g9.get j4) ⟨rfl,rfl,W.c_ rfl ⟨rfl,rfl,?_⟩⟩⟩);refine W.cG (by rfl) ((W.cI (g9.get j3) (W.cI (g9.get j4) ⟨rfl,?_⟩)));refine share_W (d:=d+3) 13 (X.rows.pre (j1.trans g9)) (deep 13 r.place (Nat.le_refl _) ⟨r,hra⟩) hra fun h10 p10=>W.asN rfl ?_;have eb:belowR rs 13 r.place=n.bel:=I.below (deep 14 r.place (by decide) ⟨r,hra⟩) hn;have es:sg_ rs 13 r.place=n.share:=I.share 13 r.place n (deep 13 r.place (Nat.le_refl _) ⟨r,hra⟩) hn;have eu:r.used=n.used:=congrArg (·.2.2.1) en;have er:r.res=n.res:=congrArg (·.2.2.2) en;rw [eb,es,eu,er];have g11:Pre h5 (h10++ [O.tup [.int n.used,.int n.bel,.int n.res,.int n.share]]):=g9.trans (p10.trans (Pre.app _ _));have Inf11:=((Inf7.pre p9).pre p10).pre (Pre.app h10 [O.tup [.int n.used,.int n.bel,.int n.res,.int n.share]]);have hdue:(h10++ [O.tup [V.int n.used,.int n.bel,.int n.res,.int n.share]])[h10.length]? =some (.tup [V.int n.used,.int n.bel,.int n.res,.int n.share]):=gn_;generalize hl10:h10.length=m10 at hdue ⊢;try dsimp only
  generalize (h10++ [O.tup [V.int n.used,.int n.bel,.int n.res,.int n.share]])=h11 at g11 Inf11 hdue;obtain ⟨kI,own⟩:=Inf11.own;refine W.stC (W.sIf (W.t_ rfl (W.tuple rfl rfl ?_)));iterate 3 (refine W.a_ rfl (W.lo (ln_ (by decide) le_) (W.g_ Inf11.inst own (gd _ (by simp)) rfl rfl ?_)))
  refine W.cG (by rfl) ((W.lo (ln_ (by decide) le_) ⟨rfl,so_ Inf11 (W.lo le_ ?_)⟩));refine W.neTup gn_ (ga_ hdue) (by have:=fi_ [n.used,n.bel,n.res,n.share];exact this) (W.stN ?_);have g12:Pre h5 (h11++ [O.tup [.int n.used,.int n.bel,.int n.res,.int n.share]]):=g11.trans (Pre.app _ _);generalize (h11++ [O.tup [V.int n.used,.int n.bel,.int n.res,.int n.share]])=h12 at g12;refine W.stC (W.sIf (W.trOr (W.anyC (W.t_ rfl (W.cG (by rfl) ((W.lo (ln_ (by decide) (ln_ (by decide) (ln_ (by decide) i5))) (W.cI (g12.get j4) ⟨rfl,?_⟩))))))));refine path_of_W (Rp.on (j1.trans g12) _) I.namedAll hn (k:=13) (I.climbN 13 _ hcl) (by rw [pa1];exact hj) (by decide) fun h13 p13'=>?_;rw [pa1];refine W.lo (ln_ (by decide) (ln_ (by decide) le_)) (W.p_ (a:=false) (fun _=>?_) ?_)
  ·show (Mine.opt (some (decide (_=_))) >>=fun b=>Pure.pure (!b))=_;rw [decide_eq_true rfl];rfl
  have g13:=g12.trans p13';refine W.anyC (W.t_ rfl (W.cG (by rfl) ((W.lo (ln_ (by decide) (ln_ (by decide) (ln_ (by decide) i5))) (W.lo (ln_ (by decide) (ln_ (by decide) le_)) ⟨rfl,?_⟩)))));have hfp:fc_ ns 4 (pb_ (Txt.join "/" (pd_ rs 13 r.place)))=some r.place:=by rw [parts_join pa3];exact pa2
  refine find_dir_W (Rp.on (j1.trans g13) _) (I.closed nk) hn4 hpz (fun h14 c p14' hc=>?_) (fun h14 p14' hc=>by rw [hfp] at hc;cases hc);rw [hfp] at hc;cases hc;have g14:=g13.trans p14';refine W.cI (g14.get j4) (W.p_ (a:=!decide (r.place=r.place)) (fun _=>rfl) ?_);rw [decide_eq_true rfl];refine W.any0 (W.stN ?_);refine W.stC (W.sIf (W.t_ rfl (W.cG (by rfl) ((W.lo (ln_ (by decide) (ln_ (by decide) (ln_ (by decide) i5))) (W.cI (g14.get j4) ⟨rfl,?_⟩))))));refine child_names_W (Rp.on (j1.trans g14) _) hn fun h15 r15 p15 hr15 hl15=>W.cG (by rfl) ((W.cg_ (cells:=_) (fun c=>decide (c.par=r.place)) (fun c=> .str c.name) rfl rfl rfl (X.rows.pre (j1.trans (g14.trans p15))) (W.cI (p15.get (g14.get j3)) ⟨rfl,rfl⟩) ?_ ?_ ?_))
  ·intro c hc h lo hp hlo;refine W.test1 (W.t_ rfl (W.r_ ((X.rows.pre (j1.trans (g14.trans p15))).pre hp) (ro_ X.rows.pnd hc) (j:=0) ⟨by decide,by decide⟩ rfl (W.cI (hp.get (p15.get (g14.get j3))) ⟨rfl,rfl,W.lo hlo ⟨rfl,rfl,W.c_ rfl ⟨rfl,rfl,W.cI (hp.get (p15.get (g14.get j4))) ?_⟩⟩⟩)));exact W.p_ (a:=decide (c.par=r.place)) (fun _=>rfl) ⟨rfl,Pre.refl _,rfl⟩
  ·intro c hc hg h lo hp hlo;exact W.r_ ((X.rows.pre (j1.trans (g14.trans p15))).pre hp) (ro_ X.rows.pnd hc) (j:=1) ⟨by decide,by decide⟩ rfl (W.cI (hp.get (p15.get (g14.get j3))) ⟨rfl,rfl,W.lo hlo ⟨rfl,rfl,W.c_ rfl ⟨rfl,rfl,rfl,Pre.refl _,rfl⟩⟩⟩)
  ·intro h16 acc p16 ha hacc;have hnk:=I.names_eq hn (nk n hnm);have hsv:sn_ (((rs.filter fun c=>decide (c.par=r.place)).map fun c=>V.str c.name))=some ((ka_ n).map V.str):=by
    have e:=sort_strs ((rs.filter fun c=>decide (c.par=r.place)).map (·.name));rw [List.map_map] at e;rw [hnk];exact e
   refine ⟨rfl,W.bi (W.sortedL hacc (by
    rw [List.length_map];have:=List.length_filter_le (fun c:Rw=>decide (c.par=r.place)) rs;omega) hsv ?_)⟩
   refine W.neSame (ga_ (p16.get hl15)) gn_ (flatEqs_strs _) (W.stN (W.stN ?_));have g16:Pre h5 (h16++ [O.list ((ka_ n).map V.str)]):=g14.trans (p15.trans (p16.trans (Pre.app _ _)));exact ⟨j1.trans g16,g16.get j2,g16.get j3,⟨_,g16.get j4⟩,ln_ (by decide) (ln_ (by decide) (ln_ (by decide) i5))⟩
 ·intro s' ⟨i1,i2,i3,i4,i5⟩;exact W.stC (W.s_ (W.c_ rfl (q _ (i1.set (by omega)))))
 ·exact ⟨p14.trans (Pre.app _ _),gn_,ga_ d1,⟨_,ga_ d2⟩,rfl⟩
end
end
section
theorem Wld.keep{F:List Nat}{h h':List O}{A:Adr}{R:Nat}{last:Int}{ns:List Nd}{rs:List Rw}(X:Wld h A R last ns rs)(k:Keep F h h')(hF:∀ i∈fb_ A R ns rs,i∉F):Wld h' A R last ns rs:=
 ⟨let ⟨n,z,r⟩:=X.rep;⟨n,z,r.keepF k fun i hi=>hF i (List.mem_append_left _ hi)⟩,X.rows.keep k fun i hi=>hF i (List.mem_append_right _ hi),X.apart⟩
theorem inv0(z a:Nat):Inv 4 [rootNd z] [⟨4,0,"",0,0,a⟩] 0 where
 key:=rfl
 pnd:=by simp
 pl:=fun n hn=>by rw [List.mem_singleton.mp hn];exact ⟨Int.le_refl 4,Int.le_refl 4⟩
 kids:=fun p n hn x c=>by
  obtain ⟨h1,h2⟩:=nm_ hn;rw [List.mem_singleton.mp h1] at h2 ⊢;constructor
  ·intro h;cases h
  ·rintro ⟨r,hr,h3,_⟩;rw [List.mem_singleton.mp hr] at h3;have h2:(4:Int)=p:=h2;have h3:(0:Int)=p:=h3;omega
 names:=fun r hr hz=>by rw [List.mem_singleton.mp hr] at hz;exact absurd rfl hz
 root:=⟨⟨_,.head _,rfl⟩,fun r hr=>by rw [List.mem_singleton.mp hr];exact ⟨fun _=>rfl,fun _=>rfl⟩⟩
 dep:=⟨fun q=>if q=4 then 1 else 0,rfl,fun e he=>by
  have:e=(4,0):=by simpa [rootNd] using he
  subst this;exact ⟨rfl,.inl rfl⟩⟩
 sums:=fun n hn=>by rw [List.mem_singleton.mp hn];rfl
 bnd:=fun n hn=>by rw [List.mem_singleton.mp hn];exact ⟨⟨Int.le_refl 0,(by decide:(0:Int)<=99)⟩,Int.le_refl 0,(by decide:(0:Int)<=99)⟩
 len:=⟨Nat.le_refl 1,(by decide:(4:Int)<=4+3*((0:Nat):Int)),Int.le_refl 4⟩
section
variable {P:Prg} {E:Addr->S->Prop} {s:S} {ρ:Ev}
theorem W.listTy{n:Nat}{vs:List V}{Q:V->S->Prop}(hn:s.h[n]? =some (.list vs))(hz:vs.length<=100000)(q:Q (.ref s.h.length) {s with h:=s.h++ [.list vs]}):W P (fun _=>callTy "list" [.ref n]) Q E s:=
 W.bind (W.gc_ hn (W.pure (W.n_ (decide_eq_true hz) (W.bind (W.alloc (W.pure q))))))
theorem W.range1{b:Int}{Q:V->S->Prop}(q:Q (.ref s.h.length) {s with h:=s.h++ [.rng 0 b 1]}):W P (fun _=>callTy "range" [.int b]) Q E s:=W.bind (W.alloc (W.pure q))
end
theorem small12:∀ N:Fin 13,Builtin.Range.small 0 (N.val:Int) 1=true/\Builtin.Range.rangeSize 0 (N.val:Int) 1=(N.val:Int):=by decide+kernel
abbrev A0:Adr:=⟨5,4,6,7,8⟩
section
variable {last:Int} {ns:List Nd} {rs:List Rw} {t:Nat}
theorem Inv.bad(I:Inv last ns rs t){p:Int}{n:Nd}(hn:ndAt ns p=some n){y:Str}(hy:¬ (y∈lawNames/\o_ y=true)):n.kids.lookup y=none:=by
 cases h:n.kids.lookup y with
 | none=>rfl
 | some c=>
  obtain ⟨r,hr,h1,h2,_⟩:=(I.kids p n hn y c).mp h;have:=I.names r hr (h1▸I.par_nz hn);rw [h2] at this;exact absurd this hy
theorem findP_snoc:∀ (xs:List Str) (a b:Int) (y:Str),fc_ ns a xs=some b->fc_ ns a (xs++ [y])=fc_ ns b [y]
 | [],a,b,y,h=>by cases h;rfl
 | x::s,a,b,y,h=>by
  have h':(match (ndAt ns a).bind fun n=>n.kids.lookup x with | some c=>fc_ ns c s | none=>none)=some b:=h;show (match (ndAt ns a).bind fun n=>n.kids.lookup x with | some c=>fc_ ns c (s++ [y]) | none=>none)=_;cases hb:(ndAt ns a).bind fun n=>n.kids.lookup x with
  | none=>rw [hb] at h';cases h'
  | some c=>rw [hb] at h';exact findP_snoc s c b y h'
theorem Inv.nowhere(I:Inv last ns rs t){l:List Str}{p:Int}{n n4:Nd}(h4:ndAt ns 4=some n4)(hn:ndAt ns p=some n)(hf:∀ x∈l,x∈lawNames/\o_ x=true)(hp:fc_ ns 4 l=some p):fc_ ns 4 (pb_ (Txt.join "/" l++"/nothing"))=none:=by
 rw [parts_nothing hf];have b1:¬ (("nothing" :Str)∈lawNames/\o_ "nothing"=true):=by decide+kernel
 have b2:¬ (("" :Str)∈lawNames/\o_ ""=true):=by decide+kernel
 by_cases hl:l= []
 ·rw [if_pos hl,fs_ h4,I.bad h4 b2]
 ·rw [if_neg hl,findP_snoc l 4 p _ hp,fs_ hn,I.bad hn b1]
theorem Inv.noab(I:Inv last ns rs t)(nk:∀ n∈ns,(n.kids.map (·.1)).Nodup){n4:Nd}(h4:ndAt ns 4=some n4):fc_ ns 4 (pb_ "a//b")=none:=by
 have b2:¬ (("" :Str)∈lawNames/\o_ ""=true):=by decide+kernel
 rw [parts_ab,fs_ h4];cases h:n4.kids.lookup ("a" :Str) with
 | none=>rfl
 | some c=>
  obtain ⟨m,hm⟩:=(I.closed nk).kid (nm_ h4).1 h;dsimp only;rw [fs_ hm,I.bad hm b2]
end
variable {w:World}
theorem law_run{xs:List Int}(hx:xs.length<=63){fo:Obj}{fd:FuncData}{s0:Stmt}{rest:List Stmt}(hK:(Mine.hd.heap_39 w.params).lookup 518=some fo)(hd:fo.data= .func fd)(hb:fd.body= .stmts (s0::rest)):
  W (pg w) (fun F=>e_ (pg w).K F rest {scope:=fd.scope,cells:=cellsL,d:=60,lq:=lqL,stm:=true}) (fun f _=>f= .ret (.bool true)) (fun _ _=>False) ⟨[.list (xs.map V.int),.cell none,.cell none,.cell none],[("script",.ref 0)]⟩:=by
 have e:(Mine.hd.heap_39 w.params).lookup 518=some _:=rfl;rw [e] at hK;cases hK;cases hd;cases hb;dsimp only;refine W.stC (W.sA (W.cG (by rfl) (⟨rfl,base_W rfl (fun _=>rfl) fun k1 k2=>W.asC (w:=none) rfl rfl rfl ?_⟩)));refine W.heap (h':= [.list (xs.map V.int),.cell (some (.ref 5)),.cell none,.cell none,.dict (ownD 1 6 7) k1,.inst 226 4,.dict [] 0,.dict [(.int 1,.ref 8)] k2,.dict [] 0]) rfl ?_;have B:Base ⟨[.list (xs.map V.int),.cell (some (.ref 5)),.cell none,.cell none,.dict (ownD 1 6 7) k1,.inst 226 4,.dict [] 0,.dict [(.int 1,.ref 8)] k2,.dict [] 0],[]⟩ 5 4 6 7 1 [] [(.int 1,.ref 8)]:=
  {inst:=rfl,own:=⟨k1,rfl⟩,nts:=⟨0,rfl⟩,zps:=⟨k2,rfl⟩,nk:=⟨rfl,by simp⟩,zk:=⟨rfl,by simp⟩,ne:=by decide}
 have f0:([.list (xs.map V.int),.cell (some (.ref 5)),.cell none,.cell none,.dict (ownD 1 6 7) k1,.inst 226 4,.dict [] 0,.dict [(.int 1,.ref 8)] k2,.dict [] 0]:List O)[0]? =some (.list (xs.map V.int)):=rfl;have f1:([.list (xs.map V.int),.cell (some (.ref 5)),.cell none,.cell none,.dict (ownD 1 6 7) k1,.inst 226 4,.dict [] 0,.dict [(.int 1,.ref 8)] k2,.dict [] 0]:List O)[1]? =some (.cell (some (.ref 5))):=rfl;have f2:([.list (xs.map V.int),.cell (some (.ref 5)),.cell none,.cell none,.dict (ownD 1 6 7) k1,.inst 226 4,.dict [] 0,.dict [(.int 1,.ref 8)] k2,.dict [] 0]:List O)[2]? =some (.cell none):=rfl;have f3:([.list (xs.map V.int),.cell (some (.ref 5)),.cell none,.cell none,.dict (ownD 1 6 7) k1,.inst 226 4,.dict [] 0,.dict [(.int 1,.ref 8)] k2,.dict [] 0]:List O)[3]? =some (.cell none):=rfl;have fz:([.list (xs.map V.int),.cell (some (.ref 5)),.cell none,.cell none,.dict (ownD 1 6 7) k1,.inst 226 4,.dict [] 0,.dict [(.int 1,.ref 8)] k2,.dict [] 0]:List O)[8]? =some (.dict [] 0):=rfl;generalize ([.list (xs.map V.int),.cell (some (.ref 5)),.cell none,.cell none,.dict (ownD 1 6 7) k1,.inst 226 4,.dict [] 0,.dict [(.int 1,.ref 8)] k2,.dict [] 0]:List O)=h1 at B f0 f1 f2 f3 fz ⊢;refine W.stC (W.sIf (W.t_ rfl (W.it (W.cG (by rfl) ((W.lambdaX (cells:=_) rfl rfl fun hL pL eL=>⟨rfl,?_⟩))))));refine lh_ (d:=59) eL (Qv:=fun _ _=>False) (Ec:=fun C h=>C=51/\Pre hL h) (fun lo=>?_) (fun v h hq=>hq.elim) (fun C h ⟨hC,hp⟩=>?_)
 ·refine W.lam eL rfl (W.cG (by rfl) ((W.cF (pL.get f1) ⟨rfl,?_⟩)));exact root_none_W (A:=A0) (B.on pL _) (pL.get fz) fun h hp=>⟨rfl,hp⟩
 subst hC;refine ⟨_,rfl,W.c_ rfl (W.itemT gn_ ⟨by decide,by decide⟩ rfl (W.c_ rfl (W.p_ (a:=!decide (("Missing" :Str)="Missing")) (fun _=>rfl) ?_)))⟩;rw [decide_eq_true rfl];refine W.stN ?_;have p2:Pre h1 (h++ [O.tup [.str "Missing",.int 0]]):=pL.trans (hp.trans (Pre.app _ _));generalize (h++ [O.tup [V.str "Missing",.int 0]])=h2 at p2;refine W.stC (W.sA (W.cG (by rfl) ((W.cI (p2.get f1) ⟨rfl,make_root_W (A:=A0) (B.on p2 _) (p2.get fz) (by decide) fun h3 z nt zp R3 k3 hz=>W.asN rfl ?_⟩))));have hz:h2.length<=z:=hz;have g0:=k3.2 _ _ (p2.get f0) (by simp);have g1:=k3.2 _ _ (p2.get f1) (by simp);have g2:=k3.2 _ _ (p2.get f2) (by simp);have g3:=k3.2 _ _ (p2.get f3) (by simp);refine W.stC (W.sA (W.dict1 (W.lo rfl (W.list rfl rfl (W.c_ rfl (W.c_ rfl (W.c_ rfl (W.c_ rfl ?_))))))));have n1:(h3++ [O.dict [] 0]++ [O.list [.int 0,.str "",.int 0,.int 0]])[h3.length]? =some (.dict [] 0):=ga_ gn_;refine W.putD n1 rfl ?_;have l3:=gl_ g3;have l5:=R3.len;refine W.asC (w:=none) rfl rfl (gb_ (show h3.length≠3 by omega) (ga_ (ga_ g3))) ?_;have e4:(h3++ [O.dict [] 0]).length=h3.length+1:=by simp
 dsimp only;rw [e4];generalize hm:h3.length=m at n1 l3 l5;have e5:((h3++ [O.dict [] 0]++ [O.list [.int 0,.str "",.int 0,.int 0]]).set m (putD (.int 4) (.ref (m+1)) [] 0))=h3++ [O.dict [(.int 4,.ref (m+1))] 1,.list [.int 0,.str "",.int 0,.int 0]]:=by
  subst hm;rw [show putD (.int 4) (.ref (h3.length+1)) [] 0=O.dict [(.int 4,.ref (h3.length+1))] 1 from rfl];simp
 rw [e5];have X0:Wld ((h3++ [O.dict [(.int 4,.ref (m+1))] 1,.list [.int 0,.str "",.int 0,.int 0]]).set 3 (.cell (some (.ref m)))) A0 m 4 [rootNd z] [⟨4,0,"",0,0,m+1⟩]:=by
  have k4:Keep [3] (h3++ [O.dict [(.int 4,.ref (m+1))] 1,.list [.int 0,.str "",.int 0,.int 0]]) ((h3++ [O.dict [(.int 4,.ref (m+1))] 1,.list [.int 0,.str "",.int 0,.int 0]]).set 3 (.cell (some (.ref m)))):=(Keep.refl _ _).set (.inl (by simp));have hz3:3∉foot A0 [rootNd z]:=by
   have l1:=gl_ (p2.get fz);show 3∉ [5,4,6,7,8,z];simp only [List.mem_cons,List.not_mem_nil,or_false];omega
  refine ⟨⟨nt,zp,(R3.on (Pre.app _ _) []).keepF k4 fun i hi hi2=>?_⟩,?_,fun i hi hi2=>?_⟩
  ·rw [List.mem_singleton.mp hi2] at hi;exact hz3 hi
  ·have hr:Rows (h3++ [O.dict [(.int 4,.ref (m+1))] 1,.list [.int 0,.str "",.int 0,.int 0]]) m [⟨4,0,"",0,0,m+1⟩]:=
    {dict:=⟨1,by subst hm;simp⟩,rows:=fun r hr=>by rw [List.mem_singleton.mp hr];subst hm;simp [Rw.lst],nd:=by simp,pnd:=by simp,len:=(by decide:1<=40)}
   refine hr.keep k4 fun i hi hi2=>?_;simp only [List.map_cons,List.map_nil,List.mem_cons,List.not_mem_nil,or_false] at hi hi2;omega
  ·have:=l5 i hi2;simp only [List.map_cons,List.map_nil,List.mem_cons,List.not_mem_nil,or_false] at hi;omega
 have hl4:((h3++ [O.dict [(.int 4,.ref (m+1))] 1,.list [.int 0,.str "",.int 0,.int 0]]).set 3 (.cell (some (.ref m)))).length=m+2:=by subst hm;simp
 have q0:((h3++ [O.dict [(.int 4,.ref (m+1))] 1,.list [.int 0,.str "",.int 0,.int 0]]).set 3 (.cell (some (.ref m))))[0]? =some (.list (xs.map V.int)):=gb_ (by decide) (ga_ g0);have q1:((h3++ [O.dict [(.int 4,.ref (m+1))] 1,.list [.int 0,.str "",.int 0,.int 0]]).set 3 (.cell (some (.ref m))))[1]? =some (.cell (some (.ref 5))):=gb_ (by decide) (ga_ g1);have q2:((h3++ [O.dict [(.int 4,.ref (m+1))] 1,.list [.int 0,.str "",.int 0,.int 0]]).set 3 (.cell (some (.ref m))))[2]? =some (.cell none):=gb_ (by decide) (ga_ g2);have q3:((h3++ [O.dict [(.int 4,.ref (m+1))] 1,.list [.int 0,.str "",.int 0,.int 0]]).set 3 (.cell (some (.ref m))))[3]? =some (.cell (some (.ref m))):=ge_ (ga_ g3);have l8:=gl_ (p2.get fz);have hJ0:∀ i∈fb_ A0 m [rootNd z] [⟨4,0,"",0,0,m+1⟩],i≠1/\i≠2/\i≠3:=fun i hi=>by
  have hi:i∈ [5,4,6,7,8,z,m,m+1]:=hi;simp only [List.mem_cons,List.not_mem_nil,or_false] at hi;omega
 generalize ((h3++ [O.dict [(.int 4,.ref (m+1))] 1,.list [.int 0,.str "",.int 0,.int 0]]).set 3 (.cell (some (.ref m))))=h4 at X0 hl4 q0 q1 q2 q3 ⊢;refine W.stC (W.sA (W.b_ (W.cG (by rfl) ((W.slice (W.lo rfl (W.optN (W.optS (W.c_ rfl (W.optN (W.cutL (ws:=(xs.map V.int).take 33) rfl rfl rfl q0 ⟨by decide,by rw [List.length_map];omega⟩ (pick_take (k:=33)) ⟨rfl,W.ty ?_⟩)))))))))));refine W.listTy gn_ (by rw [List.length_take,List.length_map];omega) (W.list rfl rfl (W.c_ rfl (W.c_ rfl (W.c_ rfl ?_))));refine W.addLL (u:=(xs.map V.int).take 33) (v:= [.int 0,.int 0,.int 0]) (ga_ gn_) gn_ (by rw [List.length_take,List.length_map];simp;omega) (W.asN rfl ?_);have eD:(xs.map V.int).take 33++ [.int 0,.int 0,.int 0]=(xs.take 33++ [0,0,0]).map V.int:=by rw [List.map_append,List.map_take];rfl
 rw [eD];have lD:(xs.take 33++ [0,0,0]).length=min 33 xs.length+3:=by rw [List.length_append,List.length_take];rfl
 generalize (xs.take 33++ [(0:Int),0,0])=ds at lD;have p5:Pre h4 (h4++ [O.list ((xs.map V.int).take 33)]++ [O.list ((xs.map V.int).take 33)]++ [O.list [.int 0,.int 0,.int 0]]++ [O.list (ds.map V.int)]):=(((Pre.app _ _).trans (Pre.app _ _)).trans (Pre.app _ _)).trans (Pre.app _ _);have hdg:(h4++ [O.list ((xs.map V.int).take 33)]++ [O.list ((xs.map V.int).take 33)]++ [O.list [.int 0,.int 0,.int 0]]++ [O.list (ds.map V.int)])[(h4++ [O.list ((xs.map V.int).take 33)]++ [O.list ((xs.map V.int).take 33)]++ [O.list [.int 0,.int 0,.int 0]]).length]? =some (.list (ds.map V.int)):=gn_;have hdl:h4.length<=(h4++ [O.list ((xs.map V.int).take 33)]++ [O.list ((xs.map V.int).take 33)]++ [O.list [.int 0,.int 0,.int 0]]).length:=by simp
 generalize (h4++ [O.list ((xs.map V.int).take 33)]++ [O.list ((xs.map V.int).take 33)]++ [O.list [.int 0,.int 0,.int 0]]).length=dg at hdg hdl ⊢;try dsimp only
 generalize (h4++ [O.list ((xs.map V.int).take 33)]++ [O.list ((xs.map V.int).take 33)]++ [O.list [.int 0,.int 0,.int 0]]++ [O.list (ds.map V.int)])=h5 at p5 hdg ⊢;have hlD:(ds.map V.int).length<=100000:=by rw [List.length_map];omega
 refine W.stC (W.sFor rfl (W.cG (by rfl) ((W.b_ (W.cG (by rfl) ((W.lo rfl ⟨rfl,W.bi (W.lenL hdg hlD (W.c_ rfl ?_))⟩)))))));rw [List.length_map];have divN:∀ {a b:Int},0 < b/\b < 1000000->binM .FloorDiv (.int a) (.int b)=Pure.pure (.int (a / b)):=fun {a b} h=>if_pos h;have mulN:∀ {a:Nat},a < 1000->binM .Mult (.int 3) (.int (a:Int))=Pure.pure (.int (3*(a:Int))):=fun {a} h=>if_pos ⟨by decide,by omega⟩;obtain ⟨N,hN⟩:∃ N:Nat,(ds.length:Int) / 3=(N:Int):=⟨ds.length / 3,by omega⟩;have hN12:N<=12:=by omega
 have hNd:3*N<=ds.length:=by omega
 refine W.p_ (fun _=>divN (by decide)) ?_;rw [hN];obtain ⟨sm1,sm2⟩:=small12 ⟨N,by omega⟩;refine ⟨rfl,W.ty (W.range1 (W.iterR gn_ sm1 ?_))⟩;rw [sm2];have p6:Pre h4 (h5++ [O.rng 0 (N:Int) 1]++ [.itR 0 (N:Int) 1]):=p5.trans ((Pre.app _ _).trans (Pre.app _ _));have d6:(h5++ [O.rng 0 (N:Int) 1]++ [.itR 0 (N:Int) 1])[dg]? =some (.list (ds.map V.int)):=ga_ (ga_ hdg);have i6:(h5++ [O.rng 0 (N:Int) 1]++ [.itR 0 (N:Int) 1])[(h5++ [O.rng 0 (N:Int) 1]).length]? =some (.itR 0 (N:Int) 1):=gn_;have hil:h5.length < (h5++ [O.rng 0 (N:Int) 1]).length:=by simp
 have hdg5:=gl_ hdg;have p45:=p5.len;have l3':=gl_ q3;generalize (h5++ [O.rng 0 (N:Int) 1]).length=it at i6 hil ⊢;try dsimp only
 generalize (h5++ [O.rng 0 (N:Int) 1]++ [.itR 0 (N:Int) 1])=h6 at p6 d6 i6 ⊢;refine W.forG (vs:=(List.range N).map fun i:Nat=>V.int (i:Int)) (it:=it) (fun i=> .itR (i:Int) ((N:Int) - (i:Int)) 1) (I:=fun i s'=>(∃ last ns rs,Wld s'.h A0 m last ns rs/\Inv last ns rs i/\∀ j∈fb_ A0 m ns rs,j≠1/\j≠2/\j≠3/\j≠dg/\j≠it)/\s'.h[it]? =some (.itR (i:Int) ((N:Int) - (i:Int)) 1)/\s'.h[1]? =some (.cell (some (.ref 5)))/\s'.h[2]? =some (.cell none)/\s'.h[3]? =some (.cell (some (.ref m)))/\s'.h[dg]? =some (.list (ds.map V.int))/\has s'.l "root" (.int 4)/\has s'.l "digits" (.ref dg)) ?_ ?_ ?_ ((List.range N).map fun i:Nat=>V.int (i:Int)).length 0 _ (by omega) ?_
 ·intro i s' Q2 ⟨_,i2,_⟩ hle h1 h2;have hlen:((List.range N).map fun i:Nat=>V.int (i:Int)).length=N:=by simp
  rw [hlen] at hle h2;refine W.nextR i2 (fun hlt=>?_) fun hle2=>h2 (by omega);have:=h1 (.int (i:Int)) (by rw [List.getElem?_map,List.getElem?_range (by omega)];rfl);have ea:(((i+1:Nat):Int))=(i:Int)+1:=by omega
  have eb:(N:Int) - ((i+1:Nat):Int)=(N:Int) - (i:Int) - 1:=by omega
  rw [ea] at this;rw [show (N:Int) - ((i:Int)+1)=(N:Int) - (i:Int) - 1 by omega] at this;exact this
 ·intro i v s' ⟨⟨last,ns,rs,X,I,hJ⟩,i2,i3,i4,i5,i7,i8,i9⟩ hv;have hi:i < N:=by
   have:=(List.getElem?_eq_some_iff.mp hv).1;simpa using this
  have hv2:v= .int (i:Int):=by
   rw [List.getElem?_map,List.getElem?_range hi] at hv;exact (Option.some.inj hv).symm
  subst hv2;have kset:Keep [it] s'.h (s'.h.set it (.itR ((i+1:Nat):Int) ((N:Int) - ((i+1:Nat):Int)) 1)):=(Keep.refl _ _).set (.inl (by simp));have X1:=X.keep kset fun j hj hj2=>(hJ j hj).2.2.2.2 (List.mem_singleton.mp hj2);have j1:=kset.2 _ _ i3 (by rw [List.mem_singleton];omega);have j2:=kset.2 _ _ i4 (by rw [List.mem_singleton];omega);have j3:=kset.2 _ _ i5 (by rw [List.mem_singleton];omega);have j4:=kset.2 _ _ i7 (by rw [List.mem_singleton];omega);have j5:(s'.h.set it (.itR ((i+1:Nat):Int) ((N:Int) - ((i+1:Nat):Int)) 1))[it]? =some (.itR ((i+1:Nat):Int) ((N:Int) - ((i+1:Nat):Int)) 1):=ge_ i2;generalize (s'.h.set it (.itR ((i+1:Nat):Int) ((N:Int) - ((i+1:Nat):Int)) 1))=h7 at X1 j1 j2 j3 j4 j5 ⊢;refine W.own0 (W.asN rfl ?_);have dig:∀ k:Nat,k < 3->∃ z:Int,(ds.map V.int)[(3*(i:Int)+(k:Int)).toNat]? =some (.int z):=fun k hk=>by
   have hlt:3*i+k < ds.length:=by omega
   refine ⟨ds[3*i+k],?_⟩;have e1:(3*(i:Int)+(k:Int)).toNat=3*i+k:=by omega
   rw [e1,List.getElem?_map,List.getElem?_eq_getElem hlt];rfl
  obtain ⟨x,hx1⟩:=dig 0 (by decide);obtain ⟨y,hy1⟩:=dig 1 (by decide);obtain ⟨zz,hz1⟩:=dig 2 (by decide);refine W.stC (W.sIf (W.trNot (W.ta_ rfl (W.cG (by rfl) ((W.cI j1 (W.cI j3 ?_)))))));refine W.it (W.lo (ln_ (by decide) i9) (W.b_ (W.c_ rfl (W.lo le_ (W.p_ (fun _=>mulN (by omega)) (W.itemL j4 (by omega) (by rw [show (3*(i:Int))=3*(i:Int)+((0:Nat):Int) by omega];exact hx1) ?_))))));refine W.it (W.lo (ln_ (by decide) i9) (W.b_ (W.b_ (W.c_ rfl (W.lo le_ (W.p_ (fun _=>mulN (by omega)) (W.c_ rfl (W.p_ (fun _=>rfl) (W.itemL j4 (by omega) hy1 ?_)))))))));refine W.it (W.lo (ln_ (by decide) i9) (W.b_ (W.b_ (W.c_ rfl (W.lo le_ (W.p_ (fun _=>mulN (by omega)) (W.c_ rfl (W.p_ (fun _=>rfl) (W.itemL j4 (by omega) hz1 ⟨rfl,?_⟩)))))))));refine law_step_W (A:=A0) (d:=50) X1 I (by omega) fun h8 last' ns' rs' X8 I8 N8=>W.p_ (fun _=>rfl) ?_;have l7:∀ {j:Nat} {o:O},h7[j]? =some o->(∀ q∈fb_ A0 m ns rs,q≠j)->h8[j]? =some o/\∀ q∈fb_ A0 m ns' rs',q≠j:=fun {j o} e hq=>by
   refine ⟨N8.keep.2 _ _ e fun z=>hq j z rfl,fun q hq2 z=>?_⟩;rcases N8.new q hq2 with h | h
   ·exact hq q h z
   ·have:=gl_ e;dsimp only at h;omega
  obtain ⟨k1,k1'⟩:=l7 j1 fun q hq=>(hJ q hq).1;obtain ⟨k2,k2'⟩:=l7 j2 fun q hq=>(hJ q hq).2.1;obtain ⟨k3,k3'⟩:=l7 j3 fun q hq=>(hJ q hq).2.2.1;obtain ⟨k4,k4'⟩:=l7 j4 fun q hq=>(hJ q hq).2.2.2.1;obtain ⟨k5,k5'⟩:=l7 j5 fun q hq=>(hJ q hq).2.2.2.2;exact W.stN (W.stN ⟨⟨last',ns',rs',X8,I8,fun q hq=>⟨k1' q hq,k2' q hq,k3' q hq,k4' q hq,k5' q hq⟩⟩,k5,k1,k2,k3,k4,ln_ (by decide) i8,ln_ (by decide) i9⟩)
 ·intro s' ⟨⟨last,ns,rs,X,I,hJ⟩,i2,i3,i4,i5,i7,i8,i9⟩;have hlen:((List.range N).map fun i:Nat=>V.int (i:Int)).length=N:=by simp
  rw [hlen] at I;have kset:Keep [it] s'.h (s'.h.set it .dead):=(Keep.refl _ _).set (.inl (by simp));have X1:=X.keep kset fun j hj hj2=>(hJ j hj).2.2.2.2 (List.mem_singleton.mp hj2);have j1:=kset.2 _ _ i3 (by rw [List.mem_singleton];omega);have j2:=kset.2 _ _ i4 (by rw [List.mem_singleton];omega);have j3:=kset.2 _ _ i5 (by rw [List.mem_singleton];omega);dsimp only;generalize (s'.h.set it .dead)=h7 at X1 j1 j2 j3 ⊢;obtain ⟨nt,zp,Rp⟩:=X1.rep;have nk:∀ n∈ns,(n.kids.map (·.1)).Nodup:=fun n hn=>(Rp.kok n hn).2;obtain ⟨dep,T⟩:=I.dep;have TR:=I.tree T;have hrl:=I.rlen;have hlen:=I.len;obtain ⟨r4,hr4,hr4p⟩:=I.root.1;have hr4a:rwAt rs 4=some r4:=by rw [<-hr4p];exact ro_ I.rnd hr4
  obtain ⟨n4,hn4,_⟩:=I.nd_of hr4a;have bnd13:∀ {p:Int} {r:Rw},rwAt rs p=some r->dep p<=13:=fun {p r} hr=>by
   obtain ⟨h1,h2⟩:=rm_ hr;have:=TR.bound r h1;rw [h2] at this;omega
  obtain ⟨kR,eR⟩:=X1.rows.dict;have lj3:=gl_ j3;have lF:=X1.len;refine W.stC (W.sFor rfl (W.cI j3 (W.iterD eR (ri_ rs) ?_)));have e0:(ra_ rs).length=rs.length:=by simp
  refine W.forG (vs:=(ra_ rs).map (·.1)) (it:=h7.length) (fun i=> .itD m i (ra_ rs).length kR) (I:=fun i s'=>Wld s'.h A0 m last ns rs/\s'.h[m]? =some (.dict (ra_ rs) kR)/\s'.h[h7.length]? =some (.itD m i (ra_ rs).length kR)/\s'.h[1]? =some (.cell (some (.ref 5)))/\(∃ c,s'.h[2]? =some (.cell c))/\s'.h[3]? =some (.cell (some (.ref m)))/\has s'.l "root" (.int 4)) ?_ ?_ ?_ ((ra_ rs).map (·.1)).length 0 _ (by omega) ?_
  ·intro i s2 Q2 ⟨a1,a2,a3,_⟩ hle u1 u2;exact W.nextD a3 a2 (ri_ rs) (fun e he=>u1 _ (by rw [List.getElem?_map,he];rfl)) fun hl=>u2 (by rw [List.length_map];exact hl)
  ·intro i v s2 ⟨a1,a2,a3,a4,⟨c0,a5⟩,a6,a7⟩ hv;have hv2:∃ r∈rs,v= .int r.place:=by
    have:=List.mem_of_getElem? hv;obtain ⟨e,he,rfl⟩:=List.mem_map.mp this;obtain ⟨r,hr,rfl⟩:=List.mem_map.mp he;exact ⟨r,hr,rfl⟩
   obtain ⟨r,hr,rfl⟩:=hv2;have hmF:m∈fb_ A0 m ns rs:=List.mem_append_right _ (by simp);have lm:=lF m hmF;have hm2:m≠2:=(hJ m hmF).2.1;refine W.own0 (W.asC rfl rfl (gb_ (by omega) a5) ?_);have kk:Keep [h7.length,2] s2.h ((s2.h.set h7.length (.itD m (i+1) (ra_ rs).length kR)).set 2 (.cell (some (.int r.place)))):=((Keep.refl _ _).set (.inl (by simp))).set (.inl (by simp));have X2:=a1.keep kk fun j hj hj2=>by
    have h1:=lF j hj;have h2:=(hJ j hj).2.1;simp only [List.mem_cons,List.not_mem_nil,or_false] at hj2;omega
   have b1:=kk.2 _ _ a4 (by simp;omega);have b2:=kk.2 _ _ a2 (by simp;omega);have b3:=kk.2 _ _ a6 (by simp;omega);have b4:((s2.h.set h7.length (.itD m (i+1) (ra_ rs).length kR)).set 2 (.cell (some (.int r.place))))[2]? =some (.cell (some (.int r.place))):=ge_ (gb_ (by omega) a5);have b5:((s2.h.set h7.length (.itD m (i+1) (ra_ rs).length kR)).set 2 (.cell (some (.int r.place))))[h7.length]? =some (.itD m (i+1) (ra_ rs).length kR):=gb_ (by omega) (ge_ a3);refine W.heap (h':=(s2.h.set h7.length (.itD m (i+1) (ra_ rs).length kR)).set 2 (.cell (some (.int r.place)))) rfl ?_;generalize ((s2.h.set h7.length (.itD m (i+1) (ra_ rs).length kR)).set 2 (.cell (some (.int r.place))))=h8 at X2 b1 b2 b3 b4 b5 ⊢;obtain ⟨nt2,zp2,R2⟩:=X2.rep;have hra:=ro_ I.rnd hr;obtain ⟨n,hn,en⟩:=I.nd_of hra;have hd13:=bnd13 hra;have hcl:=TR.climb 13 r.place (.inr ⟨r,hra⟩) hd13;obtain ⟨pa1,pa2,pa3,pa4⟩:=I.path TR 13 r.place r hra hd13 [];have hss:=short_sum (pd_ rs 13 r.place) fun x hx=>(gg_ x (pa3 x hx).1 (pa3 x hx).2).2.2.1;have hj:((pd_ rs 13 r.place).map (·.length)).sum+(pd_ rs 13 r.place).length<=1048576:=by omega
   have hpz:(Txt.join "/" (pd_ rs 13 r.place)).length<=80000:=by
    rw [txt_join];have:=StrLaws.join_length_le ⟨#[47]⟩ (pd_ rs 13 r.place);have e1:(⟨#[47]⟩:Str).length=1:=rfl;rw [e1] at this;omega
   refine W.stC (W.sIf (W.t_ rfl (W.cg_ (cells:=_) (fun c=>isIn ns 13 r.place c.place) (fun c=> .int c.place) rfl rfl rfl X2.rows (W.cI b3 ⟨rfl,rfl⟩) ?_ ?_ ?_)))
   ·intro c hc h lo hp hlo;refine W.test1 (W.ta_ rfl (W.cG (by rfl) ((W.cI (hp.get b1) (W.cI (hp.get b4) (W.lo hlo ⟨rfl,?_⟩))))));exact is_within_W (R2.on hp _) (I.climbN 13 _ hcl) fun h' p'=>W.p_ (fun _=>rfl) ⟨rfl,p',rfl⟩
   ·intro c hc hg h lo hp hlo;exact W.lo hlo ⟨rfl,Pre.refl _,rfl⟩
   ·intro h9 acc p9 ha hacc;refine W.cg_ (cells:=_) (fun c=>decide (c.place∈upR rs 13 r.place)) (fun c=> .int c.place) rfl rfl rfl (X2.rows.pre p9) (W.cI (p9.get b3) ⟨rfl,rfl⟩) ?_ ?_ ?_
    ·intro c hc h lo hp hlo;refine W.test1 (W.t_ rfl (W.lo hlo (W.cG (by rfl) ((W.cI (hp.get (p9.get b3)) (W.cI (hp.get (p9.get b4)) ⟨rfl,?_⟩))))));exact law_up_W ((X2.rows.pre p9).pre hp) hcl (by decide) fun h' r' p' hr' hl'=>W.inLL hl' ⟨rfl,p',rfl⟩
    ·intro c hc hg h lo hp hlo;exact W.lo hlo ⟨rfl,Pre.refl _,rfl⟩
    ·intro h10 acc2 p10 ha2 hacc2;have eg:(rs.filter fun c=>isIn ns 13 r.place c.place)=rs.filter fun c=>decide (c.place∈upR rs 13 r.place):=List.filter_congr fun c _=>I.inn 13 r.place c.place hcl;rw [eg] at hacc;have em:(rs.filter fun c=>decide (c.place∈upR rs 13 r.place)).map (fun c=>V.int c.place)=((rs.filter fun c=>decide (c.place∈upR rs 13 r.place)).map (·.place)).map V.int:=by rw [List.map_map];rfl
     rw [em] at hacc hacc2;refine W.neSame (p10.get hacc) hacc2 (fi_ _) (W.stN ?_);have g10:=p9.trans p10;refine W.stC (W.sIf (W.t_ rfl (W.it (W.cG (by rfl) ((W.lambdaX (cells:=_) rfl rfl fun hL pL eL=>⟨rfl,?_⟩))))));have gL:=g10.trans pL;refine lh_ (d:=59) eL (Qv:=fun _ _=>False) (Ec:=fun C h=>C=51/\Pre hL h) (fun lo=>?_) (fun v h hq=>hq.elim) (fun C h ⟨hC,hp⟩=>?_)
     ·refine W.lam eL rfl (W.cG (by rfl) ((W.cF (gL.get b1) (W.b_ (W.cG (by rfl) ((W.cF (gL.get b3) (W.cF (gL.get b4) ⟨rfl,?_⟩))))))));have en7:("/nothing" :Str).length=8:=by decide+kernel
      refine law_path_W (X2.rows.pre gL) hcl (by decide) hj fun h11 p11=>W.c_ rfl (W.addS (by rw [en7];omega) ⟨rfl,?_⟩);have hno:=I.nowhere hn4 hn pa3 pa2;refine find_dir_W (R2.on (gL.trans p11) _) (I.closed nk) hn4 ?_ (fun h12 c p12 hc=>?_) (fun h12 p12 hc=>⟨rfl,p11.trans p12⟩)
      ·show (Txt.join "/" (pd_ rs 13 r.place)++("/nothing" :Str)).cps.size<=90000;rw [Str.cps_append,Array.size_append];have z1:(Txt.join "/" (pd_ rs 13 r.place)).cps.size<=80000:=hpz;have z2:("/nothing" :Str).cps.size=8:=en7;omega
      ·rw [hno] at hc;cases hc
     subst hC;refine ⟨_,rfl,W.c_ rfl (W.itemT gn_ ⟨by decide,by decide⟩ rfl (W.c_ rfl (W.p_ (a:=!decide (("Missing" :Str)="Missing")) (fun _=>rfl) ?_)))⟩;rw [decide_eq_true rfl];have gE:Pre h8 (h++ [O.tup [.str "Missing",.int 0]]):=gL.trans (hp.trans (Pre.app _ _));exact W.stN (W.stN ⟨X2.pre gE,gE.get b2,gE.get b5,gE.get b1,⟨_,gE.get b4⟩,gE.get b3,a7⟩)
  ·intro s2 ⟨a1,a2,a3,a4,⟨c0,a5⟩,a6,a7⟩;have kk:Keep [h7.length] s2.h (s2.h.set h7.length .dead):=(Keep.refl _ _).set (.inl (by simp));have X2:=a1.keep kk fun j hj hj2=>by
    have h1:=lF j hj;simp only [List.mem_cons,List.not_mem_nil,or_false] at hj2;omega
   have b1:=kk.2 _ _ a4 (by simp;omega);have b3:=kk.2 _ _ a6 (by simp;omega);dsimp only;generalize (s2.h.set h7.length .dead)=h8 at X2 b1 b3 ⊢;obtain ⟨nt2,zp2,R2⟩:=X2.rep;refine W.stC (W.s_ (W.and (W.cG (by rfl) ((W.cI b1 (W.cI b3 (W.lo a7 ⟨rfl,?_⟩)))))));refine is_same_W (A:=A0) (d:=30) X2 I (by omega) fun h9 p9=>W.pure ?_;rw [if_pos rfl];refine W.bool1 (W.cmp1 rfl (W.it (W.cG (by rfl) ((W.lambdaX (cells:=_) rfl rfl fun hL pL eL=>⟨rfl,?_⟩)))));have gL:=p9.trans pL;refine lh_ (d:=59) eL (Qv:=fun _ _=>False) (Ec:=fun C h=>C=51/\Pre hL h) (fun lo=>?_) (fun v h hq=>hq.elim) (fun C h ⟨hC,hp⟩=>?_)
   ·refine W.lam eL rfl (W.cG (by rfl) ((W.cF (gL.get b1) (W.c_ rfl ⟨rfl,?_⟩))));have hno:=I.noab nk hn4;refine find_dir_W (R2.on gL _) (I.closed nk) hn4 (by decide+kernel) (fun h12 c p12 hc=>?_) (fun h12 p12 hc=>⟨rfl,p12⟩);rw [hno] at hc;cases hc
   subst hC;refine ⟨_,rfl,W.c_ rfl (W.itemT gn_ ⟨by decide,by decide⟩ rfl (W.c_ rfl (W.p_ (a:=decide (("Missing" :Str)="Missing")) (fun _=>rfl) ?_)))⟩;rw [decide_eq_true rfl]
  ·exact ⟨X1.pre (Pre.app _ _),ga_ eR,gn_,ga_ j1,⟨_,ga_ j2⟩,ga_ j3,i8⟩
 ·refine ⟨⟨4,_,_,X0.pre p6,inv0 z (m+1),fun j hj=>?_⟩,?_,p6.get q1,p6.get q2,p6.get q3,d6,rfl,rfl⟩
  ·have h1:=hJ0 j hj;have h2:=X0.len j hj;omega
  ·rw [i6];simp
theorem law_run2{xs:List Int}(hx:xs.length<=63){sc:Scope}{rest:List Stmt}(h:∃ fo fd s0,(Mine.hd.heap_39 w.params).lookup 518=some fo/\fo.data= .func fd/\fd.body= .stmts (s0::rest)/\fd.scope=sc):
  W (pg w) (fun F=>e_ (pg w).K F rest {scope:=sc,cells:=cellsL,d:=60,lq:=lqL,stm:=true}) (fun f _=>f= .ret (.bool true)) (fun _ _=>False) ⟨[.list (xs.map V.int),.cell none,.cell none,.cell none],[("script",.ref 0)]⟩:=by
 obtain ⟨fo,fd,s0,h1,h2,h3,rfl⟩:=h;exact law_run hx h1 h2 h3
end
theorem prim_ok{prog:Program}{G:Mine.Ground}:PrimOk prog G pr0:=fun _ _ _ _ _ _ _ _ _ _ _ h=>by cases h
theorem good_of{c:ClaimW}{cl:Str->Option Addr}{mean:ExcName->Option Value}{args:List WData}{s₁ r:Shared}(h1:∀ b o,s₁.heap.get? b=some o->r.heap.get? b=some o)(h2:r.gens= #[])(h3:r.os=s₁.os)
  (k1:∀ cls,c.raises args cls=false) (k2:c.post args (.bool true) args=true):GoodW c cl mean args s₁ (.ok (.ret (.bool true))) r:=
 ⟨.inl ⟨.bool true,.bool true,[],rfl,k1,.bool true,k2,fun _=>⟨List.nodup_nil,fun _ h=>by cases h⟩⟩,h1,h3,h2⟩
theorem grown4{h:Heap}(k:∀ q∈csL,GrownAt q.2.1 h):GrownAll [(486,484),(481,477),(474,470),(517,515)] h:=⟨k _ (.head _),k _ (.tail _ (.head _)),k _ (.tail _ (.tail _ (.head _))),k _ (.tail _ (.tail _ (.tail _ (.head _)))),trivial⟩
end
end Mine
set_option maxHeartbeats 8000000 in
theorem PySem.Challenge.cw_np0196_01_holds : PySem.Challenge.rw_np0196_01.Holds := by
  refine Mine.hd ?_
  k_go0
  iterate 11 (first | (k_unfold; (try dsimp only)) | walk1 | (dsimp only; walk1))
  dsimp only
  refine Mine.join4 (prims := Mine.pr0) 
    (P := Mine.prim_ok) (X := by assumption) (T := by assumption) (F := by assumption) (N := by assumption) (hws := by assumption) (by assumption) (by assumption) (by assumption) (by assumption)
    (Eq.trans (by assumption) (by rfl)) (Eq.trans (by assumption) (by rfl)) (Eq.trans (by assumption) (by rfl)) (by omega) (by omega) (if_pos rfl) (by assumption) rfl rfl (Mine.law_run2 (List.length_take_le _ _) ⟨_, _, _, rfl, rfl, rfl, rfl⟩) (fun r h1 h2 h3 h4 => ⟨Mine.good_of h1 h2 h3 (fun _ => rfl) ?_, Mine.grown4 h4⟩)
  first | wrow_post | kc_post
