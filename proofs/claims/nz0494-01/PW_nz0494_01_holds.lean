import PyProof.Rows.All
import Wide.All
import OpenK.AllK
import Wide.FinOn
import KE.KLam
import KE.KIsNot
import KE.KSliceW
import KE.KDictOf
import PyProof.ExcClass3
import PyProof.ExcBaseAll.Exception
import PyProof.InstStoreFacts
import PyProof.ExcArgs
import PyProof.RulesAs
import PyProof.Rows.CatchOwn
import PyProof.PassesOwn
import PyProof.MeetsDictList
import PyProof.RaisesDict
import PyProof.RulesDelMore
import PyProof.DelItemList
import KE.KPar
import KE.KNestM
import PySem.Challenge.RW_nz0494_01
set_option Elab.async false
set_option maxRecDepth 100000
set_option maxHeartbeats 8000000
set_option autoImplicit false
section
open PySem PySem.W PyProof.Rows
open_top nz_hd for PySem.Challenge.rw_nz0494_01
end
section
namespace Mine
theorem dF {p:Prop}[Decidable p](h:¬p):decide p=false:=decide_eq_false h
theorem dT {p:Prop}[Decidable p](h:p):decide p=true:=decide_eq_true h
open PySem
inductive T where
 |none | bool (b:Bool) | int (i:Int) | str (s:Str)
 |tup (ts:List T) | list (ts:List T) | dict (es:List (Str×T))
 |vec (kind:Str) (items:List T) (attrs:T)
 |null
 |range (a b:Int)
 |row | self
 deriving Inhabited,Repr
structure SelfSt where
 kind:Str
 items:List T
 attrs:Option (List (Str×T))
 ep:Nat
 deriving Inhabited,Repr
structure Sg where
 row:Option (List Int):=.none
 self:Option SelfSt:=.none
 deriving Inhabited,Repr
inductive Res (α:Type) where
 |ok (a:α) (s:Sg)
 |exn (m:Str) (s:Sg)
 |stuck
abbrev M (α:Type):=Sg→Res α
def M.bind {α β:Type}(m:M α)(f:α→M β):M β:=fun s=>match m s with
 |.ok a s'=>f a s'
 |.exn e s'=>.exn e s'
 |.stuck=>.stuck
def M.pure {α:Type}(a:α):M α:=fun s=>.ok a s
instance:Monad M where
 pure:=M.pure
 bind:=M.bind
def stuck {α:Type}:M α:=fun _=>.stuck
def Jc {α:Type}(m:Str):M α:=fun s=>.exn m s
def getS:M Sg:=fun s=>.ok s s
def setS (s:Sg):M Unit:=fun _=>.ok () s
inductive Kd where
 |val | own | ownIo | h
 deriving Inhabited,Repr,DecidableEq
structure Ev where
 loc:Str→Option T
 own:List (Str×T×Kd):=[]
 mv:List Str:=[]
 hot:Bool:=false
def upd (f:Str→Option T)(x:Str)(t:T):Str→Option T:=fun y=>if y=x then some t else f y
abbrev Calls:=Str→List T→M (T×Kd)
def Zl {α:Type}:Option α→M α
 |some a=>pure a
 |.none=>stuck
def val (t:T):M (T×Kd):=pure (t,.val)
def ownV (t:T):M (T×Kd):=pure (t,.own)
def Zgw:Const→Option T
 |.none=>some .none
 |.bool b=>some (.bool b)
 |.int i=>some (.int i)
 |.str s=>some (.str s)
 |_=>.none
def Zj (i:Int):Bool:=decide (i.natAbs < 1000000000000000000)
def Zc:Nat:=1000
def binT (op:Operator)(a b:T):Option (T×Kd):=
 match op,a,b with
 |.Add,.int x,.int y=>some (.int (x+y),.val)
 |.Sub,.int x,.int y=>some (.int (x - y),.val)
 |.Mult,.int x,.int y=>if Zj x then some (.int (x * y),.val) else none
 |.FloorDiv,.int x,.int y=>if decide (y=0)||decide (1073741824≤y.natAbs) then none else some (.int (Int.fdiv x y),.val)
 |.Mod,.int x,.int y=>if y=0 then none else some (.int (Int.fmod x y),.val)
 |.Pow,.int x,.int y=>if decide (0≤y)&&decide (y≤30)&&Zj x then some (.int (x ^ y.toNat),.val) else none
 |.Add,.str x,.str y=>if x.length+y.length≤Zc then some (.str (x++y),.val) else none
 |.Add,.list x,.list y=>if x.length+y.length≤Zc then some (.list (x++y),.own) else none
 |.Mult,.list [x],.int n=>if n≤Zc∧-9223372036854775808≤n then some (.list (List.replicate n.toNat x),.own) else none
 |_,_,_=>none
def Za2:T→Bool
 |.none=>true
 |_=>false
def eqTs (f:T→T→Option Bool):List T→List T→Option Bool
 |[],[]=>some true
 |a::r,b::s=>match f a b with
  |some true=>eqTs f r s
  |some false=>(match eqTs f r s with | some _=>some false | Option.none=>Option.none)
  |Option.none=>Option.none
 |_,_=>Option.none
def eqD (f:T→T→Option Bool):List (Str×T)→List (Str×T)→Option Bool
 |[],_=>some true
 |(k,a)::r,es=>match es.lookup k with
  |some b=>(match f a b with
   |some true=>eqD f r es
   |some false=>(match eqD f r es with | some _=>some false | Option.none=>Option.none)
   |Option.none=>Option.none)
  |Option.none=>some false
def eqT:Nat→T→T→Option Bool
 |0,_,_=>Option.none
 |n+1,a,b=>match a,b with
  |.none,.none=>some true
  |.bool a,.bool b=>some (a == b)
  |.int a,.int b=>some (decide (a=b))
  |.str a,.str b=>some (decide (a=b))
  |.list a,.list b=>if a.length=b.length then eqTs (eqT n) a b else some false
  |.tup a,.tup b=>if a.length=b.length then eqTs (eqT n) a b else Option.none
  |.dict a,.dict b=>if a.length=b.length then eqD (eqT n) a b else some false
  |.none,.str _=>some false
  |.none,.int _=>some false
  |.none,.list _=>some false
  |.str _,.none=>some false
  |.int _,.none=>some false
  |.list _,.none=>some false
  |.str _,.tup _=>some false
  |.tup _,.str _=>some false
  |.str _,.int _=>some false
  |.int _,.str _=>some false
  |.list _,.str _=>some false
  |.str _,.list _=>some false
  |_,_=>Option.none
def eqN:Nat:=9
def Q9:T→Bool
 |.str _=>true
 |.none=>true
 |.int _=>true
 |_=>false
def isK (k:Str):T→Bool
 |.str x=>decide (x=k)
 |_=>false
def inTs (x:T)(ts:List T):Option Bool:=match x with
 |.str k=>if ts.all Q9 then some (ts.any (isK k)) else none
 |.none=>if ts.all Q9 then some (ts.any Za2) else none
 |_=>none
def cmpT (op:CmpOp)(a b:T):Option Bool:=
 match op,a,b with
 |.Lt,.int x,.int y=>some (decide (x < y))
 |.LtE,.int x,.int y=>some (decide (x≤y))
 |.Gt,.int x,.int y=>some (decide (y < x))
 |.GtE,.int x,.int y=>some (decide (y≤x))
 |.Is,x,.none=>some (Za2 x)
 |.IsNot,x,.none=>some (!Za2 x)
 |.Eq,x,y=>eqT eqN x y
 |.NotEq,x,y=>(eqT eqN x y).map (!·)
 |.In,x,.list ts=>inTs x ts
 |.In,x,.tup ts=>inTs x ts
 |.In,.str k,.dict es=>some (es.lookup k).isSome
 |.NotIn,x,.list ts=>(inTs x ts).map (!·)
 |.NotIn,x,.tup ts=>(inTs x ts).map (!·)
 |.NotIn,.str k,.dict es=>some (!(es.lookup k).isSome)
 |_,_,_=>Option.none
def Zvq:Option (List (Str×T))→T
 |some es=>.dict es
 |.none=>.none
def cmpM (op:CmpOp)(a b:T):M T:=fun s=>
 match op,a,b with
 |.NotEq,.row,.list []=>match s.row with
  |some r=>.ok (.bool (!r.isEmpty)) s
  |none=>.stuck
 |op,a,b=>match cmpT op a b with
  |some r=>.ok (.bool r) s
  |none=>.stuck
def Zbb (v:T)(a:Str):M (T×Kd):=fun s=>
 match v with
 |.vec k its at'=>if a="kind" then .ok (.str k,.val) s else if a="items" then .ok (.list its,.val) s else if a="attrs" then .ok (at',.val) s else .stuck
 |.null=>if a="kind" then .ok (.str "NULL",.val) s else if a="attrs" then .ok (.none,.val) s else .stuck
 |.self=>match s.self with
  |some v=>if a="kind" then .ok (.str v.kind,.val) s else if a="items" then .ok (.list v.items,.val) s
    else if a="attrs" then (match v.attrs with | some es=>.ok (.dict es,.h) s | none=>.ok (.none,.val) s) else .stuck
  |none=>.stuck
 |_=>.stuck
def Ju (v i:T):M (T×Kd):=fun s=>
 match v,i with
 |.list ts,.int k=>if 0≤k then (match ts[k.toNat]? with | some t=>.ok (t,.val) s | none=>.stuck) else .stuck
 |.tup ts,.int k=>if 0≤k then (match ts[k.toNat]? with | some t=>.ok (t,.val) s | none=>.stuck) else .stuck
 |.dict es,.str k=>match es.lookup k with | some t=>.ok (t,.val) s | none=>.stuck
 |.str x,.int k=>if 0≤k∧k≤Zc then (match x.cps[k.toNat]? with | some c=>.ok (.str ⟨#[c]⟩,.val) s | none=>.stuck) else .stuck
 |_,_=>.stuck
def Zk8:Option T→Option (Option Nat)
 |.none=>some .none
 |some (.int k)=>if 0≤k then some (some k.toNat) else .none
 |_=>.none
def Zcp (v:T)(lo hi:Option Nat):Option (T×Kd):=
 match v with
 |.list ts=>some (.list ((ts.take (hi.getD ts.length)).drop (lo.getD 0)),.own)
 |.str x=>if lo.getD 0≤hi.getD x.length∧hi.getD x.length≤x.length∧x.length≤Zc then some (.str ⟨((x.cps.toList.drop (lo.getD 0)).take (hi.getD x.length - lo.getD 0)).toArray⟩,.val) else none
 |_=>none
def lenM (v:T):M T:=fun s=>
 match v with
 |.list ts=>.ok (.int ts.length) s
 |.tup ts=>.ok (.int ts.length) s
 |.dict es=>.ok (.int es.length) s
 |.str x=>if x.length≤Zc then .ok (.int x.length) s else .stuck
 |_=>.stuck
def Qa (a b:Int):List Int:=(List.range (b - a).toNat).map fun (i:Nat)=>a+(i:Int)
def Zg (i:Int):Str:=Str.ofString (toString i)
def Za1:T→Option (List T)
 |.list ts=>some ts
 |.tup ts=>some ts
 |.range a b=>if Zj a&&Zj b&&decide (b - a≤Zc) then some ((Qa a b).map .int) else none
 |.dict es=>some (es.map fun e=>.str e.1)
 |_=>none
def Qm (v:T):M (List T):=Zl (Za1 v)
def Zbv (x:Str)(n:Nat)(c:Nat):Str:=⟨(List.replicate (n - x.length) c++x.cps.toList).toArray⟩
def okM (v:T)(m:Str):Bool:=match v with
 |.row=>m="pop"
 |.dict _=>m="get"
 |.str _=>m="rjust"∨m="join"
 |_=>false
def Q8 (v:T)(m:Str)(as:List T):M (T×Kd):=fun s=>
 match v,as with
 |.row,[]=>if m="pop" then (match s.row with
   |some r=>(match r.getLast? with
    |some x=>.ok (.int x,.val) { s with row:=some r.dropLast }
    |none=>.stuck)
   |none=>.stuck) else .stuck
 |.dict es,[.str k]=>if m="get" then .ok ((es.lookup k).getD .none,.val) s else .stuck
 |.str x,[.int n,.str c]=>if m="rjust" then
   (match c.cps.toList with
    |[c]=>if n≤Zc∧0≤n then .ok (.str (Zbv x n.toNat c),.val) s else .stuck
    |_=>.stuck) else .stuck
 |.str x,[.list [.str y]]=>if m="join"∧x.length≤Zc∧y.length≤Zc then .ok (.str y,.val) s else .stuck
 |_,_=>.stuck
def Zap (f:Str)(as:List T):M (T×Kd):=
 match as with
 |[]=>stuck
 |[a]=>
  if f="str" then (match a with
   |.int i=>if Zj i then val (.str (Zg i)) else stuck
   |_=>stuck)
  else if f="list" then (match a with
   |.list ts=>ownV (.list ts)
   |.range a b=>if Zj a&&Zj b&&decide (b - a≤Zc) then ownV (.list ((Qa a b).map .int)) else stuck
   |_=>stuck)
  else if f="dict" then (match a with
   |.dict es=>ownV (.dict es)
   |_=>stuck)
  else if f="abs" then (match a with
   |.int i=>val (.int i.natAbs)
   |_=>stuck)
  else if f="range" then (match a with
   |.int n=>val (.range 0 n)
   |_=>stuck)
  else stuck
 |[a,b]=>
  if f="range" then (match a,b with
   |.int x,.int y=>val (.range x y)
   |_,_=>stuck)
  else if f="max" then (match a,b with
   |.int x,.int y=>val (.int (if x < y then y else x))
   |_,_=>stuck)
  else stuck
 |_=>stuck
def builtins:List Str:=["len","str","list","dict","abs","range","max"]
def Zjo:T→Option Bool
 |.vec ..=>some true
 |.self=>some true
 |.null=>some false
 |_=>none
def Zjq:T→Option Bool
 |.str _=>some true
 |.list _ | .dict _ | .vec .. | .self | .null=>some false
 |_=>none
def clsM (c:Str)(as:List (T×Kd)):M (T×Kd):=
 if c="Null" then (match as with | []=>val .null | _=>stuck)
 else (match as with
  |[(.str k,_),(.list ts,kd)]=>pure (.vec k ts .none,if kd=.own then .ownIo else .own)
  |[(.str k,_),(.list ts,_),(at',_)]=>pure (.vec k ts at',.own)
  |_=>stuck)
def Zf3 (s:Scope):List Str:=s.names.filterMap fun (n,k)=>if k=.free then some n else none
def Qv (s:Scope)(f:Str→Option T):Str→Option T:=fun y=>if y∈Zf3 s then f y else none
def peek (L:Ev)(x:Str):Option T:=match L.own.lookup x with
 |some p=>some p.1
 |none=>L.loc x
def Zpp {β:Type}(f:T→M β):List T→M (List β)
 |[]=>pure []
 |t::r=>do
  let b ←f t
  let bs ←Zpp f r
  pure (b::bs)
def dput (es:List (Str×T))(k:Str)(t:T):List (Str×T):=match es with
 |[]=>[(k,t)]
 |(k',t')::r=>if k'=k then (k',t)::r else (k',t')::dput r k t
def ddel (es:List (Str×T))(k:Str):List (Str×T):=match es with
 |[]=>[]
 |(k',t')::r=>if k'=k then r else (k',t')::ddel r k
def solid (t:T×Kd):M (T×Kd):=if t.2=.h then stuck else pure t
def tests (f:T→M Bool)(g:T→M (T×Kd)):List T→M (List T)
 |[]=>pure []
 |t::r=>do
  if ←f t then
   let b ←solid (←g t)
   let bs ←tests f g r
   pure (b.1::bs)
  else tests f g r
def Qx (f:T→M Bool)(k:T→M (T×Kd))(g:T→M (T×Kd))(es:List (Str×T)):List T→M (List (Str×T))
 |[]=>pure es
 |t::r=>do
  if ←f t then
   match ←k t with
   |(.str x,_)=>do
    let b ←solid (←g t)
    Qx f k g (dput es x b.1) r
   |_=>stuck
  else Qx f k g es r
def setEp (e:Nat)(s:Sg):Sg:={ s with self:=s.self.map fun v=>{ v with ep:=e } }
def still {α:Type}(k:Kd)(m:M α):M α:=fun s=>
 if k=.h then (match s.self with
  |some v=>(match m (setEp 0 s) with
   |.ok a s'=>(match s'.self with
    |some v'=>(match v'.ep with
     |0=>.ok a (setEp v.ep s')
     |_=>.stuck)
    |none=>.stuck)
   |_=>.stuck)
  |none=>.stuck)
 else m s
def Zby {α:Type}(m:M α):M α:=fun s=>match m s with
 |.exn _ _=>.stuck
 |r=>r
def quiet {α:Type}(k:Kd)(f:T→M α):T→M α:=fun t=>Zby (still k (f t))
def Q4 (m:M (T×Kd)):M (T×Kd):=fun s=>match m s with
 |.exn e s'=>.ok (.str e,.val) s'
 |.ok (t,k) s'=>if k=.h then .stuck else .ok (t,.val) s'
 |r=>r
def Zin:Expr→Option Str
 |.Name x _=>some x
 |_=>none
def Jj (L:Ev)(e:Expr)(whole:M (T×Kd)):M T:=
 match Zin e with
 |some x=>Zl (peek L x)
 |none=>do return (←whole).1
def Jy (L:Ev)(op:CmpOp)(e:Expr)(whole:M (T×Kd)):M T:=
 if op=.In then Jj L e whole else do return (←solid (←whole)).1
def cmpK (op:CmpOp)(a:T×Kd)(b:T):M T:=
 if a.2=.h then
  (match op,b with
   |.Is,.none=>pure (.bool false)
   |.IsNot,.none=>pure (.bool true)
   |_,_=>stuck)
 else cmpM op a.1 b
def Z2 (G:Calls)(f:Str)(ts:List (T×Kd)):M (T×Kd):=
 if f="Null"∨f="Vector" then clsM f ts
 else if f∈builtins then Zap f (ts.map (·.1))
 else G f (ts.map (·.1))
def Zcc (l:List T)(src:Kd)(f:T→M Bool)(g:T→M (T×Kd)):M (T×Kd):=do
 let r ←tests (quiet src f) (quiet src g) l
 ownV (.list r)
def Zcd (l:List T)(src:Kd)(f:T→M Bool)(k g:T→M (T×Kd)):M (T×Kd):=do
 let r ←Qx (quiet src f) (quiet src k) (quiet src g) [] l
 ownV (.dict r)
def inner (L:Ev)(sc:Scope)(x:Str)(t:T):Ev:={ loc:=upd (Qv sc L.loc) x t }
def negM (t:T×Kd):M (T×Kd):=match t with
 |(.int i,_)=>val (.int (-i))
 |_=>stuck
def fmtM (t:T×Kd):M (T×Kd):=match t with
 |(.int i,_)=>if Zj i then val (.str (Zg i)) else stuck
 |_=>stuck
def Za9 (t:T×Kd):M Bool:=match t with
 |(.bool b,_)=>pure b
 |_=>stuck
def strM (t:T×Kd):M Str:=match t with
 |(.str x,_)=>pure x
 |_=>stuck
def Zb3 (c:Str)(t:T):M (T×Kd):=
 if c="Vector" then do val (.bool (←Zl (Zjo t)))
 else if c="str" then do val (.bool (←Zl (Zjq t)))
 else stuck
def kvM:List (M Str)→List (M (T×Kd))→M (List (Str×T))
 |[],[]=>pure []
 |k::ks,v::vs=>do
  let x ←k
  let t ←solid (←v)
  let es ←kvM ks vs
  pure ((x,t.1)::es)
 |_,_=>stuck
def seqM:List (M (T×Kd))→M (List (T×Kd))
 |[]=>pure []
 |v::vs=>do
  let t ←solid (←v)
  let ts ←seqM vs
  pure (t::ts)
def Jp (G:Calls)(L:Ev)(f:Str)(as:List Expr)(vs:List (M (T×Kd))):M (T×Kd):=
 match as,vs with
 |[a],[va]=>if f="len" then do val (←lenM (←Jj L a va)) else do Z2 G f (←seqM [va])
 |[a,.Name c _],[va,vb]=>if f="isinstance" then do Zb3 c (←Jj L a va) else do Z2 G f (←seqM [va,vb])
 |_,vs=>do Z2 G f (←seqM vs)
def Zj4 (x:Str):Option T:=if x="MOST_LENGTH" then some (.int 1000000) else none
def Zbz (L:Ev)(x:Str):Option T:=match L.loc x with
 |some t=>some t
 |none=>Zj4 x
mutual
def Za (G:Calls)(L:Ev):Expr→M (T×Kd)
 |.Constant c _ _=>do val (←Zl (Zgw c))
 |.Name x _=>do val (←Zl (Zbz L x))
 |.BinOp l op r _=>do
  let a ←Za G L l
  let b ←Za G L r
  Zl (binT op a.1 b.1)
 |.UnaryOp .USub x _=>do negM (←Za G L x)
 |.IfExp t b o _=>do
  if ←evalT G L t (Za G L t) then Za G L b else Za G L o
 |.Compare l [op] [r] _=>do
  let a ←Za G L l
  let b ←Jy L op r (Za G L r)
  val (←cmpK op a b)
 |.Call (.Attribute o m _) as _ _=>do
  let v ←Za G L o
  if okM v.1 m then do
   let ts ←still v.2 (evalEs G L as)
   Q8 v.1 m (ts.map (·.1))
  else stuck
 |.Call (.Name f _) [.Lambda _ b sc _] _ _=>
  if f="_law_kept" then Q4 (Za G { loc:=Qv sc L.loc } b) else stuck
 |.Call (.Name f _) as _ _=>Jp G L f as (evalVs G L as)
 |.Attribute o a _=>do
  let v ←Za G L o
  Zbb v.1 a
 |.Subscript v (.Slice lo hi _ _) _=>do
  let t ←Za G L v
  let l ←evalB G L lo
  let h ←evalB G L hi
  Zl (Zcp t.1 l h)
 |.Subscript v i _=>do
  let t ←Za G L v
  let k ←still t.2 (Za G L i)
  Ju t.1 k.1
 |.List es _=>do
  let ts ←evalEs G L es
  ownV (.list (ts.map (·.1)))
 |.Tuple es _ _=>do
  let ts ←evalEs G L es
  val (.tup (ts.map (·.1)))
 |.Dict ks vs _=>do
  let es ←kvM (evalKs G L ks) (evalVs G L vs)
  if (es.map (·.1)).Nodup then ownV (.dict es) else stuck
 |.ListComp elt [⟨.Name x _,it,ifs,_⟩] sc _=>do
  let s ←Za G L it
  let l ←Qm s.1
  Zcc l s.2 (fun t=>evalTs G (inner L sc x t) ifs) (fun t=>Za G (inner L sc x t) elt)
 |.DictComp k v [⟨.Name x _,it,ifs,_⟩] sc _=>do
  let s ←Za G L it
  let l ←Qm s.1
  Zcd l s.2 (fun t=>evalTs G (inner L sc x t) ifs) (fun t=>Za G (inner L sc x t) k) (fun t=>Za G (inner L sc x t) v)
 |.JoinedStr vs _=>do
  val (.str (←evalJ G L vs Str.empty))
 |.FormattedValue v _ _ _=>do fmtM (←Za G L v)
 |_=>stuck
def evalT (G:Calls)(L:Ev):Expr→M (T×Kd)→M Bool
 |.UnaryOp .Not x _,_=>do return !(←evalT G L x (Za G L x))
 |.BoolOp .And vs _,_=>evalAnd G L vs
 |.BoolOp .Or vs _,_=>evalOr G L vs
 |_,whole=>do Za9 (←whole)
def evalAnd (G:Calls)(L:Ev):List Expr→M Bool
 |[]=>pure true
 |e::r=>do if ←evalT G L e (Za G L e) then evalAnd G L r else pure false
def evalOr (G:Calls)(L:Ev):List Expr→M Bool
 |[]=>pure false
 |e::r=>do if ←evalT G L e (Za G L e) then pure true else evalOr G L r
def evalTs (G:Calls)(L:Ev):List Expr→M Bool
 |[]=>pure true
 |e::r=>do if ←evalT G L e (Za G L e) then evalTs G L r else pure false
def evalB (G:Calls)(L:Ev):Option Expr→M (Option Nat)
 |none=>pure none
 |some e=>do
  let t ←Za G L e
  Zl (Zk8 (some t.1))
def evalEs (G:Calls)(L:Ev):List Expr→M (List (T×Kd))
 |[]=>pure []
 |e::r=>do
  let t ←solid (←Za G L e)
  let ts ←evalEs G L r
  pure (t::ts)
def Zkc (G:Calls)(L:Ev):Option Expr→M Str
 |none=>stuck
 |some e=>do strM (←Za G L e)
def evalKs (G:Calls)(L:Ev):List (Option Expr)→List (M Str)
 |[]=>[]
 |k::ks=>Zkc G L k::evalKs G L ks
def evalVs (G:Calls)(L:Ev):List Expr→List (M (T×Kd))
 |[]=>[]
 |v::vs=>Za G L v::evalVs G L vs
def evalJ (G:Calls)(L:Ev):List Expr→Str→M Str
 |[],out=>pure out
 |e::r,out=>do
  let x ←strM (←Za G L e)
  if (out++x).length≤Zc then evalJ G L r (out++x) else stuck
end
mutual
def occE (x:Str):Expr→Bool
 |.Name y _=>y=x
 |.Call (.Name f _) [.Name y _] _ _=>if f="len" then false else y=x
 |.Call f as _ _=>occE x f||occEs x as
 |.Compare l [op] [.Name y _] _=>occE x l||(if op=.In then false else y=x)
 |.Compare l _ rs _=>occE x l||occEs x rs
 |.BinOp l _ r _=>occE x l||occE x r
 |.BoolOp _ vs _=>occEs x vs
 |.UnaryOp _ e _=>occE x e
 |.IfExp a b c _=>occE x a||occE x b||occE x c
 |.Lambda _ b _ _=>occE x b
 |.Dict _ vs _=>occEs x vs
 |.List es _=>occEs x es
 |.Tuple es _ _=>occEs x es
 |.ListComp e gs _ _=>occE x e||occGs x gs
 |.DictComp k v gs _ _=>occE x k||occE x v||occGs x gs
 |.JoinedStr es _=>occEs x es
 |.FormattedValue e _ _ _=>occE x e
 |.Attribute e _ _=>occE x e
 |.Subscript e i _=>occE x e||occE x i
 |.Slice a b c _=>occO x a||occO x b||occO x c
 |_=>false
def occEs (x:Str):List Expr→Bool
 |[]=>false
 |e::r=>occE x e||occEs x r
def occO (x:Str):Option Expr→Bool
 |none=>false
 |some e=>occE x e
def occG (x:Str):Comprehension→Bool
 |⟨_,it,ifs,_⟩=>occE x it||occEs x ifs
def occGs (x:Str):List Comprehension→Bool
 |[]=>false
 |g::r=>occG x g||occGs x r
end
def settleGo (e:Expr):List (Str×T×Kd)→(Str→Option T)→(Str→Option T)×List (Str×T×Kd)
 |[],loc=>(loc,[])
 |(x,t,k)::r,loc=>
  let p:=settleGo e r loc
  if occE x e then (upd p.1 x t,p.2) else (p.1,(x,t,k)::p.2)
def settle (e:Expr)(L:Ev):Ev:=match L.own with
 |[]=>L
 |o=>{ L with loc:=(settleGo e o L.loc).1,own:=(settleGo e o L.loc).2 }
inductive Out where
 |next | cont | ret (t:T) (k:Kd)
 deriving Inhabited
def Q3 (x:Str)(o:List (Str×T×Kd)):List (Str×T×Kd):=o.filter fun p=>p.1≠x
def Ev.bindVal (L:Ev)(x:Str)(t:T):Ev:={ L with loc:=upd L.loc x t,own:=Q3 x L.own }
def Ev.bindOwn (L:Ev)(x:Str)(t:T)(k:Kd):Ev:={ L with loc:=fun y=>if y=x then none else L.loc y,own:=(x,t,k)::Q3 x L.own }
def Ev.putOwn (L:Ev)(x:Str)(t:T):Ev:={ L with own:=L.own.map fun p=>if p.1=x then (p.1,t,p.2.2) else p }
def Za3:List T→Option (List Int)
 |[]=>some []
 |.int i::r=>(Za3 r).map (i::·)
 |_=>none
def bindM (L:Ev)(x:Str)(t:T×Kd):M Ev:=fun s=>
 if L.hot&&(x="row":Bool) then
  (match t with
   |(.list ts,.own)=>(match Za3 ts with
    |some r=>if s.row.isNone∧r.length≤Zc then .ok (L.bindVal x .row) { s with row:=some r } else .stuck
    |none=>.stuck)
   |_=>.stuck)
 else if L.hot&&(x="v":Bool) then
  (match t with
   |(.vec k its .none,.own)=>if s.self.isNone then .ok (L.bindVal x .self) { s with self:=some ⟨k,its,none,0⟩ } else .stuck
   |(.vec k its .none,.ownIo)=>if s.self.isNone then .ok (L.bindVal x .self) { s with self:=some ⟨k,its,none,0⟩ } else .stuck
   |(.null,_)=>.ok (L.bindVal x .null) s
   |_=>.stuck)
 else if t.2≠.val∧x∈L.mv then .ok (L.bindOwn x t.1 t.2) s
 else .ok (L.bindVal x t.1) s
def Zb1 (t:T)(m:Str):Bool:=match t with
 |.list _=>m="append"∨m="reverse"
 |.dict _=>m="pop"
 |_=>false
def Zai (t:T)(m:Str)(as:List T):Option T:=
 match t,as with
 |.list ts,[a]=>if m="append"∧ts.length < 2000 then some (.list (ts++[a])) else none
 |.list ts,[]=>if m="reverse" then some (.list ts.reverse) else none
 |.dict es,[.str k,.none]=>if m="pop" then some (.dict (ddel es k)) else none
 |_,_=>none
def Jd (s:Sg)(v:SelfSt)(a:Option (List (Str×T))):Sg:={ s with self:=some { v with attrs:=a,ep:=v.ep+1 } }
def Zf7:T→Bool
 |.bool _=>true
 |_=>false
def augT (op:Operator)(a b:T):Option T:=match op,a,b with
 |.Add,.int x,.int y=>some (.int (x+y))
 |.Sub,.int x,.int y=>some (.int (x - y))
 |_,_,_=>none
def Qh (L:Ev)(x a:Str)(t:T×Kd):M Ev:=fun s=>
 match L.own.lookup x with
 |some (.vec k its _,_)=>(if a="attrs" then .ok (L.putOwn x (.vec k its t.1)) s else .stuck)
 |some _=>.stuck
 |none=>match L.loc x with
  |some .self=>(match s.self with
   |some v=>(if a="attrs" then
     (match t with
      |(.none,_)=>.ok L (Jd s v none)
      |(.dict es,.own)=>.ok L (Jd s v (some es))
      |_=>.stuck)
    else .stuck)
   |none=>.stuck)
  |some (.vec ..)=>if a="shared"∧Zf7 t.1=true then .ok L s else .stuck
  |_=>.stuck
def Zdp (L:Ev)(x:Str)(es:List (Str×T))(k t:T):M Ev:=match k with
 |.str k=>if es.length < Zc then pure (L.putOwn x (.dict (dput es k t))) else stuck
 |_=>stuck
def Jw:M Unit:=fun s=>match s.self with
 |some v=>(match v.attrs with
  |some _=>.ok () s
  |none=>.stuck)
 |none=>.stuck
def Zbs (L:Ev)(k t:T):M Ev:=fun s=>
 match k with
 |.str k=>(match s.self with
  |some v=>(match v.attrs with
   |some es=>if es.length < Zc then .ok L (Jd s v (some (dput es k t))) else .stuck
   |none=>.stuck)
  |none=>.stuck)
 |_=>.stuck
def Zca (L:Ev)(k:T):M Ev:=fun s=>
 match k with
 |.str k=>(match s.self with
  |some v=>(match v.attrs with
   |some es=>if (es.lookup k).isSome then .ok L (Jd s v (some (ddel es k))) else .stuck
   |none=>.stuck)
  |none=>.stuck)
 |_=>.stuck
def Zaj:List Expr→Option (List Str)
 |[]=>some []
 |.Name x _::r=>(Zaj r).map (x::·)
 |_=>none
def Zba (L:Ev):List Str→List T→Ev
 |x::xs,t::ts=>Zba (L.bindVal x t) xs ts
 |_,_=>L
def forL (x:Str)(f:Ev→M (Out×Ev)):List T→Ev→M (Out×Ev)
 |[],L=>pure (.next,L)
 |t::r,L=>do
  match ←f (L.bindVal x t) with
  |(.ret t k,L')=>pure (.ret t k,L')
  |(_,L')=>forL x f r L'
def J0 (e:Expr)(t:Ev→M Bool)(f:Ev→M (Out×Ev)):Nat→Ev→M (Out×Ev)
 |0,_=>stuck
 |n+1,L=>do
  if ←t (settle e L) then
   match ←f (settle e L) with
   |(.ret t k,L')=>pure (.ret t k,L')
   |(_,L')=>J0 e t f n L'
  else pure (.next,settle e L)
def Zbo:Nat:=40
def Zd4 (k:Kd):M Unit:=if k=.h then stuck else pure ()
mutual
def Zi (G:Calls):Stmt→Ev→M (Out×Ev)
 |.Expr (.Call (.Attribute (.Name x _) m _) as _ p) _,L=>
  match (settle (.Tuple as 0 p) L).own.lookup x with
  |some (t,_)=>if Zb1 t m then do
   let ts ←evalEs G (settle (.Tuple as 0 p) L) as
   let t ←Zl (Zai t m (ts.map (·.1)))
   pure (.next,(settle (.Tuple as 0 p) L).putOwn x t) else stuck
  |none=>stuck
 |.Expr (.Call (.Attribute (.Attribute (.Name x _) a _) m _) as _ p) _,L=>
  match (settle (.Tuple as 0 p) L).own.lookup x with
  |some (.vec k its at',.ownIo)=>if a="items"∧m="append"∧its.length < Zc then do
   let ts ←evalEs G (settle (.Tuple as 0 p) L) as
   match ts.map (·.1) with
   |[t]=>pure (.next,(settle (.Tuple as 0 p) L).putOwn x (.vec k (its++[t]) at'))
   |_=>stuck
   else stuck
  |_=>stuck
 |.Expr e _,L=>do
  let _ ←Za G (settle e L) e
  pure (.next,settle e L)
 |.Pass _,L=>pure (.next,L)
 |.Continue _,L=>pure (.cont,L)
 |.Return none _,L=>pure (.ret .none .val,L)
 |.Return (some (.Name x p)) _,L=>
  match L.own.lookup x with
  |some (t,k)=>pure (.ret t k,L)
  |none=>do
   let t ←Za G L (.Name x p)
   pure (.ret t.1 t.2,L)
 |.Return (some e) _,L=>do
  let t ←solid (←Za G (settle e L) e)
  pure (.ret t.1 t.2,settle e L)
 |.Assign [.Name x _] v _,L=>do
  let t ←solid (←Za G (settle v L) v)
  let L' ←bindM (settle v L) x t
  pure (.next,L')
 |.Assign [.Attribute (.Name x _) a _] v _,L=>if a="attrs"∨a="shared" then do
  let t ←solid (←Za G (settle v L) v)
  let L' ←Qh (settle v L) x a t
  pure (.next,L') else stuck
 |.Assign [.Subscript (.Name x _) i _] v p,L=>
  match (settle (.Tuple [v,i] 0 p) L).own.lookup x with
  |some (.dict es,_)=>do
   let t ←solid (←Za G (settle (.Tuple [v,i] 0 p) L) v)
   let k ←Za G (settle (.Tuple [v,i] 0 p) L) i
   let L' ←Zdp (settle (.Tuple [v,i] 0 p) L) x es k.1 t.1
   pure (.next,L')
  |_=>stuck
 |.Assign [.Subscript (.Attribute (.Name x _) a _) i _] v p,L=>
  match L.loc x with
  |some .self=>if a="attrs" then do
   let t ←solid (←Za G (settle (.Tuple [v,i] 0 p) L) v)
   Jw
   let k ←still .h (Za G (settle (.Tuple [v,i] 0 p) L) i)
   let L' ←Zbs (settle (.Tuple [v,i] 0 p) L) k.1 t.1
   pure (.next,L') else stuck
  |_=>stuck
 |.Assign [.Tuple ns _ _] v _,L=>do
  let xs ←Zl (Zaj ns)
  match ←Za G (settle v L) v with
  |(.tup ts,_)=>if ts.length=xs.length then pure (.next,Zba (settle v L) xs ts) else stuck
  |_=>stuck
 |.AugAssign (.Name x _) op v _,L=>do
  let a ←Zl (L.loc x)
  let b ←Za G (settle v L) v
  let c ←Zl (augT op a b.1)
  pure (.next,(settle v L).bindVal x c)
 |.Delete [.Subscript (.Attribute (.Name x _) a _) i _] _,L=>
  match L.loc x with
  |some .self=>if a="attrs" then do
   Jw
   let k ←still .h (Za G (settle i L) i)
   let L' ←Zca (settle i L) k.1
   pure (.next,L') else stuck
  |_=>stuck
 |.If t b o _,L=>do
  if ←evalT G (settle t L) t (Za G (settle t L) t) then execSs G b (settle t L) else execSs G o (settle t L)
 |.For (.Name x _) it b [] _,L=>do
  let s ←Za G (settle it L) it
  Zd4 s.2
  let l ←Qm s.1
  let r ←forL x (fun L=>execSs G b L) l (settle it L)
  match r with
  |(.cont,L')=>pure (.next,L')
  |r=>pure r
 |.While t b [] _,L=>
  J0 t (fun L=>evalT G L t (Za G L t)) (fun L=>execSs G b L) Zbo L
 |.Raise (some (.Call (.Name c _) [e] _ _)) none _,L=>
  if c="Refusal" then do
   let x ←strM (←Za G (settle e L) e)
   Jc x
  else stuck
 |_,_=>stuck
def execSs (G:Calls):List Stmt→Ev→M (Out×Ev)
 |[],L=>pure (.next,L)
 |s::r,L=>do
  match ←Zi G s L with
  |(.next,L')=>execSs G r L'
  |o=>pure o
end
mutual
def Zpi:Stmt→List Str
 |.Expr (.Call (.Attribute (.Name x _) m _) _ _ _) _=>if m∈(["append","reverse","pop"]:List Str) then [x] else []
 |.Expr (.Call (.Attribute (.Attribute (.Name x _) a _) m _) _ _ _) _=>if a="items"∧m="append" then [x] else []
 |.Assign [.Attribute (.Name x _) a _] _ _=>if a="attrs" then [x] else []
 |.Assign [.Subscript (.Name x _) _ _] _ _=>[x]
 |.If _ b o _=>mutsSs b++mutsSs o
 |.For _ _ b _ _=>mutsSs b
 |.While _ b _ _=>mutsSs b
 |_=>[]
def mutsSs:List Stmt→List Str
 |[]=>[]
 |s::r=>Zpi s++mutsSs r
end
structure Fn where
 params:List Str
 body:List Stmt
def fnOf? (n:Str):Stmt→Option Fn
 |.FunctionDef m a b ..=>if m=n then some ⟨a.args.map (·.arg),b⟩ else none
 |_=>none
def fnOf (n:Str):Option Fn:=PySem.Challenge.pw_nz0494_01.main.body.findSome? (fnOf? n)
def Jz:List Str→List T→Str→Option T
 |x::xs,t::ts=>upd (Jz xs ts) x t
 |_,_=>fun _=>none
def outT:Out→M (T×Kd)
 |.next=>val .none
 |.ret t k=>pure (t,k)
 |.cont=>stuck
def Zbd (G:Calls)(hot:Bool)(fn:Fn)(as:List T):M (T×Kd):=
 if fn.params.length=as.length then do
  let r ←execSs G fn.body { loc:=Jz fn.params as,mv:=mutsSs fn.body,hot:=hot }
  outT r.1
 else stuck
def Zd:Nat→Calls
 |0=>fun _ _=>stuck
 |d+1=>fun f as=>match fnOf f with
  |some fn=>Zbd (Zd d) (decide (f="law")) fn as
  |none=>stuck
def Zdv (script:List Int):Res (T×Kd):=Zd 30 "law" [.list (script.map .int)] {}
end Mine
end
section
namespace Mine
open PySem PySem.W PyProof.Rows
structure Gh where
 obj:Addr→Option Obj
 idc:Addr→Option (Value×Value×Value)
 moves:Addr→Prop
 row:Option Addr
 self:Option (Addr×Addr)
 tab:Addr
structure Cx where
 w:World
 base:Heap
 mg:Str→Option Value
 mb:Str→Option Value
 vec:Addr
 nul:Addr
 exc:Addr
 K:Frag
 lamPos:Pos
 lamQual:Str
 code:Addr
 tab:Addr
def Cx.H (c:Cx)(x:Str):Int:=PyData.keyHash c.w.params x
abbrev Zn (ds:List DictEntry)(n:Nat):Obj:={ cls:=.type "dict",data:=.dict ds.toArray n }
abbrev Zt (vs:List Value)(n:Nat):Obj:={ cls:=.type "list",data:=.seq vs.toArray n }
abbrev Zdm (vs:List Value)(n:Nat):Obj:={ cls:=.type "tuple",data:=.seq vs.toArray n }
def Za5 (c:Cx)(ik ii ia:Value)(sh:Bool)(t1 t2 t3 t4 t5:Tok):List DictEntry:=
 [⟨c.H "kind",.str "kind" t1,ik⟩,⟨c.H "items",.str "items" t2,ii⟩,⟨c.H "attrs",.str "attrs" t3,ia⟩,⟨c.H "shared",.str "shared" t4,.bool sh⟩,⟨c.H "loose",.str "loose" t5,.bool false⟩]
def IDict (c:Cx)(h:Heap)(d:Addr)(x:Value×Value×Value):Prop:=
 ∃sh t1 t2 t3 t4 t5 n,h.get? d=some (Zn (Za5 c x.1 x.2.1 x.2.2 sh t1 t2 t3 t4 t5) n)
def Ze1 (c:Cx)(o:Obj):Prop:=∃t1 t2 t3 n,o=Zn [⟨c.H "kind",.str "kind" t1,.str "NULL" t3⟩,⟨c.H "attrs",.str "attrs" t2,.none⟩] n
mutual
def Rep (c:Cx)(G:Gh):T→Value→Prop
 |.none,v=>v=.none
 |.bool b,v=>v=.bool b
 |.int i,v=>∃t,v=.int i t
 |.str x,v=>∃t,v=.str x t
 |.tup ts,v=>∃a vs n,v=.ref a∧G.obj a=some (Zdm vs n)∧vs.length≤sizeLine∧RepL c G ts vs
 |.list ts,v=>∃a vs n,v=.ref a∧G.obj a=some (Zt vs n)∧vs.length≤sizeLine∧RepL c G ts vs
 |.dict es,v=>∃a ds n,v=.ref a∧(a == sysModules)=false∧G.obj a=some (Zn ds n)∧ds.length≤sizeLine∧(es.map (·.1)).Nodup∧RepD c G es ds
 |.vec k its at',v=>∃a d ik ii ia b vs n,v=.ref a∧G.obj a=some (instObj c.vec d)∧G.idc d=some (ik,ii,ia)∧(∃t,ik=.str k t)∧
   (ii=.ref b∧G.obj b=some (Zt vs n)∧vs.length≤sizeLine∧RepL c G its vs)∧Rep c G at' ia
 |.null,v=>∃a d o,v=.ref a∧G.obj a=some (instObj c.nul d)∧G.obj d=some o∧Ze1 c o
 |.range a b,v=>∃r o,v=.ref r∧G.obj r=some o∧∃t u x,o={ cls:=.type "range",data:=.fields #[.int a t,.int b u,.int 1 x] }
 |.row,v=>∃a,v=.ref a∧G.row=some a
 |.self,v=>∃a d,v=.ref a∧G.self=some (a,d)
def RepL (c:Cx)(G:Gh):List T→List Value→Prop
 |[],vs=>vs=[]
 |t::ts,vs=>∃v r,vs=v::r∧Rep c G t v∧RepL c G ts r
def RepD (c:Cx)(G:Gh):List (Str×T)→List DictEntry→Prop
 |[],ds=>ds=[]
 |(k,t)::r,ds=>∃v tk ds',ds=⟨c.H k,.str k tk,v⟩::ds'∧Rep c G t v∧RepD c G r ds'
end
structure Gh.Le (G G':Gh):Prop where
 obj:∀a o,G.obj a=some o→G'.obj a=some o
 idc:∀a o,G.idc a=some o→G'.idc a=some o
 moves:∀a,G.moves a→G'.moves a
 row:∀a,G.row=some a→G'.row=some a
 self:∀a,G.self=some a→G'.self=some a
 tab:G'.tab=G.tab
theorem Gh.Le.refl (G:Gh):G.Le G:=⟨fun _ _ e=>e,fun _ _ e=>e,fun _ e=>e,fun _ e=>e,fun _ e=>e,rfl⟩
theorem Gh.Le.trans {G₁ G₂ G₃:Gh}(x:G₁.Le G₂)(y:G₂.Le G₃):G₁.Le G₃:=
 ⟨fun a o e=>y.obj a o (x.obj a o e),fun a o e=>y.idc a o (x.idc a o e),fun a e=>y.moves a (x.moves a e),fun a e=>y.row a (x.row a e),fun a e=>y.self a (x.self a e),y.tab.trans x.tab⟩
section
variable {c:Cx}{G G':Gh}
mutual
theorem Rep.mono (l:G.Le G'):∀(t:T) (v:Value),Rep c G t v→Rep c G' t v
 |.none,_,h=>by simpa [Rep] using h
 |.bool b,_,h=>by simpa [Rep] using h
 |.int i,_,h=>by simpa [Rep] using h
 |.str x,_,h=>by simpa [Rep] using h
 |.tup ts,_,h=>by
  unfold Rep at h ⊢;obtain ⟨a,vs,n,h1,h2,h5,h6⟩:=h;exact ⟨a,vs,n,h1,l.obj _ _ h2,h5,RepL.mono l ts vs h6⟩
 |.list ts,_,h=>by
  unfold Rep at h ⊢;obtain ⟨a,vs,n,h1,h2,h5,h6⟩:=h;exact ⟨a,vs,n,h1,l.obj _ _ h2,h5,RepL.mono l ts vs h6⟩
 |.dict es,_,h=>by
  unfold Rep at h ⊢;obtain ⟨a,ds,n,h1,h0,h2,h3,hn,h4⟩:=h;exact ⟨a,ds,n,h1,h0,l.obj _ _ h2,h3,hn,RepD.mono l es ds h4⟩
 |.vec k its at',_,h=>by
  unfold Rep at h ⊢;obtain ⟨a,d,ik,ii,ia,b,vs,n,h1,h2,h3,h4,⟨h5,h6,h9,h10⟩,h11⟩:=h;exact ⟨a,d,ik,ii,ia,b,vs,n,h1,l.obj _ _ h2,l.idc _ _ h3,h4,⟨h5,l.obj _ _ h6,h9,RepL.mono l its vs h10⟩,Rep.mono l at' ia h11⟩
 |.null,_,h=>by
  unfold Rep at h ⊢;obtain ⟨a,d,o,h1,h2,h3,h4⟩:=h;exact ⟨a,d,o,h1,l.obj _ _ h2,l.obj _ _ h3,h4⟩
 |.range a b,_,h=>by
  unfold Rep at h ⊢;obtain ⟨r,o,h1,h2,h3⟩:=h;exact ⟨r,o,h1,l.obj _ _ h2,h3⟩
 |.row,_,h=>by
  unfold Rep at h ⊢;obtain ⟨a,h1,h2⟩:=h;exact ⟨a,h1,l.row _ h2⟩
 |.self,_,h=>by
  unfold Rep at h ⊢;obtain ⟨a,d,h1,h2⟩:=h;exact ⟨a,d,h1,l.self _ h2⟩
theorem RepL.mono (l:G.Le G'):∀(ts:List T) (vs:List Value),RepL c G ts vs→RepL c G' ts vs
 |[],_,h=>by simpa [RepL] using h
 |t::ts,_,h=>by
  unfold RepL at h ⊢;obtain ⟨v,r,h1,h2,h3⟩:=h;exact ⟨v,r,h1,Rep.mono l t v h2,RepL.mono l ts r h3⟩
theorem RepD.mono (l:G.Le G'):∀(es:List (Str×T)) (ds:List DictEntry),RepD c G es ds→RepD c G' es ds
 |[],_,h=>by simpa [RepD] using h
 |(k,t)::es,_,h=>by
  unfold RepD at h ⊢;obtain ⟨v,tk,r,h1,h2,h3⟩:=h;exact ⟨v,tk,r,h1,Rep.mono l t v h2,RepD.mono l es r h3⟩
end
theorem RepL.length:∀{ts:List T} {vs:List Value},RepL c G ts vs→vs.length=ts.length
 |[],_,h=>by unfold RepL at h;subst h;rfl
 |_::ts,_,h=>by
  unfold RepL at h;obtain ⟨v,r,rfl,_,h3⟩:=h;simp [RepL.length h3]
theorem RepD.length:∀{es:List (Str×T)} {ds:List DictEntry},RepD c G es ds→ds.length=es.length
 |[],_,h=>by unfold RepD at h;subst h;rfl
 |(_,_)::es,_,h=>by
  unfold RepD at h;obtain ⟨v,tk,r,rfl,_,h3⟩:=h;simp [RepD.length h3]
theorem RepL.get:∀{ts:List T} {vs:List Value} {i:Nat} {t:T},RepL c G ts vs→ts[i]?=some t→∃v,vs[i]?=some v∧Rep c G t v
 |[],_,_,_,_,e=>by simp at e
 |t::ts,_,i,t',h,e=>by
  unfold RepL at h;obtain ⟨v,r,rfl,h2,h3⟩:=h
  cases i with
  |zero=>simp at e;subst e;exact ⟨v,rfl,h2⟩
  |succ i=>
   simp at e;obtain ⟨w,h4,h5⟩:=RepL.get h3 e;exact ⟨w,by simpa using h4,h5⟩
theorem RepL.append:∀{ts us:List T} {vs ws:List Value},RepL c G ts vs→RepL c G us ws→RepL c G (ts++us) (vs++ws)
 |[],_,_,_,h,h'=>by unfold RepL at h;subst h;exact h'
 |t::ts,us,_,ws,h,h'=>by
  unfold RepL at h;obtain ⟨v,r,rfl,h2,h3⟩:=h;show RepL c G (t::(ts++us)) (v::(r++ws));unfold RepL;exact ⟨v,r++ws,rfl,h2,RepL.append h3 h'⟩
theorem RepL.one {t:T}{v:Value}(h:Rep c G t v):RepL c G [t] [v]:=by
 unfold RepL;exact ⟨v,[],rfl,h,by unfold RepL;rfl⟩
theorem RepL.nil:RepL c G [] []:=by unfold RepL;rfl
theorem RepL.cons {t:T}{v:Value}{ts:List T}{vs:List Value}(h:Rep c G t v)(h':RepL c G ts vs):RepL c G (t::ts) (v::vs):=by
 unfold RepL;exact ⟨v,vs,rfl,h,h'⟩
theorem RepD.nil:RepD c G [] []:=by unfold RepD;rfl
theorem RepD.cons {k:Str}{tk:Tok}{t:T}{v:Value}{es:List (Str×T)}{ds:List DictEntry}(h:Rep c G t v)(h':RepD c G es ds):RepD c G ((k,t)::es) (⟨c.H k,.str k tk,v⟩::ds):=by
 unfold RepD;exact ⟨v,tk,ds,rfl,h,h'⟩
end
def Loose (G:Gh)(a:Addr):Prop:=G.obj a=none∧G.idc a=none∧¬G.moves a
def AttrsOk (c:Cx)(G:Gh)(h:Heap)(d:Addr)(at':Option (List (Str×T)))(ia:Value):Prop:=match at' with
 |none=>ia=.none
 |some es=>∃D ds n,ia=.ref D∧(D == sysModules)=false∧G.moves D∧D≠d∧h.get? D=some (Zn ds n)∧ds.length≤sizeLine∧(es.map (·.1)).Nodup∧RepD c G es ds
def SelfOk (c:Cx)(G:Gh)(h:Heap)(v:SelfSt):Prop:=
 ∃a d ik ii ia t,G.self=some (a,d)∧G.obj a=some (instObj c.vec d)∧G.moves d∧IDict c h d (ik,ii,ia)∧ik=.str v.kind t∧Rep c G (.list v.items) ii∧AttrsOk c G h d v.attrs ia
def RowOk (G:Gh)(h:Heap)(ns:List Int):Prop:=
 ∃r vs n,G.row=some r∧G.moves r∧h.get? r=some (Zt vs n)∧IntsAre vs ns∧ns.length≤100000
def TabOk (c:Cx)(G:Gh)(h:Heap):Prop:=
 (G.moves G.tab∧G.tab=c.tab)∧∃ps,h.get? G.tab=some (tabObj ps)∧TriplesOk ps.toList∧(codeAmong c.lamPos ps.toList=none∨∃a o vs t,codeAmong c.lamPos ps.toList=some (.ref a)∧G.obj a=some o∧o.data=.fields vs∧vs[1]?=some (.str c.lamQual t))
structure St (c:Cx) (G:Gh) (σ:Sg) (h:Heap):Prop where
 base:∀a o,c.base.get? a=some o→G.obj a=some o
 obj:∀a o,G.obj a=some o→h.get? a=some o
 idc:∀d x,G.idc d=some x→IDict c h d x
 apart:∀a,G.moves a→G.obj a=none∧G.idc a=none∧∃o,h.get? a=some o
 apart2:∀a x,G.idc a=some x→G.obj a=none
 row:match σ.row with | none=>G.row=none | some ns=>RowOk G h ns
 self:match σ.self with | none=>G.self=none | some v=>SelfOk c G h v
 tab:TabOk c G h
def frs (A:Around):List Addr:=(A.frames.getD []).filterMap (·.frame)
structure FrOk (A:Around) (G:Gh) (h:Heap):Prop where
 ok:∃l,A.frames=some l∧∀e∈l,e.scope.kind≠.module∧∃F o,e.frame=some F∧h.get? F=some o∧(∀vs,o.data≠.fields vs)∧Loose G F
 handled:A.handled=none
structure Step (fr:List Addr) (G:Gh) (σ:Sg) (h:Heap) (G':Gh) (σ':Sg) (h':Heap):Prop where
 le:G.Le G'
 alive:∀b o,h.get? b=some o→∃o',h'.get? b=some o'
 keep:∀b o,h.get? b=some o→¬G.moves b→G.idc b=none→b∉fr→h'.get? b=some o
 frames:∀b o,b∈fr→h.get? b=some o→Loose G b→∃sl,h'.get? b=some { o with slots:=sl }
 old:∀b o,h.get? b=some o→G'.obj b=G.obj b∧G'.idc b=G.idc b∧(G'.moves b→G.moves b)
 rowNew:∀r,G'.row=some r→G.row=some r∨h.get? r=none
 still:∀v v',σ.self=some v→σ'.self=some v'→v'.ep=v.ep→v'=v∧∀b,G.moves b→G.row≠some b→b≠G.tab→h'.get? b=h.get? b
 mono:∀v,σ.self=some v→∃v',σ'.self=some v'∧v.ep≤v'.ep
theorem Loose.old {fr:List Addr}{G G':Gh}{σ σ':Sg}{h h':Heap}(x:Step fr G σ h G' σ' h'){b:Addr}{o:Obj}(e:h.get? b=some o)(l:Loose G b):Loose G' b:=by
 obtain ⟨h1,h2,h3⟩:=x.old b o e;exact ⟨h1.trans l.1,h2.trans l.2.1,fun q=>l.2.2 (h3 q)⟩
theorem Step.refl (fr:List Addr)(G:Gh)(σ:Sg)(h:Heap):Step fr G σ h G σ h:=
 ⟨.refl G,fun _ o e=>⟨o,e⟩,fun _ _ e _ _ _=>e,fun _ o _ e _=>⟨o.slots,e⟩,fun _ _ _=>⟨rfl,rfl,id⟩,fun _ e=>.inl e,
  fun v v' e e' _=>⟨by rw [e] at e';exact (Option.some.inj e').symm,fun _ _ _ _=>rfl⟩,fun v e=>⟨v,e,Nat.le_refl _⟩⟩
section
variable {c:Cx}{fr:List Addr}{G G₁ G₂:Gh}{σ σ₁ σ₂:Sg}{h h₁ h₂:Heap}
theorem Step.trans (S:St c G σ h)(x:Step fr G σ h G₁ σ₁ h₁)(y:Step fr G₁ σ₁ h₁ G₂ σ₂ h₂):Step fr G σ h G₂ σ₂ h₂:=by
 refine ⟨x.le.trans y.le,fun b o e=>?_,fun b o e hm hi hf=>?_,fun b o hb e l=>?_,fun b o e=>?_,fun r e=>?_,fun v v₂ e e₂ q=>?_,fun v e=>?_⟩
 ·obtain ⟨o',e'⟩:=x.alive b o e;exact y.alive b o' e'
 ·have e':=x.keep b o e hm hi hf;obtain ⟨_,h2,h3⟩:=x.old b o e;exact y.keep b o e' (fun q=>hm (h3 q)) (h2.trans hi) hf
 ·obtain ⟨sl,e'⟩:=x.frames b o hb e l;obtain ⟨sl',e''⟩:=y.frames b _ hb e' (l.old x e);exact ⟨sl',e''⟩
 ·obtain ⟨o',e'⟩:=x.alive b o e;obtain ⟨a1,a2,a3⟩:=x.old b o e;obtain ⟨b1,b2,b3⟩:=y.old b o' e';exact ⟨b1.trans a1,b2.trans a2,fun q=>a3 (b3 q)⟩
 ·rcases y.rowNew r e with q | q
  ·exact x.rowNew r q
  ·right
   cases hr:h.get? r with
   |none=>rfl
   |some o=>obtain ⟨o',e'⟩:=x.alive r o hr;rw [q] at e';cases e'
 ·obtain ⟨v₁,e₁,l₁⟩:=x.mono v e;obtain ⟨v₂',e₂',l₂⟩:=y.mono v₁ e₁;rw [e₂] at e₂';cases e₂';have q₁:v₁.ep=v.ep:=by omega
  have q₂:v₂.ep=v₁.ep:=by omega
  obtain ⟨a1,a2⟩:=x.still v v₁ e e₁ q₁;obtain ⟨b1,b2⟩:=y.still v₁ v₂ e₁ e₂ q₂;refine ⟨b1.trans a1,fun b hm hr ht=>?_⟩;rw [b2 b (x.le.moves b hm) (fun q=>?_) (fun q=>ht (q.trans x.le.tab)),a2 b hm hr ht];rcases x.rowNew b q with q | q
  ·exact hr q
  ·obtain ⟨_,_,o,e⟩:=S.apart b hm;rw [q] at e;cases e
 ·obtain ⟨v₁,e₁,l₁⟩:=x.mono v e;obtain ⟨v₂,e₂,l₂⟩:=y.mono v₁ e₁;exact ⟨v₂,e₂,Nat.le_trans l₁ l₂⟩
theorem RowOk.keeps {ns:List Int}(x:RowOk G h ns)(k:∀b o,h.get? b=some o→h₁.get? b=some o):RowOk G h₁ ns:=by
 obtain ⟨r,vs,n,a1,a2,a3,a5⟩:=x;exact ⟨r,vs,n,a1,a2,k _ _ a3,a5⟩
theorem IDict.keeps {d:Addr}{x:Value×Value×Value}(y:IDict c h d x)(k:∀b o,h.get? b=some o→h₁.get? b=some o):IDict c h₁ d x:=by
 obtain ⟨sh,t1,t2,t3,t4,t5,n,e⟩:=y;exact ⟨sh,t1,t2,t3,t4,t5,n,k _ _ e⟩
theorem AttrsOk.keeps {d:Addr}{at':Option (List (Str×T))}{ia:Value}(y:AttrsOk c G h d at' ia)(k:∀b o,h.get? b=some o→h₁.get? b=some o):AttrsOk c G h₁ d at' ia:=by
 cases at' with
 |none=>exact y
 |some es=>
  obtain ⟨D,ds,n,a1,a0,a2,a3,a4,a5⟩:=y;exact ⟨D,ds,n,a1,a0,a2,a3,k _ _ a4,a5⟩
theorem AttrsOk.mono {d:Addr}{at':Option (List (Str×T))}{ia:Value}(y:AttrsOk c G h d at' ia)(l:G.Le G₁):AttrsOk c G₁ h d at' ia:=by
 cases at' with
 |none=>exact y
 |some es=>
  obtain ⟨D,ds,n,a1,a0,a2,a3,a4,a5,an,a6⟩:=y;exact ⟨D,ds,n,a1,a0,l.moves _ a2,a3,a4,a5,an,RepD.mono l _ _ a6⟩
theorem SelfOk.keeps {v:SelfSt}(x:SelfOk c G h v)(k:∀b o,h.get? b=some o→h₁.get? b=some o):SelfOk c G h₁ v:=by
 obtain ⟨a,d,ik,ii,ia,t,a1,a2,a3,a4,a5,a6,a7⟩:=x;exact ⟨a,d,ik,ii,ia,t,a1,a2,a3,a4.keeps k,a5,a6,a7.keeps k⟩
theorem TabOk.keeps (x:TabOk c G h)(k:∀b o,h.get? b=some o→h₁.get? b=some o):TabOk c G h₁:=by
 obtain ⟨m,ps,e,r⟩:=x;exact ⟨m,ps,k _ _ e,r⟩
theorem TabOk.mono (x:TabOk c G h)(l:G.Le G₁):TabOk c G₁ h:=by
 obtain ⟨m,ps,e,r,q⟩:=x;refine ⟨⟨by rw [l.tab];exact l.moves _ m.1,l.tab.trans m.2⟩,ps,by rw [l.tab];exact e,r,q.imp id ?_⟩
 rintro ⟨a,o,vs,t,h1,h2,h3⟩
 exact ⟨a,o,vs,t,h1,l.obj _ _ h2,h3⟩
theorem St.keeps (S:St c G σ h)(k:∀b o,h.get? b=some o→h₁.get? b=some o):St c G σ h₁:=by
 refine ⟨S.base,fun a o e=>k _ _ (S.obj a o e),fun d x e=>(S.idc d x e).keeps k,fun a e=>?_,S.apart2,?_,?_,S.tab.keeps k⟩
 ·obtain ⟨x1,x2,o,x3⟩:=S.apart a e;exact ⟨x1,x2,o,k _ _ x3⟩
 ·have q:=S.row
  cases hr:σ.row with
  |none=>rw [hr] at q;exact q
  |some ns=>rw [hr] at q;exact RowOk.keeps q k
 ·have q:=S.self
  cases hr:σ.self with
  |none=>rw [hr] at q;exact q
  |some v=>rw [hr] at q;exact SelfOk.keeps q k
theorem Step.keeps (k:∀b o,h.get? b=some o→h₁.get? b=some o)(S:St c G σ h):Step fr G σ h G σ h₁:=
 ⟨.refl G,fun b o e=>⟨o,k b o e⟩,fun b o e _ _ _=>k b o e,fun b o _ e _=>⟨o.slots,k b o e⟩,fun _ _ _=>⟨rfl,rfl,id⟩,fun _ e=>.inl e,
  fun v v' e e' _=>⟨by rw [e] at e';exact (Option.some.inj e').symm,fun b hm _ _=>by
   obtain ⟨_,_,o,e⟩:=S.apart b hm;rw [e,k _ _ e]⟩,fun v e=>⟨v,e,Nat.le_refl _⟩⟩
def Gh.add (G:Gh)(a:Addr)(o:Obj):Gh:={ G with obj:=fun b=>if b=a then some o else G.obj b }
theorem Gh.le_add {a:Addr}{o:Obj}(n:G.obj a=none):G.Le (G.add a o):=
 ⟨fun b o' e=>by
  show (if b=a then some o else G.obj b)=some o'
  by_cases q:b=a
  ·subst q;rw [n] at e;cases e
  ·rw [if_neg q];exact e,fun _ _ e=>e,fun _ e=>e,fun _ e=>e,fun _ e=>e,rfl⟩
theorem Gh.add_at {a:Addr}{o:Obj}:(G.add a o).obj a=some o:=if_pos rfl
theorem Gh.add_ne {a b:Addr}{o:Obj}(n:b≠a):(G.add a o).obj b=G.obj b:=if_neg n
theorem RowOk.mono {ns:List Int}(x:RowOk G h ns)(l:G.Le G₁):RowOk G₁ h ns:=by
 obtain ⟨r,vs,n,a1,a2,a3⟩:=x;exact ⟨r,vs,n,l.row _ a1,l.moves _ a2,a3⟩
theorem SelfOk.mono {v:SelfSt}(x:SelfOk c G h v)(l:G.Le G₁):SelfOk c G₁ h v:=by
 obtain ⟨a,d,ik,ii,ia,t,a1,a2,a3,a4,a5,a6,a7⟩:=x;exact ⟨a,d,ik,ii,ia,t,l.self _ a1,l.obj _ _ a2,l.moves _ a3,a4,a5,Rep.mono l _ _ a6,a7.mono l⟩
theorem St.add {a:Addr}{o:Obj}(S:St c G σ h)(l:Loose G a)(e:h.get? a=some o):St c (G.add a o) σ h:=by
 have le:=Gh.le_add (o:=o) l.1;refine ⟨fun b o' q=>le.obj _ _ (S.base b o' q),fun b o' q=>?_,S.idc,fun b q=>?_,fun b x q=>?_,?_,?_,S.tab.mono le⟩
 ·by_cases hb:b=a
  ·subst hb;rw [Gh.add_at] at q;cases q;exact e
  ·rw [Gh.add_ne hb] at q;exact S.obj b o' q
 ·have hb:b≠a:=fun z=>l.2.2 (z▸q)
  rw [Gh.add_ne hb];exact S.apart b q
 ·have hb:b≠a:=fun z=>by subst z;have:=l.2.1;rw [show G.idc b=some x from q] at this;cases this
  rw [Gh.add_ne hb];exact S.apart2 b x q
 ·have q:=S.row
  cases hr:σ.row with
  |none=>rw [hr] at q;exact q
  |some ns=>rw [hr] at q;exact RowOk.mono q le
 ·have q:=S.self
  cases hr:σ.self with
  |none=>rw [hr] at q;exact q
  |some v=>rw [hr] at q;exact SelfOk.mono q le
theorem Step.add {a:Addr}{o:Obj}(x:Step fr G σ h G₁ σ₁ h₁)(l:Loose G₁ a)(n:h.get? a=none):Step fr G σ h (G₁.add a o) σ₁ h₁:=by
 refine ⟨x.le.trans (Gh.le_add l.1),x.alive,x.keep,x.frames,fun b o' e=>?_,x.rowNew,x.still,x.mono⟩;have hb:b≠a:=fun z=>by subst z;rw [n] at e;cases e
 rw [Gh.add_ne hb];exact x.old b o' e
def Gh.addI (G:Gh)(d:Addr)(x:Value×Value×Value):Gh:={ G with idc:=fun b=>if b=d then some x else G.idc b }
theorem Gh.addI_at {d:Addr}{x:Value×Value×Value}:(G.addI d x).idc d=some x:=if_pos rfl
theorem Gh.addI_ne {d b:Addr}{x:Value×Value×Value}(n:b≠d):(G.addI d x).idc b=G.idc b:=if_neg n
theorem Gh.le_addI {d:Addr}{x:Value×Value×Value}(n:G.idc d=none):G.Le (G.addI d x):=
 ⟨fun _ _ e=>e,fun b o' e=>by
  by_cases q:b=d
  ·subst q;rw [n] at e;cases e
  ·rw [Gh.addI_ne q];exact e,fun _ e=>e,fun _ e=>e,fun _ e=>e,rfl⟩
theorem St.addI {d:Addr}{x:Value×Value×Value}(S:St c G σ h)(l:Loose G d)(e:IDict c h d x):St c (G.addI d x) σ h:=by
 have le:=Gh.le_addI (x:=x) l.2.1;refine ⟨S.base,S.obj,fun b y q=>?_,fun b q=>?_,fun b y q=>?_,?_,?_,S.tab.mono le⟩
 ·by_cases hb:b=d
  ·subst hb;rw [Gh.addI_at] at q;cases q;exact e
  ·rw [Gh.addI_ne hb] at q;exact S.idc b y q
 ·have hb:b≠d:=fun z=>l.2.2 (z▸q)
  rw [Gh.addI_ne hb];exact S.apart b q
 ·by_cases hb:b=d
  ·subst hb;exact l.1
  ·rw [Gh.addI_ne hb] at q;exact S.apart2 b y q
 ·have q:=S.row
  cases hr:σ.row with
  |none=>rw [hr] at q;exact q
  |some ns=>rw [hr] at q;exact RowOk.mono q le
 ·have q:=S.self
  cases hr:σ.self with
  |none=>rw [hr] at q;exact q
  |some v=>rw [hr] at q;exact SelfOk.mono q le
theorem Step.addI {d:Addr}{y:Value×Value×Value}(x:Step fr G σ h G₁ σ₁ h₁)(l:Loose G₁ d)(n:h.get? d=none):Step fr G σ h (G₁.addI d y) σ₁ h₁:=by
 refine ⟨x.le.trans (Gh.le_addI l.2.1),x.alive,x.keep,x.frames,fun b o' e=>?_,x.rowNew,x.still,x.mono⟩;have hb:b≠d:=fun z=>by subst z;rw [n] at e;cases e
 rw [Gh.addI_ne hb];exact x.old b o' e
theorem Loose.add {a b:Addr}{o:Obj}(l:Loose G b)(n:b≠a):Loose (G.add a o) b:=⟨(Gh.add_ne n).trans l.1,l.2⟩
theorem Loose.addI {a b:Addr}{x:Value×Value×Value}(l:Loose G b)(n:b≠a):Loose (G.addI a x) b:=⟨l.1,(Gh.addI_ne n).trans l.2.1,l.2.2⟩
theorem St.loose (S:St c G σ h){a:Addr}(n:h.get? a=none):Loose G a:=by
 refine ⟨?_,?_,fun q=>?_⟩
 ·cases q:G.obj a with
  |none=>rfl
  |some o=>have:=S.obj a o q;rw [n] at this;cases this
 ·cases q:G.idc a with
  |none=>rfl
  |some x=>obtain ⟨_,_,_,_,_,_,_,e⟩:=S.idc a x q;rw [n] at e;cases e
 ·obtain ⟨_,_,o,e⟩:=S.apart a q;rw [n] at e;cases e
theorem FrOk.step {A:Around}{G':Gh}{σ':Sg}{h':Heap}(F:FrOk A G h)(x:Step (frs A) G σ h G' σ' h'):FrOk A G' h':=by
 obtain ⟨⟨l,hl,hF⟩,hh⟩:=F;refine ⟨⟨l,hl,fun e he=>?_⟩,hh⟩;obtain ⟨h1,F,o,h2,h3,h4,h5⟩:=hF e he;have hm:F∈frs A:=by
  unfold frs;rw [hl];exact List.mem_filterMap.mpr ⟨e,he,h2⟩
 obtain ⟨sl,h6⟩:=x.frames F o hm h3 h5;exact ⟨h1,F,_,h2,h6,h4,h5.old x h3⟩
theorem FrOk.alive {A:Around}(F:FrOk A G h){b:Addr}(m:b∈frs A):∃o,h.get? b=some o∧(∀vs,o.data≠.fields vs)∧Loose G b:=by
 obtain ⟨⟨l,hl,hF⟩,_⟩:=F;unfold frs at m;rw [hl] at m;obtain ⟨e,he,hf⟩:=List.mem_filterMap.mp m;obtain ⟨_,F,o,h2,h3,h4,h5⟩:=hF e he;rw [hf] at h2;cases h2;exact ⟨o,h3,h4,h5⟩
theorem FrOk.mono {A:Around}{G':Gh}(F:FrOk A G h)(l:∀b∈frs A,Loose G b→Loose G' b):FrOk A G' h:=by
 obtain ⟨⟨fl,hl,hF⟩,hh⟩:=F;refine ⟨⟨fl,hl,fun e he=>?_⟩,hh⟩;obtain ⟨h1,F,o,h2,h3,h4,h5⟩:=hF e he;exact ⟨h1,F,o,h2,h3,h4,l F (by unfold frs;rw [hl];exact List.mem_filterMap.mpr ⟨e,he,h2⟩) h5⟩
end
def OwnAt (c:Cx)(G:Gh)(h:Heap)(fr:List Addr)(t:T)(k:Kd)(v:Value)(as:List Addr):Prop:=match k,t with
 |.own,.list ts=>∃a vs n,v=.ref a∧as=[a]∧h.get? a=some (Zt vs n)∧vs.length≤sizeLine∧RepL c G ts vs∧Loose G a∧a∉fr
 |.own,.dict es=>∃a ds n,v=.ref a∧as=[a]∧(a == sysModules)=false∧h.get? a=some (Zn ds n)∧ds.length≤sizeLine∧(es.map (·.1)).Nodup∧RepD c G es ds∧Loose G a∧a∉fr
 |.own,.vec kd its at'=>∃a d ik ii ia t,v=.ref a∧as=[a,d]∧a≠d∧h.get? a=some (instObj c.vec d)∧IDict c h d (ik,ii,ia)∧ik=.str kd t∧Rep c G (.list its) ii∧Rep c G at' ia∧
   Loose G a∧Loose G d∧a∉fr∧d∉fr
 |.ownIo,.vec kd its at'=>∃a d b ik ia t vs n,v=.ref a∧as=[a,d,b]∧a≠d∧a≠b∧d≠b∧h.get? a=some (instObj c.vec d)∧IDict c h d (ik,.ref b,ia)∧ik=.str kd t∧
   h.get? b=some (Zt vs n)∧vs.length≤sizeLine∧RepL c G its vs∧Rep c G at' ia∧Loose G a∧Loose G d∧Loose G b∧a∉fr∧d∉fr∧b∉fr
 |_,_=>False
def Now (c:Cx)(G:Gh)(σ:Sg)(h:Heap)(t:T)(v:Value):Prop:=
 ∃es sv a d ik ii,t=.dict es∧σ.self=some sv∧sv.attrs=some es∧G.self=some (a,d)∧IDict c h d (ik,ii,v)∧AttrsOk c G h d (some es) v
def RV (c:Cx)(fr:List Addr)(pre:Heap)(G:Gh)(σ:Sg)(h:Heap)(r:T×Kd)(v:Value):Prop:=match r.2 with
 |.val=>Rep c G r.1 v
 |.h=>Now c G σ h r.1 v
 |k=>∃as,OwnAt c G h fr r.1 k v as∧∀a∈as,pre.get? a=none
def Same (s s':Shared):Prop:=∃h tk,s'={ s with heap:=h,toks:=tk }
theorem Same.refl (s:Shared):Same s s:=⟨s.heap,s.toks,rfl⟩
theorem Same.trans {a b d:Shared}(x:Same a b)(y:Same b d):Same a d:=by
 obtain ⟨h,t,rfl⟩:=x;obtain ⟨h',t',rfl⟩:=y;exact ⟨h',t',rfl⟩
theorem Same.mk' (s:Shared)(h:Heap)(t:Nat):Same s { s with heap:=h,toks:=t }:=⟨h,t,rfl⟩
def ExAt (c:Cx)(fr:List Addr)(pre:Heap)(G:Gh)(h:Heap)(e:Addr)(m:Str):Prop:=
 ∃oe de vs t t' n,h.get? e=some oe∧oe.cls=.ref c.exc∧oe.dict=some de∧oe.data=.fields vs∧G.obj de=some (Zn [⟨c.H "message",.str "message" t,.str m t'⟩] n)∧Loose G e∧e∉fr∧pre.get? e=none∧
  (vs[1]?=some .none∨∃T oT ts x,vs[1]?=some (.ref T)∧T≠e∧h.get? T=some oT∧oT.data=.fields ts∧ts[3]?=some x∧Loose G T∧T∉fr∧pre.get? T=none)
structure Inv (fr:List Addr) where
 P:Gh→Heap→Prop
 stays:∀{G σ h G' σ' h'},Step fr G σ h G' σ' h'→P G h→P G' h'
def Inv.top (fr:List Addr):Inv fr:=⟨fun _ _=>True,fun _ _=>trivial⟩
section
variable (c:Cx)(A:Around)(I:Inv (frs A))(Γ:Gh)(σ:Sg)(s:Shared)
structure Pre:Prop where
 st:St c Γ σ s.heap
 fr:FrOk A Γ s.heap
 inv:I.P Γ s.heap
def QOf {α β:Type}(R:Heap→Gh→Sg→Heap→α→β→Prop)(res:Res α)(b:β)(s':Shared):Prop:=
 ∃a σ',res=.ok a σ'∧∃Γ',Same s s'∧St c Γ' σ' s'.heap∧Step (frs A) Γ σ s.heap Γ' σ' s'.heap∧R s.heap Γ' σ' s'.heap a b
def EOf {α:Type}(res:Res α)(e:Value)(s':Shared):Prop:=
 ∃m σ',res=.exn m σ'∧∃Γ' ea,e=.ref ea∧Same s s'∧St c Γ' σ' s'.heap∧Step (frs A) Γ σ s.heap Γ' σ' s'.heap∧ExAt c (frs A) s.heap Γ' s'.heap ea m
end
def Snd {α β:Type}(prog:Program)(c:Cx)(A:Around)(I:Inv (frs A))(R:Heap→Gh→Sg→Heap→α→β→Prop)(m:M α)(X:Sem β):Prop:=
 ∀Γ σ s,Pre c A I Γ σ s→m σ≠.stuck→wpAny (model prog c.w) A X (QOf c A Γ σ s R (m σ)) (EOf c A Γ σ s (m σ)) s
def Back {α β:Type}(R:Heap→Gh→Sg→Heap→α→β→Prop):Prop:=∀h₀ h₁ G σ h a b,(∀x o,h₀.get? x=some o→∃o',h₁.get? x=some o')→R h₁ G σ h a b→R h₀ G σ h a b
theorem Je {h₀ h₁:Heap}(k:∀x o,h₀.get? x=some o→∃o',h₁.get? x=some o'){a:Addr}(e:h₁.get? a=none):h₀.get? a=none:=by
 cases q:h₀.get? a with
 |none=>rfl
 |some o=>obtain ⟨o',e'⟩:=k a o q;rw [e] at e';cases e'
section
variable {prog:Program}{c:Cx}{A:Around}{I:Inv (frs A)}{Γ Γ₁:Gh}{σ σ₁:Sg}{s s₁:Shared}{α β γ δ:Type}
theorem Pre.next (P:Pre c A I Γ σ s)(S:St c Γ₁ σ₁ s₁.heap)(x:Step (frs A) Γ σ s.heap Γ₁ σ₁ s₁.heap):Pre c A I Γ₁ σ₁ s₁:=⟨S,P.fr.step x,I.stays x P.inv⟩
theorem ExAt.back {fr:List Addr}{h₀ h₁ h:Heap}{G:Gh}{e:Addr}{m:Str}(k:∀x o,h₀.get? x=some o→∃o',h₁.get? x=some o')(x:ExAt c fr h₁ G h e m):ExAt c fr h₀ G h e m:=by
 obtain ⟨oe,de,vs,t,t',n,a1,a2,a3,a4,a5,a6,a7,a8,a9⟩:=x;refine ⟨oe,de,vs,t,t',n,a1,a2,a3,a4,a5,a6,a7,Je k a8,a9.imp id ?_⟩
 rintro ⟨T,oT,ts,x,b1,b2,b3,b4,b5,b6,b7,b8⟩
 exact ⟨T,oT,ts,x,b1,b2,b3,b4,b5,b6,b7,Je k b8⟩
theorem QOf.back {R:Heap→Gh→Sg→Heap→α→β→Prop}(hR:Back R){res:Res α}{b:β}{s':Shared}(P:Pre c A I Γ σ s)(e:Same s s₁)(x:Step (frs A) Γ σ s.heap Γ₁ σ₁ s₁.heap)
  (q:QOf c A Γ₁ σ₁ s₁ R res b s'):QOf c A Γ σ s R res b s':=by
 obtain ⟨a,σ',hr,Γ',y1,y2,y3,y4⟩:=q;exact ⟨a,σ',hr,Γ',e.trans y1,y2,Step.trans P.st x y3,hR _ _ _ _ _ _ _ x.alive y4⟩
theorem EOf.back {res:Res α}{v:Value}{s':Shared}(P:Pre c A I Γ σ s)(e:Same s s₁)(x:Step (frs A) Γ σ s.heap Γ₁ σ₁ s₁.heap)
  (q:EOf c A Γ₁ σ₁ s₁ res v s'):EOf c A Γ σ s res v s':=by
 obtain ⟨m,σ',hr,Γ',ea,y0,y1,y2,y3,y4⟩:=q;exact ⟨m,σ',hr,Γ',ea,y0,e.trans y1,y2,Step.trans P.st x y3,y4.back x.alive⟩
theorem EOf.cast {res:Res α}{res':Res β}{v:Value}{s':Shared}(h:∀m σ',res=.exn m σ'→res'=.exn m σ')(q:EOf c A Γ σ s res v s'):EOf c A Γ σ s res' v s':=by
 obtain ⟨m,σ',hr,r⟩:=q;exact ⟨m,σ',h _ _ hr,r⟩
theorem seq {R:Heap→Gh→Sg→Heap→α→γ→Prop}{m:M α}{f:α→M β}{X:Sem γ}{K:γ→Shared→Prop}
  (P:Pre c A I Γ σ s) (ne:(m>>=f) σ≠.stuck) (hX:Snd prog c A I R m X)
  (k:∀a σ₁ Γ₁ b s₁,m σ=.ok a σ₁→Same s s₁→Step (frs A) Γ σ s.heap Γ₁ σ₁ s₁.heap→Pre c A I Γ₁ σ₁ s₁→R s.heap Γ₁ σ₁ s₁.heap a b→f a σ₁≠.stuck→((m>>=f) σ=f a σ₁)→K b s₁):
  wpAny (model prog c.w) A X K (EOf c A Γ σ s ((m>>=f) σ)) s:=by
 have hm:m σ≠.stuck:=fun q=>ne (by show M.bind m f σ=_;unfold M.bind;rw [q])
 refine wpAny_mono (hX Γ σ s P hm) (fun b s₁ q=>?_) fun e s₁ q=>q.cast fun m' σ' e=>by show M.bind m f σ=_;unfold M.bind;rw [e]
 obtain ⟨a,σ₁,e,Γ₁,y1,y2,y3,y4⟩:=q;have e':(m>>=f) σ=f a σ₁:=by show M.bind m f σ=_;unfold M.bind;rw [e]
 exact k a σ₁ Γ₁ b s₁ e y1 y3 (P.next y2 y3) y4 (e'▸ne) e'
theorem Qn {R':Heap→Gh→Sg→Heap→β→δ→Prop}(hR:Back R'){res:Res β}{X:Sem δ}(P:Pre c A I Γ σ s)(e:Same s s₁)(x:Step (frs A) Γ σ s.heap Γ₁ σ₁ s₁.heap)
  (h:wpAny (model prog c.w) A X (QOf c A Γ₁ σ₁ s₁ R' res) (EOf c A Γ₁ σ₁ s₁ res) s₁):wpAny (model prog c.w) A X (QOf c A Γ σ s R' res) (EOf c A Γ σ s res) s₁:=
 wpAny_mono h (fun _ _ q=>q.back hR P e x) fun _ _ q=>q.back P e x
theorem Snd.bind {R:Heap→Gh→Sg→Heap→α→γ→Prop}{R':Heap→Gh→Sg→Heap→β→δ→Prop}(hR:Back R'){m:M α}{f:α→M β}{X:Sem γ}{K:γ→Sem δ}(hX:Snd prog c A I R m X)
  (k:∀Γ σ s a σ₁ Γ₁ b s₁,Pre c A I Γ σ s→m σ=.ok a σ₁→Step (frs A) Γ σ s.heap Γ₁ σ₁ s₁.heap→Pre c A I Γ₁ σ₁ s₁→R s.heap Γ₁ σ₁ s₁.heap a b→f a σ₁≠.stuck→
   wpAny (model prog c.w) A (K b) (QOf c A Γ₁ σ₁ s₁ R' (f a σ₁)) (EOf c A Γ₁ σ₁ s₁ (f a σ₁)) s₁):Snd prog c A I R' (m>>=f) (X>>=K):=by
 intro Γ σ s P ne;refine wpAny_bind (seq P ne hX fun a σ₁ Γ₁ b s₁ e y1 y3 P₁ y4 ne' e'=>?_);rw [e'];exact Qn hR P y1 y3 (k Γ σ s a σ₁ Γ₁ b s₁ P e y3 P₁ y4 ne')
theorem Snd.weaken {R:Heap→Gh→Sg→Heap→α→β→Prop}{m:M α}{X:Sem β}(h:Snd prog c A (Inv.top _) R m X):Snd prog c A I R m X:=
 fun Γ σ s P ne=>h Γ σ s ⟨P.st,P.fr,trivial⟩ ne
theorem Snd.mono {R R':Heap→Gh→Sg→Heap→α→β→Prop}{m:M α}{X:Sem β}(h:Snd prog c A I R m X)
  (k:∀Γ σ s a σ₁ Γ₁ b s₁,Pre c A I Γ σ s→Step (frs A) Γ σ s.heap Γ₁ σ₁ s₁.heap→Pre c A I Γ₁ σ₁ s₁→R s.heap Γ₁ σ₁ s₁.heap a b→
   ∃Γ₂,St c Γ₂ σ₁ s₁.heap∧Step (frs A) Γ σ s.heap Γ₂ σ₁ s₁.heap∧R' s.heap Γ₂ σ₁ s₁.heap a b):Snd prog c A I R' m X:=by
 intro Γ σ s P ne;refine wpAny_mono (h Γ σ s P ne) (fun b s₁ q=>?_) fun _ _ q=>q
 obtain ⟨a,σ₁,e,Γ₁,y1,y2,y3,y4⟩:=q;obtain ⟨Γ₂,z1,z2,z3⟩:=k Γ σ s a σ₁ Γ₁ b s₁ P y3 (P.next y2 y3) y4;exact ⟨a,σ₁,e,Γ₂,y1,z1,z2,z3⟩
end
theorem OwnAt.freeze {c:Cx}{G:Gh}{σ:Sg}{h:Heap}{fr:List Addr}{t:T}{k:Kd}{v:Value}{as:List Addr}(S:St c G σ h)(x:OwnAt c G h fr t k v as):
  ∃G',G.Le G'∧St c G' σ h∧Rep c G' t v∧(∀b,b∉as→Loose G b→Loose G' b)∧(∀(G₀:Gh) (σ₀:Sg) (h₀:Heap) (fr:List Addr),(∀a∈as,h₀.get? a=none)→Step fr G₀ σ₀ h₀ G σ h→Step fr G₀ σ₀ h₀ G' σ h):=by
 unfold OwnAt at x;split at x
 ·obtain ⟨a,vs,n,rfl,rfl,e,z,r,l,_⟩:=x;refine ⟨G.add a (Zt vs n),Gh.le_add l.1,S.add l e,?_,fun b hb lb=>lb.add (fun q=>hb (by simp [q])),fun _ _ _ _ f y=>y.add l (f a (by simp))⟩;unfold Rep;exact ⟨a,vs,n,rfl,Gh.add_at,z,RepL.mono (Gh.le_add l.1) _ _ r⟩
 ·obtain ⟨a,ds,n,rfl,rfl,nm,e,z,nd,r,l,_⟩:=x;refine ⟨G.add a (Zn ds n),Gh.le_add l.1,S.add l e,?_,fun b hb lb=>lb.add (fun q=>hb (by simp [q])),fun _ _ _ _ f y=>y.add l (f a (by simp))⟩;unfold Rep;exact ⟨a,ds,n,rfl,nm,Gh.add_at,z,nd,RepD.mono (Gh.le_add l.1) _ _ r⟩
 ·obtain ⟨a,d,ik,ii,ia,t,rfl,rfl,hne,e,i,hik,r1,r2,l1,l2,_⟩:=x;have le1:=Gh.le_add (o:=instObj c.vec d) l1.1;have l2':Loose (G.add a (instObj c.vec d)) d:=l2.add hne.symm;have le2:=Gh.le_addI (x:=(ik,ii,ia)) l2'.2.1
  refine ⟨(G.add a (instObj c.vec d)).addI d (ik,ii,ia),le1.trans le2,(S.add l1 e).addI l2' i,?_,fun b hb lb=>(lb.add (fun q=>hb (by simp [q]))).addI (fun q=>hb (by simp [q])),
   fun _ _ _ _ f y=>(y.add l1 (f a (by simp))).addI l2' (f d (by simp))⟩
  have r1':=Rep.mono (le1.trans le2) _ _ r1;have r2':=Rep.mono (le1.trans le2) _ _ r2;unfold Rep at r1';obtain ⟨b,vs,n,rfl,q2,q5,q6⟩:=r1';unfold Rep;exact ⟨a,d,_,_,ia,b,vs,n,rfl,le2.obj _ _ Gh.add_at,Gh.addI_at,⟨t,hik⟩,⟨rfl,q2,q5,q6⟩,r2'⟩
 ·obtain ⟨a,d,b,ik,ia,t,vs,n,rfl,rfl,ne1,ne2,ne3,e,i,hik,e2,z,r1,r2,l1,l2,l3,_⟩:=x;have le1:=Gh.le_add (o:=instObj c.vec d) l1.1;have l3':Loose (G.add a (instObj c.vec d)) b:=l3.add ne2.symm;have le2:=Gh.le_add (o:=Zt vs n) l3'.1;have l2':Loose ((G.add a (instObj c.vec d)).add b (Zt vs n)) d:=(l2.add ne1.symm).add ne3;have le3:=Gh.le_addI (x:=(ik,Value.ref b,ia)) l2'.2.1;have le:=le1.trans (le2.trans le3)
  refine ⟨((G.add a (instObj c.vec d)).add b (Zt vs n)).addI d (ik,.ref b,ia),le,((S.add l1 e).add l3' e2).addI l2' i,?_,fun y hb lb=>((lb.add (fun q=>hb (by simp [q]))).add (fun q=>hb (by simp [q]))).addI (fun q=>hb (by simp [q])),
   fun _ _ _ _ f y=>((y.add l1 (f a (by simp))).add l3' (f b (by simp))).addI l2' (f d (by simp))⟩
  unfold Rep;exact ⟨a,d,_,_,ia,b,vs,n,rfl,le3.obj _ _ (le2.obj _ _ Gh.add_at),Gh.addI_at,⟨t,hik⟩,⟨rfl,le3.obj _ _ Gh.add_at,z,RepL.mono le _ _ r1⟩,Rep.mono le _ _ r2⟩
 ·exact x.elim
def RW (c:Cx)(_:Heap)(G:Gh)(_:Sg)(_:Heap)(r:T×Kd)(v:Value):Prop:=(r.2=.h∧∃es x,r.1=.dict es∧v=.ref x)∨(r.2≠.h∧Rep c G r.1 v)
def RT (c:Cx)(_:Heap)(G:Gh)(_:Sg)(_:Heap)(t:T)(v:Value):Prop:=Rep c G t v
theorem Zvj {c:Cx}:Back (RW c):=fun _ _ _ _ _ _ _ _ x=>x
theorem Zvk {c:Cx}:Back (RT c):=fun _ _ _ _ _ _ _ _ x=>x
theorem Qb {c:Cx}{fr:List Addr}:Back (RV c fr):=by
 intro h₀ h₁ G σ h r v k x;unfold RV at x ⊢;split at x
 ·exact x
 ·exact x
 ·obtain ⟨as,x1,x2⟩:=x;exact ⟨as,x1,fun a ha=>Je k (x2 a ha)⟩
section
variable {prog:Program}{c:Cx}{A:Around}{I:Inv (frs A)}{β:Type}
theorem Snd.weak {m:M (T×Kd)}{X:Sem Value}(h:Snd prog c A I (RV c (frs A)) m X):Snd prog c A I (RW c) m X:=by
 refine h.mono fun Γ σ s r σ₁ Γ₁ v s₁ P x P₁ q=>?_
 obtain ⟨t,k⟩:=r;unfold RV at q
 cases k with
 |val=>exact ⟨Γ₁,P₁.st,x,.inr ⟨by simp,q⟩⟩
 |h=>
  obtain ⟨es,_,_,_,_,_,e,_,_,_,_,D,_,_,e2,_⟩:=q;exact ⟨Γ₁,P₁.st,x,.inl ⟨rfl,es,D,e,e2⟩⟩
 |own=>
  obtain ⟨as,q,f⟩:=q;obtain ⟨G',_,S',r',_,st⟩:=q.freeze P₁.st;exact ⟨G',S',st _ _ _ _ f x,.inr ⟨by simp,r'⟩⟩
 |ownIo=>
  obtain ⟨as,q,f⟩:=q;obtain ⟨G',_,S',r',_,st⟩:=q.freeze P₁.st;exact ⟨G',S',st _ _ _ _ f x,.inr ⟨by simp,r'⟩⟩
end
section
variable {c:Cx}{fr:List Addr}{G G':Gh}{σ σ':Sg}{h h':Heap}
theorem Step.loose (x:Step fr G σ h G' σ' h'){a:Addr}{o:Obj}(l:Loose G a)(e:h.get? a=some o):∃sl,h'.get? a=some { o with slots:=sl }:=by
 by_cases m:a∈fr
 ·exact x.frames a o m e l
 ·exact ⟨o.slots,x.keep a o e l.2.2 l.2.1 m⟩
theorem Step.ns (x:Step fr G σ h G' σ' h'){a:Addr}{m:Str→Option Value}(l:Loose G a)(n:h.Ns a m):h'.Ns a m∧Loose G' a:=by
 obtain ⟨o,es,ep,h1,h2,h3⟩:=n;obtain ⟨sl,e⟩:=x.loose l h1;exact ⟨⟨_,es,ep,e,h2,h3⟩,l.old x h1⟩
theorem Step.cell (x:Step fr G σ h G' σ' h'){a:Addr}{v:Option Value}(l:Loose G a)(n:h.IsCell a v):h'.IsCell a v∧Loose G' a:=by
 obtain ⟨o,h1,h2⟩:=n;obtain ⟨sl,e⟩:=x.loose l h1;exact ⟨⟨_,e,h2⟩,l.old x h1⟩
theorem OwnAt.step (x:Step fr G σ h G' σ' h'){t:T}{k:Kd}{v:Value}{as:List Addr}(y:OwnAt c G h fr t k v as):OwnAt c G' h' fr t k v as:=by
 unfold OwnAt at y ⊢;have kp:∀{a:Addr} {o:Obj},Loose G a→a∉fr→h.get? a=some o→h'.get? a=some o:=fun l n e=>x.keep _ _ e l.2.2 l.2.1 n
 split at y
 ·obtain ⟨a,vs,n,rfl,rfl,e,z,r,l,f⟩:=y;exact ⟨a,vs,n,rfl,rfl,kp l f e,z,RepL.mono x.le _ _ r,l.old x e,f⟩
 ·obtain ⟨a,ds,n,rfl,rfl,nm,e,z,nd,r,l,f⟩:=y;exact ⟨a,ds,n,rfl,rfl,nm,kp l f e,z,nd,RepD.mono x.le _ _ r,l.old x e,f⟩
 ·obtain ⟨a,d,ik,ii,ia,t,rfl,rfl,hne,e,i,hik,r1,r2,l1,l2,f1,f2⟩:=y;obtain ⟨sh,t1,t2,t3,t4,t5,n,ei⟩:=i;exact ⟨a,d,ik,ii,ia,t,rfl,rfl,hne,kp l1 f1 e,⟨sh,t1,t2,t3,t4,t5,n,kp l2 f2 ei⟩,hik,Rep.mono x.le _ _ r1,Rep.mono x.le _ _ r2,l1.old x e,l2.old x ei,f1,f2⟩
 ·obtain ⟨a,d,b,ik,ia,t,vs,n,rfl,rfl,ne1,ne2,ne3,e,i,hik,e2,z,r1,r2,l1,l2,l3,f1,f2,f3⟩:=y;obtain ⟨sh,t1,t2,t3,t4,t5,n',ei⟩:=i;exact ⟨a,d,b,ik,ia,t,vs,n,rfl,rfl,ne1,ne2,ne3,kp l1 f1 e,⟨sh,t1,t2,t3,t4,t5,n',kp l2 f2 ei⟩,hik,kp l3 f3 e2,z,RepL.mono x.le _ _ r1,Rep.mono x.le _ _ r2,l1.old x e,l2.old x ei,l3.old x e2,f1,f2,f3⟩
 ·exact y.elim
theorem OwnAt.as_loose {t:T}{k:Kd}{v:Value}{as:List Addr}(y:OwnAt c G h fr t k v as):∀a∈as,Loose G a∧a∉fr∧∃o,h.get? a=some o:=by
 unfold OwnAt at y;split at y
 ·obtain ⟨a,vs,n,rfl,rfl,e,z,r,l,f⟩:=y;intro b hb;simp at hb;subst hb;exact ⟨l,f,_,e⟩
 ·obtain ⟨a,ds,n,rfl,rfl,nm,e,z,nd,r,l,f⟩:=y;intro b hb;simp at hb;subst hb;exact ⟨l,f,_,e⟩
 ·obtain ⟨a,d,ik,ii,ia,t,rfl,rfl,hne,e,⟨sh,t1,t2,t3,t4,t5,n,ei⟩,hik,r1,r2,l1,l2,f1,f2⟩:=y;intro b hb;simp at hb;rcases hb with rfl | rfl
  ·exact ⟨l1,f1,_,e⟩
  ·exact ⟨l2,f2,_,ei⟩
 ·obtain ⟨a,d,b,ik,ia,t,vs,n,rfl,rfl,ne1,ne2,ne3,e,⟨sh,t1,t2,t3,t4,t5,n',ei⟩,hik,e2,z,r1,r2,l1,l2,l3,f1,f2,f3⟩:=y;intro b' hb;simp at hb;rcases hb with rfl | rfl | rfl
  ·exact ⟨l1,f1,_,e⟩
  ·exact ⟨l2,f2,_,ei⟩
  ·exact ⟨l3,f3,_,e2⟩
 ·exact y.elim
end
def Bnd (G:Gh)(h:Heap)(env:PySem.Env)(m:Str→Option Value)(x:Str)(v:Value):Prop:=
 (env.kindOf x=some .local∧m x=some v)∨∃k ca,(k=.cell∨k=.free)∧env.kindOf x=some k∧env.cells.lookup x=some ca∧h.IsCell ca (some v)∧Loose G ca
def OwnsOk (c:Cx)(old:Heap)(G:Gh)(h:Heap)(fr:List Addr)(env:PySem.Env)(m:Str→Option Value)(own:List (Str×T×Kd)):Prop:=
 ∃f:Str→List Addr,(∀p∈own,∃v,Bnd G h env m p.1 v∧OwnAt c G h fr p.2.1 p.2.2 v (f p.1))∧(∀p∈own,∀q∈own,p.1≠q.1→∀a∈f p.1,a∉f q.1)∧(own.map (·.1)).Nodup∧∀p∈own,∀a∈f p.1,old.get? a=none
structure EnvR (c:Cx) (old:Heap) (G:Gh) (h:Heap) (fr:List Addr) (env:PySem.Env) (L:Ev):Prop where
 kind:env.scope.kind=.function
 glob:env.globals=mainGlobals
 blt:env.builtins=builtinsNs
 bound:∃m,h.Ns env.locals m∧Loose G env.locals∧(∀x t,L.loc x=some t→∃v,Bnd G h env m x v∧Rep c G t v)∧OwnsOk c old G h fr env m L.own
section
variable {c:Cx}{fr:List Addr}{G G':Gh}{σ σ':Sg}{h h':Heap}{env:PySem.Env}{L:Ev}{m:Str→Option Value}{x:Str}{v:Value}
theorem Bnd.step (y:Step fr G σ h G' σ' h')(b:Bnd G h env m x v):Bnd G' h' env m x v:=by
 rcases b with b | ⟨k,ca,h1,h2,h3,h4,h5⟩
 ·exact .inl b
 ·obtain ⟨q1,q2⟩:=y.cell h5 h4;exact .inr ⟨k,ca,h1,h2,h3,q1,q2⟩
theorem OwnsOk.step {own:List (Str×T×Kd)}(y:Step fr G σ h G' σ' h'){old:Heap}(b:OwnsOk c old G h fr env m own):OwnsOk c old G' h' fr env m own:=by
 obtain ⟨f,h1,h2,h3⟩:=b;refine ⟨f,fun p hp=>?_,h2,h3⟩;obtain ⟨v,q1,q2⟩:=h1 p hp;exact ⟨v,q1.step y,q2.step y⟩
theorem EnvR.step {old:Heap}(y:Step fr G σ h G' σ' h')(E:EnvR c old G h fr env L):EnvR c old G' h' fr env L:=by
 obtain ⟨h1,h2,h3,m,h4,h5,h6,h7⟩:=E;obtain ⟨q1,q2⟩:=y.ns h5 h4;refine ⟨h1,h2,h3,m,q1,q2,fun x t e=>?_,h7.step y⟩;obtain ⟨v,z1,z2⟩:=h6 x t e;exact ⟨v,z1.step y,Rep.mono y.le _ _ z2⟩
end
def envI (c:Cx)(old:Heap)(fr:List Addr)(env:PySem.Env)(L:Ev):Inv fr:=⟨fun G h=>EnvR c old G h fr env L,fun y E=>E.step y⟩
structure ClsF (K:Frag) (C:Addr) (ns:List Str):Prop where
 ga:findIn K (.ref C) "__getattribute__"=some (some (.builtin "object.__getattribute__"))
 cd:∃cd,clsIn K C=some cd∧cd.hasDict=true
 attr:∀n∈ns,findIn K (.ref C) n=some none
def bltTable:List (Str×Value):=[("len",.builtin "len"),("str",.type "str"),("list",.type "list"),("dict",.type "dict"),("abs",.builtin "abs"),("range",.type "range"),("max",.builtin "max"),("isinstance",.builtin "isinstance")]
structure Facts (c:Cx):Prop where
 kin:c.K.In c.base
 vecF:ClsF c.K c.vec ["kind","items","attrs","shared","loose"]
 nulF:ClsF c.K c.nul ["kind","attrs"]
 isV:isIn c.K (.ref c.vec) c.vec=true
 notV:kin_not c.K c.nul c.vec=true
 notS:∀C∈[c.vec,c.nul],kin_notT c.K C "str"=true∧plainGet c.K C "__class__"=true∧hasDictIn c.K C=true∧findIn c.K (.ref C) "__class__"=some (some (.builtin "object.__class__"))∧mroIn c.K C (.type "object")=some true
 cls1:specialIn c.K (.builtin "object.__class__") "__get__"=some (some (.builtin "getset_descriptor.__get__"))
 cls2:takesIn c.K (.builtin "object.__class__")=some true
 vecG:c.mg "Vector"=some (.ref c.vec)
 blt:∀p∈bltTable,c.mg p.1=none∧c.mb p.1=some p.2
 g:c.base.Ns mainGlobals c.mg
 b:c.base.Ns builtinsNs c.mb
 nolimit:c.base.NoLimit
 most:∃t,c.mg "MOST_LENGTH"=some (.int 1000000 t)
section
variable {c:Cx}{G:Gh}{σ:Sg}{h:Heap}
theorem St.kept (S:St c G σ h):∀b o,c.base.get? b=some o→h.get? b=some o:=fun b o e=>S.obj b o (S.base b o e)
end
section
variable {M:Model}{A:Around}{E:Value→Shared→Prop}{s:Shared}{env:PySem.Env}{Q:Value→Shared→Prop}
theorem Js {G:Gh}{m:Str→Option Value}{x:Str}{v:Value}{pos:Pos}(hk:env.scope.kind=.function)(hn:s.heap.Ns env.locals m)(b:Bnd G s.heap env m x v)
  (hd:(x == ("__debug__":Str))=false) (hc:(x == ("__classdict__":Str))=false) (h:Q v s):wpAny M A (eval (.Name x pos) env) Q E s:=by
 refine wpAny_Name ?_ hd;rcases b with ⟨h1,h2⟩ | ⟨k,ca,h1,h2,h3,h4,h5⟩
 ·exact wpAny_loadName_local hk h1 hn h2 h
 ·rcases h1 with rfl | rfl
  ·exact wpAny_loadName_cell hk h2 h3 h4 h
  ·exact wpAny_loadName_free hk h2 h3 h4 h hc
theorem Zfu {mg:Str→Option Value}{x:Str}{v:Value}{pos:Pos}(hk:env.scope.kind=.function)(hx:env.kindOf x=some .globalImplicit)(hg:s.heap.Ns env.globals mg)(hv:mg x=some v)
  (hd:(x == ("__debug__":Str))=false) (h:Q v s):wpAny M A (eval (.Name x pos) env) Q E s:=
 Calls.Name_function_global hk hx (Calls.loadGlobal_global hg hv h) hd
theorem Zpg {mg mb:Str→Option Value}{x:Str}{v:Value}{pos:Pos}(hk:env.scope.kind=.function)(hx:env.kindOf x=some .globalImplicit)(hg:s.heap.Ns env.globals mg)(hv:mg x=none)
  (hb:s.heap.Ns env.builtins mb) (hbv:mb x=some v)
  (hd:(x == ("__debug__":Str))=false) (h:Q v s):wpAny M A (eval (.Name x pos) env) Q E s:=
 Calls.Name_function_global hk hx (Calls.loadGlobal_builtin hg hv hb hbv h) hd
end
def Zav (g:Str→Bool)(x:Str):Bool:=!(x == ("__debug__":Str))&&!(x == ("__classdict__":Str))&&(!(x == ("MOST_LENGTH":Str))||g x)
theorem Jr {c:Cx}{fr:List Addr}{pre:Heap}{G:Gh}{σ:Sg}{h:Heap}{t:T}{v:Value}(r:Rep c G t v):RV c fr pre G σ h (t,.val) v:=r
section
variable {prog:Program}{c:Cx}{A:Around}{env:PySem.Env}{L:Ev}
theorem stay {α β:Type}{I:Inv (frs A)}{R:Heap→Gh→Sg→Heap→α→β→Prop}{Γ:Gh}{σ:Sg}{s:Shared}{a:α}{b:β}{res:Res α}(P:Pre c A I Γ σ s)(e:res=.ok a σ)(r:R s.heap Γ σ s.heap a b):QOf c A Γ σ s R res b s:=
 ⟨a,σ,e,Γ,Same.refl s,P.st,Step.refl ..,r⟩
theorem Snd.name {old:Heap}(F:Facts c){g:Str→Bool}(hg:∀x,g x=true→env.kindOf x=some .globalImplicit){x:Str}{pos:Pos}(ok:Zav g x=true){G:Calls}:
  Snd prog c A (envI c old (frs A) env L) (RV c (frs A)) (Za G L (.Name x pos)) (eval (.Name x pos) env):=by
 intro Γ σ s P ne;simp only [Zav,Bool.and_eq_true,Bool.not_eq_true',Bool.or_eq_true] at ok;obtain ⟨⟨h1,h2⟩,h3⟩:=ok;have E:EnvR c old Γ s.heap (frs A) env L:=P.inv;obtain ⟨hk,hgl,hbl,m,hn,hl,hloc,_⟩:=E;have ev:Za G L (.Name x pos)=(do val (←Zl (Zbz L x))):=by simp only [Za]
 rw [ev] at ne ⊢;unfold Zbz at ne ⊢
 cases hx:L.loc x with
 |some t=>
  obtain ⟨v,b,r⟩:=hloc x t hx;exact Js hk hn b h1 h2 (stay P (a:=(t,.val)) rfl (Jr r))
 |none=>
  rw [hx] at ne;unfold Zj4 at ne ⊢
  by_cases hm:x="MOST_LENGTH"
  ·subst hm;obtain ⟨t,ht⟩:=F.most;refine Zfu hk (hg _ ?_) (mg:=c.mg) (by rw [hgl];exact F.g.keeps P.st.kept) ht h1 (stay P (a:=(.int 1000000,.val)) rfl (Jr ?_))
   ·rcases h3 with h3 | h3
    ·simp at h3
    ·exact h3
   ·unfold Rep;exact ⟨t,rfl⟩
  ·exact absurd (by simp only [hm,if_false];rfl) ne
end
section
variable {prog:Program}{c:Cx}{A:Around}{I:Inv (frs A)}{Γ:Gh}{σ:Sg}{s:Shared}{E:Value→Shared→Prop}
theorem Zu {t:T}{v:Value}{res:Res (T×Kd)}(P:Pre c A I Γ σ s)(r:Rep c Γ t v)(k:Nat)(e:res=.ok (t,.val) σ):QOf c A Γ σ s (RV c (frs A)) res v { s with toks:=k }:=
 ⟨_,σ,e,Γ,⟨s.heap,k,rfl⟩,P.st,Step.refl ..,Jr r⟩
theorem Zam {t:T}{v:Value}{res:Res (T×Kd)}(P:Pre c A I Γ σ s)(r:Rep c Γ t v)(e:res=.ok (t,.val) σ):QOf c A Γ σ s (RV c (frs A)) res v s:=Zu P r s.toks e
theorem Qp (h:Heap):h.get? h.objs.size=none:=Heap.get?_none_of_le (Nat.le_refl _)
theorem Z6 {h:Heap}{o:Obj}:∀b o',h.get? b=some o'→(h.push o).get? b=some o':=fun _ _ e=>Heap.get?_push_of_some _ e
theorem FrOk.fresh {G:Gh}{h:Heap}(F:FrOk A G h){a:Addr}(n:h.get? a=none):a∉frs A:=fun m=>by
 obtain ⟨o,e,_⟩:=F.alive m;rw [n] at e;cases e
theorem Zen {ts:List T}{vs:List Value}{res:Res (T×Kd)}(P:Pre c A I Γ σ s)(r:RepL c Γ ts vs)(z:vs.length≤sizeLine)(n k:Nat)(e:res=.ok (.list ts,.own) σ):
  QOf c A Γ σ s (RV c (frs A)) res (.ref s.heap.objs.size) { s with heap:=s.heap.push (Zt vs n),toks:=k }:=by
 have nn:=Qp s.heap;refine ⟨_,σ,e,Γ,⟨_,k,rfl⟩,P.st.keeps Z6,Step.keeps Z6 P.st,[s.heap.objs.size],?_,fun a ha=>?_⟩
 ·exact ⟨s.heap.objs.size,vs,n,rfl,rfl,Heap.get?_push_size _ rfl,z,r,P.st.loose nn,P.fr.fresh nn⟩
 ·simp at ha;subst ha;exact nn
theorem Heap.notMods {h:Heap}(f:Facts c)(k:∀b o,c.base.get? b=some o→h.get? b=some o):(h.objs.size == sysModules)=false:=by
 obtain ⟨o,_,_,e,_⟩:=f.g;have:=Heap.lt_size (k _ _ e);simp only [beq_eq_false_iff_ne,ne_eq];intro q;rw [q] at this;exact absurd this (by decide)
theorem Zs0 {es:List (Str×T)}{ds:List DictEntry}{res:Res (T×Kd)}(f:Facts c)(P:Pre c A I Γ σ s)(r:RepD c Γ es ds)(z:ds.length≤sizeLine)(nd:(es.map (·.1)).Nodup)(n k:Nat)(e:res=.ok (.dict es,.own) σ):
  QOf c A Γ σ s (RV c (frs A)) res (.ref s.heap.objs.size) { s with heap:=s.heap.push (Zn ds n),toks:=k }:=by
 have nn:=Qp s.heap;refine ⟨_,σ,e,Γ,⟨_,k,rfl⟩,P.st.keeps Z6,Step.keeps Z6 P.st,[s.heap.objs.size],?_,fun a ha=>?_⟩
 ·exact ⟨s.heap.objs.size,ds,n,rfl,rfl,Heap.notMods f P.st.kept,Heap.get?_push_size _ rfl,z,nd,r,P.st.loose nn,P.fr.fresh nn⟩
 ·simp at ha;subst ha;exact nn
theorem Zgm {t:T}{o:Obj}{res:Res (T×Kd)}(P:Pre c A I Γ σ s)(hf:o.isFreed=false)(k:Nat)(r:Rep c (Γ.add s.heap.objs.size o) t (.ref s.heap.objs.size))(e:res=.ok (t,.val) σ):
  QOf c A Γ σ s (RV c (frs A)) res (.ref s.heap.objs.size) { s with heap:=s.heap.push o,toks:=k }:=by
 have nn:=Qp s.heap;have l:=P.st.loose nn;have S₁:St c Γ σ (s.heap.push o):=P.st.keeps Z6;exact ⟨_,σ,e,Γ.add s.heap.objs.size o,⟨_,k,rfl⟩,S₁.add l (Heap.get?_push_size _ hf),(Step.keeps Z6 P.st).add l nn,Jr r⟩
theorem Rep.int_inv {G:Gh}{i:Int}{v:Value}(r:Rep c G (.int i) v):∃t,v=.int i t:=by unfold Rep at r;exact r
theorem Rep.str_inv {G:Gh}{x:Str}{v:Value}(r:Rep c G (.str x) v):∃t,v=.str x t:=by unfold Rep at r;exact r
theorem Rep.none_inv {G:Gh}{v:Value}(r:Rep c G .none v):v=.none:=by unfold Rep at r;exact r
theorem Rep.bool_inv {G:Gh}{b:Bool}{v:Value}(r:Rep c G (.bool b) v):v=.bool b:=by unfold Rep at r;exact r
theorem Rep.list_inv {G:Gh}{ts:List T}{v:Value}(r:Rep c G (.list ts) v):∃a vs n,v=.ref a∧G.obj a=some (Zt vs n)∧vs.length≤sizeLine∧RepL c G ts vs:=by unfold Rep at r;exact r
theorem Rep.tup_inv {G:Gh}{ts:List T}{v:Value}(r:Rep c G (.tup ts) v):∃a vs n,v=.ref a∧G.obj a=some (Zdm vs n)∧vs.length≤sizeLine∧RepL c G ts vs:=by unfold Rep at r;exact r
theorem Rep.dict_inv {G:Gh}{es:List (Str×T)}{v:Value}(r:Rep c G (.dict es) v):∃a ds n,v=.ref a∧(a == sysModules)=false∧G.obj a=some (Zn ds n)∧ds.length≤sizeLine∧(es.map (·.1)).Nodup∧RepD c G es ds:=by unfold Rep at r;exact r
theorem Rep.int {G:Gh}{i:Int}{t:Tok}:Rep c G (.int i) (.int i t):=by unfold Rep;exact ⟨t,rfl⟩
theorem Rep.str {G:Gh}{x:Str}{t:Tok}:Rep c G (.str x) (.str x t):=by unfold Rep;exact ⟨t,rfl⟩
theorem Rep.bool {G:Gh}{b:Bool}:Rep c G (.bool b) (.bool b):=by unfold Rep;rfl
theorem Rep.none' {G:Gh}:Rep c G .none .none:=by unfold Rep;rfl
theorem Zz {h:Heap}{a:Addr}{vs:List Value}{n:Nat}(e:h.get? a=some (Zt vs n)):h.IsList a vs.toArray:=⟨_,e,rfl,n,rfl⟩
theorem Z3:sizeLine=16777216:=by decide
theorem RepL.replicate {G:Gh}{t:T}{v:Value}(r:Rep c G t v):∀n:Nat,RepL c G (List.replicate n t) (List.replicate n v)
 |0=>RepL.nil
 |n+1=>RepL.cons r (RepL.replicate r n)
theorem mul_one {l:Addr}{v:Value}{k:Nat}{x:Int}{u:Tok}{Q:Value→Shared→Prop}(hl:s.heap.get? l=some (Zt [v] k))(hhi:x≤1000)(hlo:-(2 ^ 63:Int)≤x)
  (h:Q (.ref s.heap.objs.size) { s with heap:=s.heap.push (Zt (List.replicate x.toNat v) 0) }):wpAny (model prog c.w) A (binaryOp .Mult (.ref l) (.int x u)) Q E s:=by
 have hz:¬Builtin.List.listTooLong ([v].toArray.size * x.toNat)=true:=by
  have h1:[v].toArray.size=1:=rfl;rw [h1];simp only [Builtin.List.listTooLong,Z3,decide_eq_true_eq];omega
 have hy:¬[v].toArray.size * x.toNat > (2 ^ 63 - 1) / 8:=by
  have h1:[v].toArray.size=1:=rfl;rw [h1];omega
 have hf:Builtin.List.listFitsIndex x=true:=by
  simp only [Builtin.List.listFitsIndex,Bool.and_eq_true,decide_eq_true_eq];omega
 refine wpAny_binaryOp_repeat_ref (T:="list") (U:="int") (by decide) ⟨_,hl,rfl⟩ (fun s'=>typeIs_int s' x u) noFill_list_mul F.fills_int_mul F.slot_int_rmul repeat_list F.slot_int_index.lookup
  (call_meets F.slot_int_rmul (typeIs_int s x u) F.entry_int_rmul (F.args_int_rmul_2 _ _) (int___rmul___int_list x u l [v].toArray k)
   ⟨hl,rfl,⟨_,hl,rfl⟩,call_meets F.slot_list_mul ⟨_,hl,rfl⟩ F.entry_list_mul (F.args_list_mul_2 _ _)
    (AutoListH.list___mul___list_int_3 l [v].toArray k x u (by rw [hf];decide) hy hz)
    ⟨hl,?_⟩⟩)
 have e:(List.foldl (fun x1 x2=>x1++x2) (#[]:Array Value) (List.replicate (if [v].toArray.isEmpty=true then 0 else x.toNat) [v].toArray))=(List.replicate x.toNat v).toArray:=by
  simp only [List.isEmpty_toArray,List.isEmpty_cons,Bool.false_eq_true,if_false];have:∀(n:Nat) (acc:List Value),List.foldl (fun x1 x2=>x1++x2) acc.toArray (List.replicate n [v].toArray)=(acc++List.replicate n v).toArray:=by
   intro n
   induction n with
   |zero=>intro acc;simp
   |succ n ih=>
    intro acc;rw [List.replicate_succ,List.foldl_cons];have:=ih (acc++[v]);simp only [List.append_toArray] at this ⊢;rw [this];simp [List.replicate_succ]
  simpa using this x.toNat []
 rw [e];exact h
end
section
variable {prog:Program}{c:Cx}{A:Around}{I:Inv (frs A)}{Γ:Gh}{σ:Sg}{s:Shared}{E:Value→Shared→Prop}
theorem Zm0 {x:Int}(h:Zj x=true):Builtin.Int.intBits x≤64:=by
 have:x.natAbs < 1000000000000000000:=of_decide_eq_true h;exact intBits_le_64 (by omega) (by omega)
theorem Zht {x:Int}(h:Zj x=true):x.natAbs.log2 < 1920:=by
 have hx:x.natAbs < 1000000000000000000:=of_decide_eq_true h
 by_cases h0:x.natAbs=0
 ·rw [h0];decide +kernel
 ·have:x.natAbs.log2 < 60:=(Nat.log2_lt h0).mpr (by omega);omega
theorem Zui {op:Operator}{a b:T}{va vb:Value}{r:T×Kd}(P:Pre c A I Γ σ s)(ra:Rep c Γ a va)(rb:Rep c Γ b vb)(h:binT op a b=some r):
  wpAny (model prog c.w) A (binaryOp op va vb) (QOf c A Γ σ s (RV c (frs A)) (.ok r σ)) E s:=by
 unfold binT at h;split at h
 ·obtain ⟨t,rfl⟩:=ra.int_inv;obtain ⟨u,rfl⟩:=rb.int_inv;cases h;exact PyProof.Rows.add_int (Zu P Rep.int _ rfl)
 ·obtain ⟨t,rfl⟩:=ra.int_inv;obtain ⟨u,rfl⟩:=rb.int_inv;cases h;exact PyProof.Rows.sub_int (Zu P Rep.int _ rfl)
 ·obtain ⟨t,rfl⟩:=ra.int_inv;obtain ⟨u,rfl⟩:=rb.int_inv;split at h
  ·rename_i hs;cases h;exact PyProof.Rows.mul_int (Zu P Rep.int _ rfl) (IntMulOk.of_left (Zm0 hs))
  ·cases h
 ·obtain ⟨t,rfl⟩:=ra.int_inv;obtain ⟨u,rfl⟩:=rb.int_inv;split at h
  ·cases h
  ·rename_i hs;cases h;simp only [Bool.or_eq_true,decide_eq_true_eq,not_or] at hs;exact PyProof.Rows.floordiv_int hs.1 (Zu P Rep.int _ rfl) (.inl (PyProof.noPylong_small (by omega)))
 ·obtain ⟨t,rfl⟩:=ra.int_inv;obtain ⟨u,rfl⟩:=rb.int_inv;split at h
  ·cases h
  ·rename_i hs;cases h;exact PyProof.Rows.mod_int' hs (Zu P Rep.int _ rfl)
 ·obtain ⟨t,rfl⟩:=ra.int_inv;obtain ⟨u,rfl⟩:=rb.int_inv;split at h
  ·rename_i hs;cases h;simp only [Bool.and_eq_true,decide_eq_true_eq] at hs;obtain ⟨⟨h1,h2⟩,h3⟩:=hs;have hx:=of_decide_eq_true h3;exact PyProof.Rows.pow_int_small h1 (by omega) (by omega) (Zu P Rep.int _ rfl)
  ·cases h
 ·obtain ⟨t,rfl⟩:=ra.str_inv;obtain ⟨u,rfl⟩:=rb.str_inv;split at h
  ·rename_i hs;cases h;exact PyProof.Rows.add_str (fun t' tk=>Zu P Rep.str _ rfl) (by rw [Z3];unfold Zc at hs;omega)
  ·cases h
 ·obtain ⟨l,vs,n,rfl,hl,zl,rl⟩:=ra.list_inv;obtain ⟨b,ws,n',rfl,hb,zb,rb'⟩:=rb.list_inv;split at h
  ·rename_i hs;cases h;have z:(vs++ws).length≤sizeLine:=by
    rw [List.length_append,rl.length,rb'.length,Z3];unfold Zc at hs;omega
   refine concat_meets ⟨_,P.st.obj _ _ hl,rfl⟩ ⟨_,P.st.obj _ _ hb,rfl⟩ noFill_list_add seq_list_add PySem.F.slot_list_add PySem.F.entry_list_add (PySem.F.args_list_add_2 _ _)
    (list_addW l b vs.toArray ws.toArray n n' none none #[] #[] (by simpa using z)) ⟨P.st.obj _ _ hl,P.st.obj _ _ hb,?_⟩
   have e:vs.toArray++ws.toArray=(vs++ws).toArray:=by simp
   rw [e];exact Zen P (rl.append rb') z 0 s.toks rfl
  ·cases h
 ·obtain ⟨l,vs,n,rfl,hl,zl,rl⟩:=ra.list_inv;obtain ⟨u,rfl⟩:=rb.int_inv;split at h
  ·rename_i hs;cases h;unfold RepL at rl;obtain ⟨v,r,rfl,r1,r2⟩:=rl;unfold RepL at r2;subst r2;unfold Zc at hs;refine mul_one (P.st.obj _ _ hl) (by omega) hs.2 ?_;exact Zen P (RepL.replicate r1 _) (by rw [List.length_replicate,Z3];omega) 0 s.toks rfl
  ·cases h
 ·cases h
end
end Mine
end
section
namespace Mine
open PySem PySem.W PyProof.Rows PySem.SeqAt
section
variable {prog:Program}{w:World}{A:Around}{E:Value→Shared→Prop}{s:Shared}
theorem RepD.strs {c:Cx}{G:Gh}:∀{es:List (Str×T)} {ds:List DictEntry},RepD c G es ds→ds.toArray.all (fun e=>isExactStrKey e.key)=true
 |[],_,h=>by unfold RepD at h;subst h;simp
 |(k,t)::es,_,h=>by
  unfold RepD at h;obtain ⟨v,tk,r,rfl,h2,h3⟩:=h;have:=RepD.strs h3;simp only [List.all_toArray,List.all_cons,Bool.and_eq_true] at this ⊢;exact ⟨rfl,this⟩
theorem Zkt {d:Addr}{ds:List DictEntry}{n:Nat}{x:Str}{t:Tok}{hh:Int}{Q:Option Nat→Shared→Prop}(ho:s.heap.get? d=some (Zn ds n))
  (hs:ds.toArray.all (fun e=>isExactStrKey e.key)=true) (h:Q (ds.toArray.findIdx? fun e=>e.key.isStr x) s):wpAny (model prog w) A (dictFind d (.str x t) hh) Q E s:=by
 unfold dictFind;refine wpAny_holding ?_;refine wpAny_bind (wpAny_dictEntries ho rfl ?_);dsimp only;rw [if_pos hs];unfold foundByValue
 cases hf:ds.toArray.findIdx? (fun e=>e.key.isStr x) with
 |none=>rw [hf] at h;exact wpAny_pure h
 |some i=>
  rw [hf] at h;obtain ⟨hlt,hi,_⟩:=Array.findIdx?_eq_some_iff_getElem.mp hf;simp only [Array.getElem?_eq_getElem hlt];obtain ⟨u,hu⟩:∃u,ds.toArray[i].key=.str x u:=by
   revert hi
   cases hk:ds.toArray[i].key<;>simp [Value.isStr]
  refine wpAny_bind (wpAny_dictEpoch ho rfl ?_);rw [hu];refine wpAny_bind (wpAny_eqBool_str (wpAny_bind (wpAny_dictEpoch ho rfl ?_)));rw [if_neg (by simp),dT rfl];exact wpAny_bind (wpAny_rule (wpAny_pure h))
inductive Hits (c:Cx) (A:Around) (s:Shared) (ds':List DictEntry):List DictEntry→Bool→Prop
 |nil:Hits c A s ds' [] true
 |miss {e:DictEntry} {x:Str} {t:Tok} {r:List DictEntry}:e.key=.str x t→(ds'.toArray.findIdx? fun e=>e.key.isStr x)=none→Hits c A s ds' (e::r) false
 |hit {e:DictEntry} {x:Str} {t:Tok} {i:Nat} {e':DictEntry} {r:List DictEntry} {b k:Bool}:e.key=.str x t→(ds'.toArray.findIdx? fun e=>e.key.isStr x)=some i→ds'.toArray[i]?=some e'→
   EqAt A s e.val e'.val b→Hits c A s ds' r k→Hits c A s ds' (e::r) (b&&k)
theorem Zh1 {c:Cx}{nm:String}{a b:Addr}{ds ds':List DictEntry}{n n':Nat}{r:Bool}{Q:Bool→Shared→Prop}(ha:(a == sysModules)=false)(hb:(b == sysModules)=false)
  (da:s.heap.get? a=some (Zn ds n)) (db:s.heap.get? b=some (Zn ds' n')) (hs:ds'.toArray.all (fun e=>isExactStrKey e.key)=true) (hits:ds.length=ds'.length→Hits c A s ds' ds r)
  (h:Q (ds.length == ds'.length&&r) s):wpAny (model prog w) A (Builtin.Dict.samePairs nm a b) Q E s:=by
 unfold Builtin.Dict.samePairs Builtin.Dict.showsAll;rw [if_neg (show ¬(a == sysModules)=true by rw [ha];exact Bool.false_ne_true),if_neg (show ¬(b == sysModules)=true by rw [hb];exact Bool.false_ne_true)];refine wpAny_bind (wpAny_pure (wpAny_bind (wpAny_pure ?_)));refine wpAny_bind (wpAny_dictEntries da rfl ?_);dsimp only;refine wpAny_bind (wpAny_dictEntries db rfl ?_)
 by_cases hsz:ds.length=ds'.length
 case neg=>
  rw [if_pos (by simpa using hsz)];have hbf:(ds.length == ds'.length)=false:=by simpa using hsz
  rw [hbf,Bool.false_and] at h;exact wpAny_bind (wpAny_rule (wpAny_pure h))
 case pos=>
  have h':Q r s:=by simpa [hsz] using h
  have hits':=hits hsz;rw [if_neg (by simp [hsz])];refine wpAny_bind (wpAny_dictEpoch da rfl ?_);refine wpAny_bind ?_;rw [Std.Legacy.Range.forIn_eq_forIn_range'];simp only [Std.Legacy.Range.size,Nat.sub_zero,Nat.add_sub_cancel,Nat.div_one,List.size_toArray];refine wpAny_forIn_list _
   (fun rest q s'=>s'=s∧q=(none,())∧∃i,rest=List.range' i (ds.length - i)∧i≤ds.length∧Hits c A s ds' (ds.drop i) r)
   _ ?_ ?_ _ _ ⟨rfl,rfl,0,by simp,Nat.zero_le _,hits'⟩
  ·rintro x rest q s' ⟨rfl,rfl,i,hr,hi,hpre⟩
   have hlt:i < ds.length:=by
    rcases Nat.lt_or_ge i ds.length with h | h
    ·exact h
    ·rw [Nat.sub_eq_zero_of_le h] at hr;simp at hr
   obtain ⟨rfl,hrest⟩:x=i∧rest=List.range' (i+1) (ds.length - (i+1)):=by
    have e:ds.length - i=(ds.length - (i+1))+1:=by omega
    rw [e,List.range'_succ] at hr;injection hr with h1 h2;exact ⟨h1,h2⟩
   refine wpAny_bind (wpAny_dictEntries da rfl ?_);have hlt':x < ds.toArray.size:=by simpa using hlt
   rw [Array.getElem?_eq_getElem hlt'];have hdrop:ds.drop x=ds.toArray[x]::ds.drop (x+1):=List.drop_eq_getElem_cons hlt;rw [hdrop] at hpre;show wpAny _ _ (holding [ds.toArray[x].key,ds.toArray[x].val] _>>=_) _ _ _
   generalize ds.toArray[x]=en at hpre ⊢
   cases hpre with
   |miss hk hf=>
    rw [hk];refine wpAny_bind (wpAny_holding (wpAny_bind (Zkt db hs ?_)));rw [hf];refine wpAny_pure ?_;show wpAny _ _ (if (!false)=true then _ else _) _ _ _;rw [if_pos (by decide)];exact wpAny_pure (wpAny_pure h')
   |@hit _ _ _ _ _ _ b k hk hf he eq rest=>
    rw [hk];refine wpAny_bind (wpAny_holding (wpAny_bind (Zkt db hs ?_)));rw [hf];refine wpAny_bind (wpAny_dictEntries db rfl ?_);rw [he];refine wpAny_holding (eq prog w _ _ ?_)
    cases b with
    |false=>
     show wpAny _ _ (if (!false)=true then _ else _) _ _ _;rw [if_pos (by decide)];exact wpAny_pure (wpAny_pure h')
    |true=>
     show wpAny _ _ (if (!true)=true then _ else _) _ _ _;rw [if_neg (by decide)];refine wpAny_bind (wpAny_dictEpoch da rfl ?_);rw [if_neg (by simp)];exact wpAny_pure ⟨rfl,rfl,x+1,hrest,hlt,rest⟩
  ·rintro q s' ⟨rfl,rfl,i,hr,hi,hpre⟩
   have hin:i=ds.length:=by
    rcases Nat.lt_or_ge i ds.length with h | h
    ·have e:ds.length - i=(ds.length - (i+1))+1:=by omega
     rw [e,List.range'_succ] at hr;exact nomatch hr
    ·exact Nat.le_antisymm hi h
   refine wpAny_pure ?_;rw [hin,List.drop_length] at hpre;cases hpre;exact h'
theorem Zkr {c:Cx}{a b:Addr}{ds ds':List DictEntry}{n n':Nat}{r:Bool}(ha:(a == sysModules)=false)(hb:(b == sysModules)=false)
  (da:s.heap.get? a=some (Zn ds n)) (db:s.heap.get? b=some (Zn ds' n')) (hs:ds'.toArray.all (fun e=>isExactStrKey e.key)=true) (hu:A.units < cLine)
  (hits:ds.length=ds'.length→Hits c A.in1 s ds' ds r):RcAt A s (.ref a) (.ref b) (ds.length == ds'.length&&r):=fun prog w E Q h=>by
 have ta:s.TypeIs (.ref a) "dict":=⟨_,da,rfl⟩;have tb:s.TypeIs (.ref b) "dict":=⟨_,db,rfl⟩;refine wpAny_richCompare_same_room (op:=.Eq) ta tb PySem.F.slot_dict_eq (wpAny_call_entry PySem.F.slot_dict_eq ta PySem.F.entry_dict_eq ?_ (PySem.F.args_dict_eq_2 _ _)) hu;show wpAny _ _ (Builtin.Dict.dictSlotArgs "__eq__" ⟨[.ref a,.ref b],[]⟩>>=_) _ _ s;refine wpAny_bind ?_;unfold Builtin.Dict.dictSlotArgs;refine wpAny_bind (wpAny_notOrdered_dict ta ?_);show wpAny _ _ (pure (Value.ref a,Value.ref b)) _ _ s;refine wpAny_pure ?_;refine wpAny_bind (wpAny_isInstance (T:="dict") tb PySem.F.sub_dict_dict ?_);simp only [Bool.not_true,Bool.false_eq_true,if_false];refine wpAny_bind (wpAny_pure (wpAny_bind (wpAny_pure ?_)));refine wpAny_bind (Zh1 (c:=c) ha hb da db hs hits ?_);refine wpAny_pure ⟨_,rfl,?_,?_⟩
 ·exact fun x=>nomatch x
 ·simpa using h
theorem Zkq {c:Cx}{a b:Addr}{ds ds':List DictEntry}{n n':Nat}{r:Bool}{Q:Value→Shared→Prop}(ha:(a == sysModules)=false)(hb:(b == sysModules)=false)
  (da:s.heap.get? a=some (Zn ds n)) (db:s.heap.get? b=some (Zn ds' n')) (hs:ds'.toArray.all (fun e=>isExactStrKey e.key)=true) (hu:A.units < cLine)
  (hits:ds.length=ds'.length→Hits c A.in1 s ds' ds r) (h:Q (.bool (!(ds.length == ds'.length&&r))) s):wpAny (model prog w) A (compareOp .NotEq (.ref a) (.ref b)) Q E s:=by
 have ta:s.TypeIs (.ref a) "dict":=⟨_,da,rfl⟩;have tb:s.TypeIs (.ref b) "dict":=⟨_,db,rfl⟩;refine wpAny_richCompare_same_room (op:=.NotEq) ta tb PySem.F.slot_dict_ne (wpAny_call_entry PySem.F.slot_dict_ne ta PySem.F.entry_dict_ne ?_ (PySem.F.args_dict_ne_2 _ _)) hu;show wpAny _ _ (Builtin.Dict.dictSlotArgs "__ne__" ⟨[.ref a,.ref b],[]⟩>>=_) _ _ s;refine wpAny_bind ?_;unfold Builtin.Dict.dictSlotArgs;refine wpAny_bind (wpAny_notOrdered_dict ta ?_);show wpAny _ _ (pure (Value.ref a,Value.ref b)) _ _ s;refine wpAny_pure ?_;refine wpAny_bind (wpAny_isInstance (T:="dict") tb PySem.F.sub_dict_dict ?_);simp only [Bool.not_true,Bool.false_eq_true,if_false];refine wpAny_bind (wpAny_pure (wpAny_bind (wpAny_pure ?_)));refine wpAny_bind (Zh1 (c:=c) ha hb da db hs hits ?_);refine wpAny_pure ⟨_,rfl,?_,?_⟩
 ·exact fun x=>nomatch x
 ·simpa using h
end
theorem Zb6 {f:T→T→Option Bool}:∀{as bs:List T} {r:Bool},eqTs f as bs=some r→
  as.length=bs.length∧∃e:Nat→Bool,(∀j a b,as[j]?=some a→bs[j]?=some b→f a b=some (e j))∧r=(List.range as.length).all e
 |[],[],r,h=>by
  simp [eqTs] at h;exact ⟨rfl,fun _=>true,fun j a b q=>by simp at q,by simp [←h]⟩
 |[],_::_,_,h=>by simp [eqTs] at h
 |_::_,[],_,h=>by simp [eqTs] at h
 |a::as,b::bs,r,h=>by
  simp only [eqTs] at h
  cases hf:f a b with
  |none=>rw [hf] at h;cases h
  |some k=>
   rw [hf] at h;obtain ⟨r',hr'⟩:∃r',eqTs f as bs=some r':=by
    cases k<;>simp only at h
    ·cases q:eqTs f as bs with
     |none=>rw [q] at h;cases h
     |some r'=>exact ⟨r',rfl⟩
    ·exact ⟨r,h⟩
   obtain ⟨hl,e,he,hr⟩:=Zb6 hr';refine ⟨by simp [hl],fun j=>match j with | 0=>k | j+1=>e j,fun j a' b' ha hb=>?_,?_⟩
   ·cases j with
    |zero=>simp at ha hb;subst ha hb;exact hf
    |succ j=>simp at ha hb;exact he j a' b' ha hb
   ·rw [List.length_cons,List.range_succ_eq_map,List.all_cons,List.all_map];show r=(k&&(List.range as.length).all fun j=>e j);rw [←hr];cases k<;>simp only at h
    ·rw [hr'] at h;simpa using h.symm
    ·rw [hr'] at h;simpa using h.symm
theorem Zfy {β:Type}:∀{l:List (Str×β)} {k:Str} {b:β},(l.map (·.1)).Nodup→(k,b)∈l→l.lookup k=some b
 |[],_,_,_,h=>nomatch h
 |(k',b')::l,k,b,n,h=>by
  rw [List.map_cons,List.nodup_cons] at n;rw [List.lookup_cons];rcases List.mem_cons.mp h with e | h
  ·cases e;simp
  ·have hk:(k == k')=false:=by
    simp only [beq_eq_false_iff_ne,ne_eq];intro q;exact n.1 (q▸List.mem_map.mpr ⟨(k,b),h,rfl⟩)
   simp only [hk];exact Zfy n.2 h
section
variable {c:Cx}{G:Gh}
theorem RepD.find:∀{es:List (Str×T)} {ds:List DictEntry} {k:Str},RepD c G es ds→
  (match es.lookup k with
   |none=>(ds.toArray.findIdx? fun e=>e.key.isStr k)=none
   |some t=>∃i e,(ds.toArray.findIdx? fun e=>e.key.isStr k)=some i∧ds.toArray[i]?=some e∧Rep c G t e.val)
 |[],_,k,h=>by unfold RepD at h;subst h;simp
 |(k',t)::es,_,k,h=>by
  unfold RepD at h;obtain ⟨v,tk,r,rfl,h2,h3⟩:=h;have ih:=RepD.find (k:=k) h3;rw [List.lookup_cons]
  by_cases hk:k=k'
  ·subst hk;simp only [beq_self_eq_true];exact ⟨0,⟨c.H k,.str k tk,v⟩,by simp [List.findIdx?_cons,Value.isStr],by simp,h2⟩
  ·have e1:(k == k')=false:=by simpa using hk
   have e2:(k' == k)=false:=by simpa using fun q:k'=k=>hk q.symm
   simp only [e1]
   cases hl:es.lookup k with
   |none=>
    rw [hl] at ih;simp only [List.findIdx?_toArray] at ih ⊢;rw [List.findIdx?_cons,show Value.isStr (.str k' tk) k=false from e2,ih];rfl
   |some t'=>
    rw [hl] at ih;obtain ⟨i,e,i1,i2,i3⟩:=ih;simp only [List.findIdx?_toArray] at i1 ⊢;exact ⟨i+1,e,by rw [List.findIdx?_cons,show Value.isStr (.str k' tk) k=false from e2,i1];rfl,by simpa using i2,i3⟩
theorem Zgi:∀(n:Nat) {ta tb:T} {v:Value} {r:Bool},Rep c G ta v→Rep c G tb v→eqT n ta tb=some r→r=true
 |0,_,_,_,_,_,_,h=>by simp [eqT] at h
 |n+1,ta,tb,v,r,ra,rb,h=>by
  have key:∀{as bs:List T} {vs:List Value} {r:Bool},RepL c G as vs→RepL c G bs vs→eqTs (eqT n) as bs=some r→r=true:=by
   intro as bs vs r la lb q;obtain ⟨hl,e,he,hr⟩:=Zb6 q;rw [hr,List.all_eq_true];intro j hj;have hj':j < as.length:=List.mem_range.mp hj;obtain ⟨v,h1,h2⟩:=la.get (List.getElem?_eq_getElem hj');obtain ⟨v',h3,h4⟩:=lb.get (List.getElem?_eq_getElem (hl▸hj'));rw [h1] at h3;cases h3;exact Zgi n h2 h4 (he j _ _ (List.getElem?_eq_getElem hj') (List.getElem?_eq_getElem (hl▸hj')))
  have keyD:∀{as bs:List (Str×T)} {ds:List DictEntry} {r:Bool},(bs.map (·.1)).Nodup→RepD c G as ds→RepD c G bs ds→eqD (eqT n) as bs=some r→r=true:=by
   intro as bs ds r nd la lb q;have gen:∀(as bs':List (Str×T)) (ds':List DictEntry) (r:Bool),RepD c G as ds'→RepD c G bs' ds'→(∀p∈bs',p∈bs)→eqD (eqT n) as bs=some r→r=true:=by
    intro as
    induction as with
    |nil=>intro bs' ds' r _ _ _ q;simp only [eqD] at q;cases q;rfl
    |cons p as ih=>
     obtain ⟨k,t⟩:=p;intro bs' ds' r la lb sub q;unfold RepD at la;obtain ⟨v,tk,ds'',rfl,h2,h3⟩:=la
     cases bs' with
     |nil=>unfold RepD at lb;cases lb
     |cons p' bs'=>
      obtain ⟨k',t'⟩:=p';unfold RepD at lb;obtain ⟨v',tk',ds3,e,h5,h6⟩:=lb;injection e with e1 e2;injection e1 with q1 q2 q3;injection q2 with q2 _;subst q2 q3 e2;have hl:bs.lookup k=some t':=Zfy nd (sub _ (.head _));simp only [eqD,hl] at q
      cases hf:eqT n t t' with
      |none=>rw [hf] at q;cases q
      |some b=>
       have hb:=Zgi n h2 h5 hf;subst hb;rw [hf] at q;exact ih bs' ds'' r h3 h6 (fun p hp=>sub p (.tail _ hp)) q
   exact gen as bs ds r la lb (fun _ h=>h) q
  unfold eqT at h;split at h
  ·cases h;rfl
  ·rw [ra.bool_inv] at rb;have:=rb.bool_inv;cases this;cases h;simp
  ·obtain ⟨t,rfl⟩:=ra.int_inv;obtain ⟨u,e⟩:=rb.int_inv;cases e;cases h;simp
  ·obtain ⟨t,rfl⟩:=ra.str_inv;obtain ⟨u,e⟩:=rb.str_inv;cases e;cases h;simp
  ·obtain ⟨a,vs,k,rfl,h2,_,h4⟩:=ra.list_inv;obtain ⟨b,ws,k',e,h6,_,h8⟩:=rb.list_inv;cases e;rw [h2] at h6;have:vs=ws:=by injection h6 with q;injection q with _ _ q;injection q with q;simpa using q
   subst this;rw [if_pos (by rw [←h4.length,←h8.length])] at h;exact key h4 h8 h
  ·obtain ⟨a,vs,k,rfl,h2,_,h4⟩:=ra.tup_inv;obtain ⟨b,ws,k',e,h6,_,h8⟩:=rb.tup_inv;cases e;rw [h2] at h6;have:vs=ws:=by injection h6 with q;injection q with _ _ q;injection q with q;simpa using q
   subst this;rw [if_pos (by rw [←h4.length,←h8.length])] at h;exact key h4 h8 h
  ·obtain ⟨a,ds,k,rfl,_,h2,_,n4,h4⟩:=ra.dict_inv;obtain ⟨b,ws,k',e,_,h6,_,n8,h8⟩:=rb.dict_inv;cases e;rw [h2] at h6;have:ds=ws:=by injection h6 with q;injection q with _ _ q;injection q with q;simpa using q
   subst this;rw [if_pos (by rw [←h4.length,←h8.length])] at h;exact keyD n8 h4 h8 h
  all_goals first
   |(have e1:=ra.none_inv;subst e1;first | (obtain ⟨_,e⟩:=rb.str_inv;cases e) | (obtain ⟨_,e⟩:=rb.int_inv;cases e) | (obtain ⟨_,_,_,e,_⟩:=rb.list_inv;cases e))
   |(have e1:=rb.none_inv;subst e1;first | (obtain ⟨_,e⟩:=ra.str_inv;cases e) | (obtain ⟨_,e⟩:=ra.int_inv;cases e) | (obtain ⟨_,_,_,e,_⟩:=ra.list_inv;cases e))
   |(obtain ⟨_,rfl⟩:=ra.str_inv;first | (obtain ⟨_,e⟩:=rb.int_inv;cases e) | (obtain ⟨_,_,_,e,_⟩:=rb.list_inv;cases e) | (obtain ⟨_,_,_,e,_⟩:=rb.tup_inv;cases e))
   |(obtain ⟨_,rfl⟩:=rb.str_inv;first | (obtain ⟨_,e⟩:=ra.int_inv;cases e) | (obtain ⟨_,_,_,e,_⟩:=ra.list_inv;cases e) | (obtain ⟨_,_,_,e,_⟩:=ra.tup_inv;cases e))
   |cases h
section
variable {s:Shared}{A:Around}
theorem Zel {f:T→T→Option Bool}{es':List (Str×T)}{ds':List DictEntry}(rb:RepD c G es' ds')(he:∀{ta tb:T} {va vb:Value} {r:Bool},Rep c G ta va→Rep c G tb vb→f ta tb=some r→EqAt A s va vb r):
  ∀{es:List (Str×T)} {ds:List DictEntry} {r:Bool},RepD c G es ds→eqD f es es'=some r→Hits c A s ds' ds r
 |[],_,_,ra,h=>by unfold RepD at ra;subst ra;simp only [eqD] at h;cases h;exact .nil
 |(k,t)::es,_,r,ra,h=>by
  unfold RepD at ra;obtain ⟨v,tk,ds,rfl,h2,h3⟩:=ra;have hf:=RepD.find (k:=k) rb;simp only [eqD] at h
  cases hl:es'.lookup k with
  |none=>
   rw [hl] at h hf;simp only at h;cases h;exact .miss rfl hf
  |some t'=>
   rw [hl] at h hf;obtain ⟨i,e,i1,i2,i3⟩:=hf;simp only at h
   cases q:f t t' with
   |none=>rw [q] at h;cases h
   |some b=>
    rw [q] at h
    cases b with
    |true=>
     have:=Hits.hit (e:=(⟨c.H k,.str k tk,v⟩:DictEntry)) rfl i1 i2 (he h2 i3 q) (Zel rb he h3 h);simpa using this
    |false=>
     simp only at h
     cases q':eqD f es es' with
     |none=>rw [q'] at h;cases h
     |some r'=>
      rw [q'] at h;cases h;have:=Hits.hit (e:=(⟨c.H k,.str k tk,v⟩:DictEntry)) rfl i1 i2 (he h2 i3 q) (Zel rb he h3 q');simpa using this
theorem Jo {h:Heap}{a:Addr}{vs:List Value}{n:Nat}(e:h.get? a=some (Zdm vs n)):h.IsTuple a vs.toArray:=⟨_,e,rfl,n,rfl⟩
theorem Zva {n:Nat}{e e':Nat→Bool}(h:∀j,j < n→e j=e' j):(List.range n).all e=(List.range n).all e':=by
 apply Bool.eq_iff_iff.mpr;simp only [List.all_eq_true,List.mem_range];exact ⟨fun q j hj=>(h j hj)▸q j hj,fun q j hj=>(h j hj).symm▸q j hj⟩
theorem Zdy {A:Around}{f:T→T→Option Bool}{ts us:List T}{vs ws:List Value}{e:Nat→Bool}(h4:RepL c G ts vs)(h8:RepL c G us ws)(he:∀j a b,ts[j]?=some a→us[j]?=some b→f a b=some (e j))
  (deep:∀{ta tb:T} {va vb:Value} {r:Bool},Rep c G ta va→Rep c G tb vb→f ta tb=some r→EqAt A s va vb r):
  ∀j (h1:j < vs.toArray.size) (h2:j < ws.toArray.size),EqAt A s vs.toArray[j] ws.toArray[j] (e j):=by
 intro j h1 h2;have j1:j < ts.length:=by rw [←h4.length];simpa using h1
 have j2:j < us.length:=by rw [←h8.length];simpa using h2
 obtain ⟨v,q1,q2⟩:=h4.get (List.getElem?_eq_getElem j1);obtain ⟨v',q3,q4⟩:=h8.get (List.getElem?_eq_getElem j2);have e1:vs.toArray[j]=v:=by rw [List.getElem?_eq_getElem (by simpa using h1)] at q1;simpa using q1
 have e2:ws.toArray[j]=v':=by rw [List.getElem?_eq_getElem (by simpa using h2)] at q3;simpa using q3
 rw [e1,e2];exact deep q2 q4 (he j _ _ (List.getElem?_eq_getElem j1) (List.getElem?_eq_getElem j2))
theorem Zfi (S:∀a o,G.obj a=some o→s.heap.get? a=some o):∀(n:Nat) {A:Around} {ta tb:T} {va vb:Value} {r:Bool},A.units+n < cLine→Rep c G ta va→Rep c G tb vb→eqT n ta tb=some r→
  RcAt A s va vb r∧EqAt A s va vb r
 |0,_,_,_,_,_,_,_,_,_,h=>by simp [eqT] at h
 |n+1,A,ta,tb,va,vb,r,hu,ra,rb,h=>by
  have hu0:A.units < cLine:=by omega
  have deep:∀{ta tb:T} {va vb:Value} {r:Bool},Rep c G ta va→Rep c G tb vb→eqT n ta tb=some r→EqAt A.in1 s va vb r:=
   fun ra rb h=>(Zfi S n (A:=A.in1) (by show A.units+1+n < cLine;omega) ra rb h).2
  have up:∀{a b:Addr} {r:Bool},va=.ref a→vb=.ref b→eqT (n+1) ta tb=some r→RcAt A s va vb r→RcAt A s va vb r∧EqAt A s va vb r:=by
   intro a b r e1 e2 hq R;refine ⟨R,?_⟩;subst e1 e2
   by_cases hab:a=b
   ·subst hab;rw [Zgi (n+1) ra rb hq];exact EqAt.same _
   ·exact EqAt.of_refs hab R
  have h0:=h;unfold eqT at h;split at h
  ·rw [ra.none_inv,rb.none_inv];cases h;exact ⟨RcAt.none_none,EqAt.same _⟩
  ·rw [ra.bool_inv,rb.bool_inv];cases h;exact ⟨RcAt.bool_bool _ _,EqAt.bool_bool _ _⟩
  ·obtain ⟨t,rfl⟩:=ra.int_inv;obtain ⟨u,rfl⟩:=rb.int_inv;cases h;exact ⟨RcAt.int_int _ _ _ _,EqAt.int_int _ _ _ _⟩
  ·obtain ⟨t,rfl⟩:=ra.str_inv;obtain ⟨u,rfl⟩:=rb.str_inv;cases h;exact ⟨RcAt.str_str _ _ _ _,EqAt.str_str _ _ _ _⟩
  ·obtain ⟨a,vs,k,rfl,h2,_,h4⟩:=ra.list_inv;obtain ⟨b,ws,k',rfl,h6,_,h8⟩:=rb.list_inv;refine up rfl rfl h0 ?_;split at h
   ·rename_i hl;obtain ⟨_,e,he,hr⟩:=Zb6 h;rw [hr,←h4.length];have:=RcAt.lists (A:=A) (s:=s) (items:=vs.toArray) (items2:=ws.toArray) (e:=e) (Zz (S _ _ h2)) (Zz (S _ _ h6)) (by simp [h4.length,h8.length,hl]) hu0 (Zdy h4 h8 he deep);simpa using this
   ·rename_i hl;cases h;exact RcAt.lists_lengths (Zz (S _ _ h2)) (Zz (S _ _ h6)) (by simp [h4.length,h8.length,hl]) hu0
  ·obtain ⟨a,vs,k,rfl,h2,_,h4⟩:=ra.tup_inv;obtain ⟨b,ws,k',rfl,h6,_,h8⟩:=rb.tup_inv;refine up rfl rfl h0 ?_;split at h
   ·rename_i hl;obtain ⟨_,e,he,hr⟩:=Zb6 h;rw [hr,←h4.length];have hl':vs.length=ws.length:=by rw [h4.length,h8.length,hl]
    have:=RcAt.tuples (A:=A) (s:=s) (items:=vs.toArray) (items2:=ws.toArray) (e:=e) (Jo (S _ _ h2)) (Jo (S _ _ h6)) hu0 (Zdy h4 h8 he deep);simpa [hl'] using this
   ·cases h
  ·obtain ⟨a,ds,k,rfl,m1,h2,_,n4,h4⟩:=ra.dict_inv;obtain ⟨b,ws,k',rfl,m2,h6,_,n8,h8⟩:=rb.dict_inv;refine up rfl rfl h0 ?_;split at h
   ·rename_i hl;have:=Zkr (c:=c) m1 m2 (S _ _ h2) (S _ _ h6) h8.strs hu0 (fun _=>Zel h8 deep h4 h);simpa [h4.length,h8.length,hl] using this
   ·rename_i hl;cases h;have:=Zkr (c:=c) (r:=false) m1 m2 (S _ _ h2) (S _ _ h6) h8.strs hu0 (fun q=>absurd (by rw [←h4.length,←h8.length];exact q) hl);simpa using this
  ·obtain ⟨u,rfl⟩:=rb.str_inv;rw [ra.none_inv];cases h;exact ⟨RcAt.none_str _ _,EqAt.none_str _ _⟩
  ·obtain ⟨u,rfl⟩:=rb.int_inv;rw [ra.none_inv];cases h;exact ⟨RcAt.none_int _ _,EqAt.none_int _ _⟩
  ·obtain ⟨b,ws,k',rfl,h6,_,h8⟩:=rb.list_inv;rw [ra.none_inv];cases h;exact ⟨RcAt.none_list (Zz (S _ _ h6)) hu0,EqAt.none_list (Zz (S _ _ h6)) hu0⟩
  ·obtain ⟨u,rfl⟩:=ra.str_inv;rw [rb.none_inv];cases h;exact ⟨RcAt.str_none _ _,EqAt.str_none _ _⟩
  ·obtain ⟨u,rfl⟩:=ra.int_inv;rw [rb.none_inv];cases h;exact ⟨RcAt.int_none _ _,EqAt.int_none _ _⟩
  ·obtain ⟨b,ws,k',rfl,h6,_,h8⟩:=ra.list_inv;rw [rb.none_inv];cases h;exact ⟨RcAt.list_none (Zz (S _ _ h6)) hu0,EqAt.list_none (Zz (S _ _ h6)) hu0⟩
  ·obtain ⟨u,rfl⟩:=ra.str_inv;obtain ⟨b,ws,k',rfl,h6,_,h8⟩:=rb.tup_inv;cases h;exact ⟨RcAt.str_tuple _ _ (Jo (S _ _ h6)) hu0,EqAt.str_tuple _ _ (Jo (S _ _ h6)) hu0⟩
  ·obtain ⟨u,rfl⟩:=rb.str_inv;obtain ⟨b,ws,k',rfl,h6,_,h8⟩:=ra.tup_inv;cases h;exact ⟨RcAt.tuple_str _ _ (Jo (S _ _ h6)) hu0,EqAt.tuple_str _ _ (Jo (S _ _ h6)) hu0⟩
  ·obtain ⟨u,rfl⟩:=ra.str_inv;obtain ⟨t,rfl⟩:=rb.int_inv;cases h;exact ⟨RcAt.str_int _ _ _ _,EqAt.str_int _ _ _ _⟩
  ·obtain ⟨u,rfl⟩:=ra.int_inv;obtain ⟨t,rfl⟩:=rb.str_inv;cases h;exact ⟨RcAt.int_str _ _ _ _,EqAt.int_str _ _ _ _⟩
  ·obtain ⟨u,rfl⟩:=rb.str_inv;obtain ⟨b,ws,k',rfl,h6,_,h8⟩:=ra.list_inv;cases h;exact ⟨RcAt.list_str _ _ (Zz (S _ _ h6)) hu0,EqAt.list_str _ _ (Zz (S _ _ h6)) hu0⟩
  ·obtain ⟨u,rfl⟩:=ra.str_inv;obtain ⟨b,ws,k',rfl,h6,_,h8⟩:=rb.list_inv;cases h;exact ⟨RcAt.str_list _ _ (Zz (S _ _ h6)) hu0,EqAt.str_list _ _ (Zz (S _ _ h6)) hu0⟩
  ·cases h
end
end
section
variable {prog:Program}{c:Cx}{G:Gh}{h:Heap}
theorem RepD.mem:∀{es:List (Str×T)} {ds:List DictEntry},RepD c G es ds→∀e∈ds,∃k t,e.key=.str k t∧e.hash=c.H k
 |[],_,h=>by unfold RepD at h;subst h;intro e he;cases he
 |(k,t)::es,_,h=>by
  unfold RepD at h;obtain ⟨v,tk,r,rfl,h2,h3⟩:=h;intro e he;rcases List.mem_cons.mp he with rfl | he
  ·exact ⟨k,tk,rfl,rfl⟩
  ·exact RepD.mem h3 e he
theorem Zd8 {a:Addr}{es:List (Str×T)}{ds:List DictEntry}{n:Nat}(e:h.get? a=some (Zn ds n))(r:RepD c G es ds):
  h.MapOf (strKind prog c.w) a (fun k=>findBy Value.isStrOf ds.toArray k):=
 ⟨_,ds.toArray,n,e,⟨rfl,rfl,rfl⟩,rfl,fun e he=>by
  obtain ⟨k,t,e1,e2⟩:=r.mem e (by simpa using he);exact ⟨k,by rw [e1];exact strKind_is prog c.w k t,e2⟩,fun _=>rfl⟩
theorem Zgf {es:List (Str×T)}{ds:List DictEntry}(r:RepD c G es ds)(k:Str):match es.lookup k with
  |none=>findBy Value.isStrOf ds.toArray k=none
  |some t=>∃v,findBy Value.isStrOf ds.toArray k=some v∧Rep c G t v:=by
 have q:=RepD.find (k:=k) r;have e:(fun e:DictEntry=>Value.isStrOf k e.key)=fun e=>e.key.isStr k:=funext fun d=>(isStr_of k d.key).symm
 rw [findBy_of_findIdx?,e]
 cases hl:es.lookup k with
 |none=>rw [hl] at q;rw [q]
 |some t=>
  rw [hl] at q;obtain ⟨i,e,i1,i2,i3⟩:=q;rw [i1];exact ⟨e.val,by show Option.map (fun x=>x.val) ds.toArray[i]?=_;rw [i2];rfl,i3⟩
theorem Zj6 {es:List (Str×T)}{ds:List DictEntry}(r:RepD c G es ds)(k:Str):(findBy Value.isStrOf ds.toArray k).isSome=(es.lookup k).isSome:=by
 have q:=Zgf r k
 cases hl:es.lookup k with
 |none=>rw [hl] at q;rw [q];rfl
 |some t=>rw [hl] at q;obtain ⟨v,e,_⟩:=q;rw [e];rfl
end
section
variable {prog:Program}{c:Cx}{A:Around}{I:Inv (frs A)}{Γ:Gh}{σ:Sg}{s:Shared}{E:Value→Shared→Prop}
theorem Zsv {a b:Value}{k:Bool}{Q:Value→Shared→Prop}(h:RcAt A s a b k)(q:Q (.bool k) s):wpAny (model prog c.w) A (compareOp .Eq a b) Q E s:=h prog c.w E Q q
theorem Qd {a b:Value}{k:Bool}{Q:Value→Shared→Prop}(h:RcNeAt A s a b k)(q:Q (.bool k) s):wpAny (model prog c.w) A (compareOp .NotEq a b) Q E s:=h prog c.w E Q q
theorem Zsr {ta tb:T}{va vb:Value}{r:Bool}{Q:Value→Shared→Prop}(P:Pre c A I Γ σ s)(hu:A.units+50 < cLine)(ra:Rep c Γ ta va)(rb:Rep c Γ tb vb)(h:eqT eqN ta tb=some r)(q:Q (.bool r) s):
  wpAny (model prog c.w) A (compareOp .Eq va vb) Q E s:=Zsv (Zfi P.st.obj eqN (by unfold eqN;omega) ra rb h).1 q
theorem Zo7 {ta tb:T}{va vb:Value}{r:Bool}{Q:Value→Shared→Prop}(P:Pre c A I Γ σ s)(hu:A.units+50 < cLine)(ra:Rep c Γ ta va)(rb:Rep c Γ tb vb)(h:eqT eqN ta tb=some r)(q:Q (.bool (!r)) s):
  wpAny (model prog c.w) A (compareOp .NotEq va vb) Q E s:=by
 have S:=P.st.obj;have hu0:A.units < cLine:=by omega
 have deep:∀{ta tb:T} {va vb:Value} {r:Bool},Rep c Γ ta va→Rep c Γ tb vb→eqT 8 ta tb=some r→EqAt A.in1 s va vb r:=
   fun ra rb h=>(Zfi S 8 (A:=A.in1) (by show A.units+1+8 < cLine;omega) ra rb h).2
 unfold eqN eqT at h;split at h
 ·rw [ra.none_inv,rb.none_inv];cases h;exact Qd RcNeAt.none_none q
 ·rw [ra.bool_inv,rb.bool_inv];cases h;exact Qd (RcNeAt.bool_bool _ _) q
 ·obtain ⟨t,rfl⟩:=ra.int_inv;obtain ⟨u,rfl⟩:=rb.int_inv;cases h;exact Qd (RcNeAt.int_int _ _ _ _) q
 ·obtain ⟨t,rfl⟩:=ra.str_inv;obtain ⟨u,rfl⟩:=rb.str_inv;cases h;exact Qd (RcNeAt.str_str _ _ _ _) q
 ·obtain ⟨a,vs,k,rfl,h2,_,h4⟩:=ra.list_inv;obtain ⟨b,ws,k',rfl,h6,_,h8⟩:=rb.list_inv;split at h
  ·rename_i hl;obtain ⟨_,e,he,hr⟩:=Zb6 h;have:=RcNeAt.lists (A:=A) (s:=s) (items:=vs.toArray) (items2:=ws.toArray) (e:=e) (Zz (S _ _ h2)) (Zz (S _ _ h6)) (by simp [h4.length,h8.length,hl]) hu0 (Zdy h4 h8 he deep);refine Qd this ?_;rw [hr,←h4.length] at q;simpa using q
  ·rename_i hl;cases h;exact Qd (RcNeAt.lists_lengths (Zz (S _ _ h2)) (Zz (S _ _ h6)) (by simp [h4.length,h8.length,hl]) hu0) q
 ·obtain ⟨a,vs,k,rfl,h2,_,h4⟩:=ra.tup_inv;obtain ⟨b,ws,k',rfl,h6,_,h8⟩:=rb.tup_inv;split at h
  ·rename_i hl;obtain ⟨_,e,he,hr⟩:=Zb6 h;have hl':vs.length=ws.length:=by rw [h4.length,h8.length,hl]
   have:=RcNeAt.tuples (A:=A) (s:=s) (items:=vs.toArray) (items2:=ws.toArray) (e:=e) (Jo (S _ _ h2)) (Jo (S _ _ h6)) hu0 (Zdy h4 h8 he deep);refine Qd this ?_;rw [hr,←h4.length] at q;simpa [hl'] using q
  ·cases h
 ·obtain ⟨a,ds,k,rfl,m1,h2,_,n4,h4⟩:=ra.dict_inv;obtain ⟨b,ws,k',rfl,m2,h6,_,n8,h8⟩:=rb.dict_inv;split at h
  ·rename_i hl;refine Zkq (c:=c) m1 m2 (S _ _ h2) (S _ _ h6) h8.strs hu0 (fun _=>Zel h8 deep h4 h) ?_;simpa [h4.length,h8.length,hl] using q
  ·rename_i hl;cases h;refine Zkq (c:=c) (r:=false) m1 m2 (S _ _ h2) (S _ _ h6) h8.strs hu0 (fun q=>absurd (by rw [←h4.length,←h8.length];exact q) hl) ?_;simpa using q
 ·obtain ⟨u,rfl⟩:=rb.str_inv;rw [ra.none_inv];cases h;exact Qd (RcNeAt.none_str _ _) q
 ·obtain ⟨u,rfl⟩:=rb.int_inv;rw [ra.none_inv];cases h;exact Qd (RcNeAt.none_int _ _) q
 ·obtain ⟨b,ws,k',rfl,h6,_,h8⟩:=rb.list_inv;rw [ra.none_inv];cases h;exact Qd (RcNeAt.none_list (Zz (S _ _ h6)) hu0) q
 ·obtain ⟨u,rfl⟩:=ra.str_inv;rw [rb.none_inv];cases h;exact Qd (RcNeAt.str_none _ _) q
 ·obtain ⟨u,rfl⟩:=ra.int_inv;rw [rb.none_inv];cases h;exact Qd (RcNeAt.int_none _ _) q
 ·obtain ⟨b,ws,k',rfl,h6,_,h8⟩:=ra.list_inv;rw [rb.none_inv];cases h;exact Qd (RcNeAt.list_none (Zz (S _ _ h6)) hu0) q
 ·obtain ⟨u,rfl⟩:=ra.str_inv;obtain ⟨b,ws,k',rfl,h6,_,h8⟩:=rb.tup_inv;cases h;exact Qd (RcNeAt.str_tuple _ _ (Jo (S _ _ h6)) hu0) q
 ·obtain ⟨u,rfl⟩:=rb.str_inv;obtain ⟨b,ws,k',rfl,h6,_,h8⟩:=ra.tup_inv;cases h;exact Qd (RcNeAt.tuple_str _ _ (Jo (S _ _ h6)) hu0) q
 ·obtain ⟨u,rfl⟩:=ra.str_inv;obtain ⟨t,rfl⟩:=rb.int_inv;cases h;exact Qd (RcNeAt.str_int _ _ _ _) q
 ·obtain ⟨u,rfl⟩:=ra.int_inv;obtain ⟨t,rfl⟩:=rb.str_inv;cases h;exact Qd (RcNeAt.int_str _ _ _ _) q
 ·obtain ⟨u,rfl⟩:=rb.str_inv;obtain ⟨b,ws,k',rfl,h6,_,h8⟩:=ra.list_inv;cases h;exact Qd (RcNeAt.list_str _ _ (Zz (S _ _ h6)) hu0) q
 ·obtain ⟨u,rfl⟩:=ra.str_inv;obtain ⟨b,ws,k',rfl,h6,_,h8⟩:=rb.list_inv;cases h;exact Qd (RcNeAt.str_list _ _ (Zz (S _ _ h6)) hu0) q
 ·cases h
def Look (c:Cx)(G:Gh)(h:Heap)(t:T)(v:Value):Prop:=match t with
 |.list ts=>∃a vs n,v=.ref a∧h.get? a=some (Zt vs n)∧vs.length≤sizeLine∧RepL c G ts vs
 |.dict es=>∃a ds n,v=.ref a∧(a == sysModules)=false∧h.get? a=some (Zn ds n)∧ds.length≤sizeLine∧(es.map (·.1)).Nodup∧RepD c G es ds
 |.vec ..=>∃a d o,v=.ref a∧h.get? a=some (instObj c.vec d)∧h.get? d=some o
 |t=>Rep c G t v
theorem Rep.look {G:Gh}{σ:Sg}{h:Heap}{t:T}{v:Value}(S:St c G σ h)(r:Rep c G t v):Look c G h t v:=by
 cases t with
 |list ts=>obtain ⟨a,vs,n,e,h1,z,h2⟩:=r.list_inv;exact ⟨a,vs,n,e,S.obj _ _ h1,z,h2⟩
 |dict es=>obtain ⟨a,ds,n,e,m,h1,z,nd,h2⟩:=r.dict_inv;exact ⟨a,ds,n,e,m,S.obj _ _ h1,z,nd,h2⟩
 |vec k its at'=>unfold Rep at r;obtain ⟨a,d,_,_,_,_,_,_,e,h1,hi,_⟩:=r;obtain ⟨_,_,_,_,_,_,_,q⟩:=S.idc _ _ hi;exact ⟨a,d,_,e,S.obj _ _ h1,q⟩
 |_=>exact r
theorem Now.look {G:Gh}{σ:Sg}{h:Heap}{t:T}{v:Value}(r:Now c G σ h t v):Look c G h t v:=by
 obtain ⟨es,sv,a,d,ik,ii,rfl,_,_,_,_,D,ds,n,e,m,_,_,h1,z,nd,h2⟩:=r;exact ⟨D,ds,n,e,m,h1,z,nd,h2⟩
theorem OwnAt.look {G:Gh}{h:Heap}{fr:List Addr}{t:T}{k:Kd}{v:Value}{as:List Addr}(y:OwnAt c G h fr t k v as):Look c G h t v:=by
 unfold OwnAt at y;split at y
 ·obtain ⟨a,vs,n,rfl,rfl,e,z,r,l,f⟩:=y;exact ⟨a,vs,n,rfl,e,z,r⟩
 ·obtain ⟨a,ds,n,rfl,rfl,nm,e,z,nd,r,l,f⟩:=y;exact ⟨a,ds,n,rfl,nm,e,z,nd,r⟩
 ·obtain ⟨a,d,ik,ii,ia,t,rfl,rfl,hne,e,⟨_,_,_,_,_,_,_,q⟩,_⟩:=y;exact ⟨a,d,_,rfl,e,q⟩
 ·obtain ⟨a,d,b,ik,ia,t,vs,n,rfl,rfl,ne1,ne2,ne3,e,⟨_,_,_,_,_,_,_,q⟩,_⟩:=y;exact ⟨a,d,_,rfl,e,q⟩
 ·exact y.elim
theorem Zed {G:Gh}{A:Around}{x:T}{vx:Value}{ts:List T}{vs:List Value}{r:Bool}(rx:Rep c G x vx)(rl:RepL c G ts vs)(h:inTs x ts=some r):
  ∃e:Value→Bool,(∀y,y∈vs.toArray→EqAt A s y vx (e y))∧vs.toArray.any e=r:=by
 unfold inTs at h;split at h
 ·rename_i k;obtain ⟨u,rfl⟩:=rx.str_inv;split at h
  ·rename_i hall;cases h;refine ⟨fun y=>y.isStr k,?_,?_⟩
   ·intro y hy;have hy:y∈vs:=by simpa using hy
    skip
    induction ts generalizing vs with
    |nil=>unfold RepL at rl;subst rl;cases hy
    |cons t ts ih=>
     unfold RepL at rl;obtain ⟨v,r,rfl,h2,h3⟩:=rl;simp only [List.all_cons,Bool.and_eq_true] at hall;rcases List.mem_cons.mp hy with rfl | hy
     ·cases t<;>first | (cases hall.1;done) | skip
      ·rw [h2.none_inv];exact EqAt.none_str _ _
      ·obtain ⟨z,rfl⟩:=h2.int_inv;exact EqAt.int_str _ _ _ _
      ·obtain ⟨z,rfl⟩:=h2.str_inv;exact EqAt.str_str _ _ _ _
     ·exact ih h3 hall.2 (by simpa using hy) hy
   ·induction ts generalizing vs with
    |nil=>unfold RepL at rl;subst rl;simp
    |cons t ts ih=>
     unfold RepL at rl;obtain ⟨v,r,rfl,h2,h3⟩:=rl;simp only [List.all_cons,Bool.and_eq_true] at hall;have:=ih h3 hall.2;simp only [List.any_toArray,List.any_cons] at this ⊢;rw [this];congr 1;cases t<;>first | (cases hall.1;done) | skip
     ·rw [h2.none_inv];rfl
     ·obtain ⟨z,rfl⟩:=h2.int_inv;rfl
     ·obtain ⟨z,rfl⟩:=h2.str_inv;rename_i x;show (x == k)=decide (x=k)
      by_cases q:x=k<;>simp [q]
  ·cases h
 ·have:=rx.none_inv;subst this;split at h
  ·rename_i hall;cases h;refine ⟨fun y=>y == .none,?_,?_⟩
   ·intro y hy;have hy:y∈vs:=by simpa using hy
    skip
    induction ts generalizing vs with
    |nil=>unfold RepL at rl;subst rl;cases hy
    |cons t ts ih=>
     unfold RepL at rl;obtain ⟨v,r,rfl,h2,h3⟩:=rl;simp only [List.all_cons,Bool.and_eq_true] at hall;rcases List.mem_cons.mp hy with rfl | hy
     ·cases t<;>first | (cases hall.1;done) | skip
      ·rw [h2.none_inv];exact EqAt.same _
      ·obtain ⟨z,rfl⟩:=h2.int_inv;exact EqAt.int_none _ _
      ·obtain ⟨z,rfl⟩:=h2.str_inv;exact EqAt.str_none _ _
     ·exact ih h3 hall.2 (by simpa using hy) hy
   ·induction ts generalizing vs with
    |nil=>unfold RepL at rl;subst rl;simp
    |cons t ts ih=>
     unfold RepL at rl;obtain ⟨v,r,rfl,h2,h3⟩:=rl;simp only [List.all_cons,Bool.and_eq_true] at hall;have:=ih h3 hall.2;simp only [List.any_toArray,List.any_cons] at this ⊢;rw [this];congr 1;cases t<;>first | (cases hall.1;done) | skip
     ·rw [h2.none_inv];rfl
     ·obtain ⟨z,rfl⟩:=h2.int_inv;rfl
     ·obtain ⟨z,rfl⟩:=h2.str_inv;rfl
  ·cases h
 ·cases h
theorem Zrx {ta tb:T}{va vb:Value}{r:Bool}{Q:Value→Shared→Prop}(P:Pre c A I Γ σ s)(ra:Rep c Γ ta va)(rb:Look c Γ s.heap tb vb)(h:cmpT .In ta tb=some r)(q:∀k,Q (.bool r) { s with toks:=k }):
  wpAny (model prog c.w) A (compareOp .In va vb) Q E s:=by
 cases tb<;>first | (exfalso;revert h;cases ta<;>intro h<;>cases h<;>done) | skip
 case tup ts=>
  have h:inTs ta ts=some r:=by cases ta<;>exact h
  obtain ⟨b,ws,k',rfl,h6,_,h8⟩:=Rep.tup_inv (show Rep c Γ (.tup ts) vb from rb);obtain ⟨e,he,hr⟩:=Zed (A:=A.in1) (s:=s) ra h8 h;exact PySem.SeqAt.in_tupleAt e (Jo (P.st.obj _ _ h6)) he (by rw [hr];exact q s.toks)
 case list ts=>
  have h:inTs ta ts=some r:=by cases ta<;>exact h
  obtain ⟨b,ws,k',rfl,h6,_,h8⟩:=rb;obtain ⟨e,he,hr⟩:=Zed (A:=A.in1) (s:=s) ra h8 h;exact PySem.SeqAt.in_listAt e (Zz h6) he (by rw [hr];exact q s.toks)
 case dict es=>
  obtain ⟨b,ds,k',rfl,m,h6,_,_,h8⟩:=rb;cases ta<;>first | (exfalso;cases h;done) | skip
  rename_i k;obtain ⟨u,rfl⟩:=ra.str_inv;have h:some (es.lookup k).isSome=some r:=h;refine wpAny_in_of (strKind_is prog c.w k u) m (Zd8 (prog:=prog) h6 h8) ?_;rw [Zj6 h8,Option.some.inj h];exact q _
theorem Zo2 {ta tb:T}{va vb:Value}{r:Bool}{Q:Value→Shared→Prop}(P:Pre c A I Γ σ s)(ra:Rep c Γ ta va)(rb:Look c Γ s.heap tb vb)(h:cmpT .NotIn ta tb=some r)(q:∀k,Q (.bool r) { s with toks:=k }):
  wpAny (model prog c.w) A (compareOp .NotIn va vb) Q E s:=by
 cases tb<;>first | (exfalso;revert h;cases ta<;>intro h<;>cases h<;>done) | skip
 case tup ts=>
  have h:(inTs ta ts).map (!·)=some r:=by cases ta<;>exact h
  obtain ⟨r',h1,h2⟩:=Option.map_eq_some_iff.mp h;obtain ⟨b,ws,k',rfl,h6,_,h8⟩:=Rep.tup_inv (show Rep c Γ (.tup ts) vb from rb);obtain ⟨e,he,hr⟩:=Zed (A:=A.in1) (s:=s) ra h8 h1;exact PySem.SeqAt.notIn_tupleAt e (Jo (P.st.obj _ _ h6)) he (by rw [hr,h2];exact q s.toks)
 case list ts=>
  have h:(inTs ta ts).map (!·)=some r:=by cases ta<;>exact h
  obtain ⟨r',h1,h2⟩:=Option.map_eq_some_iff.mp h;obtain ⟨b,ws,k',rfl,h6,_,h8⟩:=rb;obtain ⟨e,he,hr⟩:=Zed (A:=A.in1) (s:=s) ra h8 h1;exact PySem.SeqAt.notIn_listAt e (Zz h6) he (by rw [hr,h2];exact q s.toks)
 case dict es=>
  obtain ⟨b,ds,k',rfl,m,h6,_,_,h8⟩:=rb;cases ta<;>first | (exfalso;cases h;done) | skip
  rename_i k;obtain ⟨u,rfl⟩:=ra.str_inv;have h:some (!(es.lookup k).isSome)=some r:=h;refine wpAny_notIn_of (strKind_is prog c.w k u) m (Zd8 (prog:=prog) h6 h8) ?_;rw [Zj6 h8,Option.some.inj h];exact q _
end
section
variable {α β γ:Type}
theorem M.bind_ok {m:M α}{f:α→M β}{σ σ':Sg}{a:α}(e:m σ=.ok a σ'):(m>>=f) σ=f a σ':=by show M.bind m f σ=_;unfold M.bind;rw [e]
theorem M.bind_exn {m:M α}{f:α→M β}{σ σ':Sg}{x:Str}(e:m σ=.exn x σ'):(m>>=f) σ=.exn x σ':=by show M.bind m f σ=_;unfold M.bind;rw [e]
theorem M.bind_ne {m:M α}{f:α→M β}{σ:Sg}(ne:(m>>=f) σ≠.stuck):m σ≠.stuck:=fun q=>ne (by show M.bind m f σ=_;unfold M.bind;rw [q])
theorem M.assoc (m:M α)(f:α→M β)(g:β→M γ):((m>>=f)>>=g)=(m>>=fun a=>f a>>=g):=by
 funext σ;show M.bind (M.bind m f) g σ=M.bind m (fun a=>M.bind (f a) g) σ;unfold M.bind;cases m σ<;>rfl
theorem M.pure_bind' (a:α)(f:α→M β):((pure a:M α)>>=f)=f a:=rfl
theorem Zct {o:Option α}{f:α→M β}{σ:Sg}(ne:(Zl o>>=f) σ≠.stuck):∃a,o=some a:=by
 cases o with
 |none=>exact absurd rfl ne
 |some a=>exact ⟨a,rfl⟩
theorem Zd2 {o:Option α}{σ:Sg}(ne:(Zl o:M α) σ≠.stuck):∃a,o=some a:=by
 cases o with
 |none=>exact absurd rfl ne
 |some a=>exact ⟨a,rfl⟩
end
def RF (c:Cx)(_:Heap)(G:Gh)(σ:Sg)(h:Heap)(r:T×Kd)(v:Value):Prop:=(r.2=.h∧Now c G σ h r.1 v)∨(r.2≠.h∧Rep c G r.1 v)
def RL (c:Cx)(_:Heap)(G:Gh)(_:Sg)(h:Heap)(t:T)(v:Value):Prop:=Look c G h t v
theorem Zvo {c:Cx}:Back (RF c):=fun _ _ _ _ _ _ _ _ x=>x
theorem Zvn {c:Cx}:Back (RL c):=fun _ _ _ _ _ _ _ _ x=>x
def RS (c:Cx)(_:Heap)(G:Gh)(_:Sg)(_:Heap)(r:T×Kd)(v:Value):Prop:=r.2≠.h∧Rep c G r.1 v
theorem Zvl {c:Cx}:Back (RS c):=fun _ _ _ _ _ _ _ _ x=>x
section
variable {prog:Program}{c:Cx}{A:Around}{I:Inv (frs A)}{α β γ δ:Type}{Γ Γ₁:Gh}{σ σ₁:Sg}{s s₁:Shared}
theorem RF.weak {pre h:Heap}{r:T×Kd}{v:Value}(x:RF c pre Γ σ h r v):RW c pre Γ σ h r v:=by
 rcases x with ⟨k,x⟩ | x
 ·obtain ⟨es,_,_,_,_,_,e,_,_,_,_,D,_,_,e2,_⟩:=x;exact .inl ⟨k,es,D,e,e2⟩
 ·exact .inr x
theorem RW.step {pre pre' h h':Heap}{fr:List Addr}{r:T×Kd}{v:Value}(x:RW c pre Γ σ h r v)(y:Step fr Γ σ h Γ₁ σ₁ h'):RW c pre' Γ₁ σ₁ h' r v:=by
 rcases x with x | ⟨k,x⟩
 ·exact .inl x
 ·exact .inr ⟨k,Rep.mono y.le _ _ x⟩
theorem RS.step {pre pre' h h':Heap}{fr:List Addr}{r:T×Kd}{v:Value}(x:RS c pre Γ σ h r v)(y:Step fr Γ σ h Γ₁ σ₁ h'):RS c pre' Γ₁ σ₁ h' r v:=⟨x.1,Rep.mono y.le _ _ x.2⟩
theorem IDict.inj {h:Heap}{d:Addr}{x y:Value×Value×Value}(p:IDict c h d x)(q:IDict c h d y):x=y:=by
 obtain ⟨_,_,_,_,_,_,_,p⟩:=p;obtain ⟨_,_,_,_,_,_,_,q⟩:=q;rw [p] at q;have q:=congrArg Obj.data (Option.some.inj q);unfold Za5 at q;injection q with q _;have q:_=_:=congrArg Array.toList q;simp at q;exact Prod.ext q.1.2 (Prod.ext q.2.1.2 q.2.2.1.2)
theorem Now.step {fr:List Addr}{h h':Heap}{t:T}{v:Value}(S:St c Γ σ h)(S':St c Γ₁ σ₁ h')(x:Now c Γ σ h t v)(y:Step fr Γ σ h Γ₁ σ₁ h')(e:σ₁.self.map (·.ep)=σ.self.map (·.ep)):Now c Γ₁ σ₁ h' t v:=by
 obtain ⟨es,sv,a,d,ik,ii,rfl,h1,h2,h3,h4,h5⟩:=x;obtain ⟨sv',e1,_⟩:=y.mono sv h1;rw [h1,e1] at e;obtain ⟨q1,q2⟩:=y.still sv sv' h1 e1 (Option.some.inj e);subst q1;obtain ⟨a',d',ik',ii',ia',t,b1,b2,b3,b4,b5,b6,b7⟩:SelfOk c Γ₁ h' sv':=by have:=S'.self;rw [e1] at this;exact this
 have b1':=y.le.self _ h3;have hd:Γ.moves d:=by
  obtain ⟨_,_,_,_,_,_,w1,_,w3,_⟩:SelfOk c Γ h sv':=by have:=S.self;rw [h1] at this;exact this
  rw [h3] at w1;cases w1;exact w3
 rw [b1'] at b1;cases b1;have hr:Γ.row≠some d:=by
  intro q;have R:=S.row
  cases hσ:σ.row with
  |none=>rw [hσ] at R;rw [show Γ.row=none from R] at q;cases q
  |some ns=>
   rw [hσ] at R;obtain ⟨r,vs,n,w1,w2,w3,_⟩:=R;rw [q] at w1;cases w1;obtain ⟨_,_,_,_,_,_,_,w6⟩:=h4;rw [w6] at w3;exact absurd (congrArg Obj.cls (Option.some.inj w3)) (by simp)
 have ht:d≠Γ.tab:=by
  intro q;obtain ⟨_,ps,w3,_⟩:=S.tab;obtain ⟨_,_,_,_,_,_,_,w6⟩:=h4;rw [←q,w6] at w3;exact absurd (congrArg Obj.cls (Option.some.inj w3)) (by simp)
 have e2:=q2 d hd hr ht;obtain ⟨sh,t1,t2,t3,t4,t5,n,h4'⟩:=h4;have h4n:IDict c h' d (ik,ii,v):=⟨sh,t1,t2,t3,t4,t5,n,e2.trans h4'⟩;have hia:=b4.inj h4n;cases hia;exact ⟨es,sv',_,_,_,_,rfl,e1,h2,b1',h4n,by rw [h2] at b7;exact b7⟩
theorem RF.step {fr:List Addr}{pre pre' h h':Heap}{r:T×Kd}{v:Value}(S:St c Γ σ h)(S':St c Γ₁ σ₁ h')(x:RF c pre Γ σ h r v)(y:Step fr Γ σ h Γ₁ σ₁ h')(e:r.2=.h→σ₁.self.map (·.ep)=σ.self.map (·.ep)):RF c pre' Γ₁ σ₁ h' r v:=by
 rcases x with ⟨k,x⟩ | ⟨k,x⟩
 ·exact .inl ⟨k,x.step S S' y (e k)⟩
 ·exact .inr ⟨k,Rep.mono y.le _ _ x⟩
theorem Snd.toRF {m:M (T×Kd)}{X:Sem Value}(h:Snd prog c A I (RV c (frs A)) m X):Snd prog c A I (RF c) m X:=by
 refine h.mono fun Γ σ s r σ₁ Γ₁ v s₁ P x P₁ q=>?_
 obtain ⟨t,k⟩:=r;unfold RV at q
 cases k with
 |val=>exact ⟨Γ₁,P₁.st,x,.inr ⟨by simp,q⟩⟩
 |h=>exact ⟨Γ₁,P₁.st,x,.inl ⟨rfl,q⟩⟩
 |own=>
  obtain ⟨as,q,f⟩:=q;obtain ⟨G',_,S',r',_,st⟩:=q.freeze P₁.st;exact ⟨G',S',st _ _ _ _ f x,.inr ⟨by simp,r'⟩⟩
 |ownIo=>
  obtain ⟨as,q,f⟩:=q;obtain ⟨G',_,S',r',_,st⟩:=q.freeze P₁.st;exact ⟨G',S',st _ _ _ _ f x,.inr ⟨by simp,r'⟩⟩
theorem Snd.solid {m:M (T×Kd)}{X:Sem Value}(h:Snd prog c A I (RV c (frs A)) m X):Snd prog c A I (RS c) (m>>=solid) X:=by
 intro Γ σ s P ne;have q:=h.toRF Γ σ s P (M.bind_ne ne);refine wpAny_mono q (fun v s₁ q=>?_) fun _ _ q=>q.cast fun m' σ' e=>M.bind_exn e
 obtain ⟨a,σ',e,Γ',y1,y2,y3,y4⟩:=q;rw [M.bind_ok e] at ne ⊢;unfold Mine.solid at ne ⊢;rcases y4 with ⟨k,_⟩ | ⟨k,y4⟩
 ·rw [if_pos k] at ne;exact absurd rfl ne
 ·rw [if_neg k];exact ⟨a,σ',rfl,Γ',y1,y2,y3,k,y4⟩
theorem Snd.looks {m:M (T×Kd)}{X:Sem Value}(h:Snd prog c A I (RV c (frs A)) m X):Snd prog c A I (RL c) (do return (←m).1) X:=by
 intro Γ σ s P ne;have q:=h Γ σ s P (M.bind_ne ne);refine wpAny_mono q (fun v s₁ q=>?_) fun _ _ q=>q.cast fun m' σ' e=>M.bind_exn e
 obtain ⟨⟨t,k⟩,σ',e,Γ',y1,y2,y3,y4⟩:=q;refine ⟨t,σ',M.bind_ok e,Γ',y1,y2,y3,?_⟩;unfold RV at y4
 cases k with
 |val=>exact Rep.look y2 y4
 |h=>exact Now.look y4
 |own=>obtain ⟨as,q,f⟩:=y4;exact q.look
 |ownIo=>obtain ⟨as,q,f⟩:=y4;exact q.look
theorem seq2 {R:Heap→Gh→Sg→Heap→α→γ→Prop}{R':Heap→Gh→Sg→Heap→β→δ→Prop}{ρ:Type}{m:M α}{m':α→M β}{f:α→β→M ρ}{X:Sem γ}{Y:Sem δ}{K:γ→δ→Shared→Prop}{E:Value→Shared→Prop}
  (P:Pre c A I Γ σ s) (ne:(do let a ←m;let b ←m' a;f a b) σ≠.stuck) (hX:Snd prog c A I R m X) (hY:∀a,Snd prog c A I R' (m' a) Y)
  (hE:∀v s',EOf c A Γ σ s ((do let a ←m;let b ←m' a;f a b) σ) v s'→E v s')
  (k:∀a b va vb σ₁ Γ₁ s₁ σ₂ Γ₂ s₂,Pre c A I Γ₁ σ₁ s₁→Pre c A I Γ₂ σ₂ s₂→Same s s₂→Step (frs A) Γ σ s.heap Γ₂ σ₂ s₂.heap→Step (frs A) Γ₁ σ₁ s₁.heap Γ₂ σ₂ s₂.heap→
   R s.heap Γ₁ σ₁ s₁.heap a va→m' a σ₁=.ok b σ₂→R' s₁.heap Γ₂ σ₂ s₂.heap b vb→f a b σ₂≠.stuck→((do let a ←m;let b ←m' a;f a b) σ=f a b σ₂)→K va vb s₂):
  wpAny (model prog c.w) A X (fun va s₁=>wpAny (model prog c.w) A Y (K va) E s₁) E s:=by
 refine wpAny_mono (seq (f:=fun a=>do let b ←m' a;f a b) P ne hX (K:=fun va s₁=>wpAny (model prog c.w) A Y (K va) E s₁) fun a σ₁ Γ₁ va s₁ e y1 y3 P₁ r ne' e'=>?_) (fun _ _ q=>q) hE;refine wpAny_mono (seq (f:=f a) P₁ ne' (hY a) (K:=K va) fun b σ₂ Γ₂ vb s₂ e2 z1 z3 P₂ r' ne'' e''=>?_) (fun _ _ q=>q) (fun v s' q=>hE v s' ?_)
 ·exact k a b va vb σ₁ Γ₁ s₁ σ₂ Γ₂ s₂ P₁ P₂ (y1.trans z1) (Step.trans P.st y3 z3) z3 r e2 r' ne'' (e'.trans e'')
 ·rw [e'];exact EOf.back P y1 y3 q
theorem Zcq {e:Nat}{v:SelfSt}(h:σ.self=some v):(setEp e σ).self=some { v with ep:=e }:=by unfold setEp;rw [h];rfl
theorem St.setEp {e:Nat}{h:Heap}(S:St c Γ σ h):St c Γ (setEp e σ) h:=by
 refine ⟨S.base,S.obj,S.idc,S.apart,S.apart2,S.row,?_,S.tab⟩;have q:=S.self;unfold Mine.setEp
 cases hs:σ.self with
 |none=>rw [hs] at q;exact q
 |some v=>rw [hs] at q;exact q
theorem Step.setEp {fr:List Addr}{h h':Heap}{v v':SelfSt}(hv:σ.self=some v)(hv':σ₁.self=some v')(e0:v'.ep=0)(y:Step fr Γ (setEp 0 σ) h Γ₁ σ₁ h'):Step fr Γ σ h Γ₁ (setEp v.ep σ₁) h':=by
 refine ⟨y.le,y.alive,y.keep,y.frames,y.old,y.rowNew,fun w w' e e' _=>?_,fun w e=>?_⟩
 ·rw [hv] at e;cases e;rw [Zcq hv'] at e';cases e';obtain ⟨q1,q2⟩:=y.still _ v' (Zcq hv) hv' e0;refine ⟨?_,q2⟩;rw [q1]
 ·rw [hv] at e;cases e;exact ⟨_,Zcq hv',Nat.le_refl _⟩
def Zcj {α β:Type}(R:Heap→Gh→Sg→Heap→α→β→Prop):Prop:=∀e h₀ G σ h a b,R h₀ G σ h a b→R h₀ G (setEp e σ) h a b
theorem Zem:Zcj (RF c):=by
 intro e h₀ G σ h a b x;rcases x with ⟨x1,es,sv,a,d,ik,ii,y1,y2,y3,y4,y5,y6⟩ | x
 ·exact .inl ⟨x1,es,_,a,d,ik,ii,y1,Zcq y2,y3,y4,y5,y6⟩
 ·exact .inr x
theorem Zki:Zcj (RW c):=fun _ _ _ _ _ _ _ x=>x
theorem Snd.still {R:Heap→Gh→Sg→Heap→α→β→Prop}{k:Kd}{m:M α}{X:Sem β}(h:Snd prog c A I R m X)(hR:Zcj R):Snd prog c A I R (still k m) X:=by
 intro Γ σ s P ne;unfold Mine.still at ne ⊢;split at ne
 ·rename_i hk;rw [if_pos hk]
  cases hs:σ.self with
  |none=>rw [hs] at ne;exact absurd rfl ne
  |some v=>
   rw [hs] at ne;dsimp only at ne ⊢;have ne':m (setEp 0 σ)≠.stuck:=fun q=>by rw [q] at ne;exact ne rfl
   refine wpAny_mono (h Γ (setEp 0 σ) s ⟨P.st.setEp,P.fr,P.inv⟩ ne') (fun b s' q=>?_) fun e s' q=>?_
   ·obtain ⟨a,σ',e,Γ',q1,q2,q3,q4⟩:=q;rw [e] at ne ⊢;dsimp only at ne ⊢
    cases hs':σ'.self with
    |none=>rw [hs'] at ne;exact absurd rfl ne
    |some v'=>
     rw [hs'] at ne;dsimp only at ne ⊢;split at ne
     ·rename_i h0;exact ⟨a,_,rfl,Γ',q1,q2.setEp,q3.setEp hs hs' h0,hR _ _ _ _ _ _ _ q4⟩
     ·exact absurd rfl ne
   ·obtain ⟨m',σ',e,r⟩:=q;rw [e] at ne;exact absurd rfl ne
 ·rename_i hk;rw [if_neg hk];exact h Γ σ s P ne
theorem Zcn {k:Kd}{m:M α}{a:α}{σ':Sg}(e:Mine.still k m σ=.ok a σ'):True∧(k=.h→σ'.self.map (·.ep)=σ.self.map (·.ep)):=by
 refine ⟨trivial,fun hk=>?_⟩;unfold Mine.still at e;rw [if_pos hk] at e;split at e
 ·rename_i v hs;split at e
  ·split at e
   ·rename_i v' hs';split at e
    ·cases e;rw [Zcq hs',hs];rfl
    ·cases e
   ·cases e
  ·cases e
 ·cases e
end
section
variable {prog:Program}{c:Cx}{A:Around}{I:Inv (frs A)}{Γ Γ₁:Gh}{σ σ₁:Sg}{s s₁:Shared}{env:PySem.Env}{L:Ev}{G:Calls}
theorem RW.rep {pre h:Heap}{t:T}{k:Kd}{v:Value}(x:RW c pre Γ σ h (t,k) v)(n:∀es,t≠.dict es):Rep c Γ t v:=by
 rcases x with ⟨_,es,_,e,_⟩ | ⟨_,x⟩
 ·exact absurd e (n es)
 ·exact x
theorem Snd.const {x:Const}{k:Nat}{pos:Pos}:Snd prog c A I (RV c (frs A)) (Za G L (.Constant x k pos)) (eval (.Constant x k pos) env):=by
 intro Γ σ s P ne;rw [Za] at ne ⊢;obtain ⟨t,ht⟩:=Zct ne;rw [ht];unfold Zgw at ht;split at ht<;>cases ht
 ·exact wpAny_Constant_none (Zam P Rep.none' rfl)
 ·exact wpAny_Constant_bool (Zam P Rep.bool rfl)
 ·exact wpAny_Constant_int (Zu P Rep.int _ rfl)
 ·exact wpAny_Constant_str (Zu P Rep.str _ rfl)
theorem Zuj {op:Operator}{a b:T}(h:binT op a b≠none):(∀es,a≠.dict es)∧(∀es,b≠.dict es):=by
 constructor
 ·rintro es rfl;exact h (by cases op<;>cases b<;>rfl)
 ·rintro es rfl;exact h (by cases op<;>cases a<;>first | rfl | (rename_i l;cases l<;>first | rfl | (rename_i y z;cases z<;>rfl)))
theorem Snd.bin {l r:Expr}{op:Operator}{pos:Pos}(hl:Snd prog c A I (RV c (frs A)) (Za G L l) (eval l env))(hr:Snd prog c A I (RV c (frs A)) (Za G L r) (eval r env)):
  Snd prog c A I (RV c (frs A)) (Za G L (.BinOp l op r pos)) (eval (.BinOp l op r pos) env):=by
 intro Γ σ s P ne;rw [Za] at ne ⊢;refine wpAny_BinOp (seq2 (f:=fun a b=>Zl (binT op a.1 b.1)) P ne hl.weak (fun _=>hr.weak) (fun _ _ x=>x) ?_);intro a b va vb σ₁ Γ₁ s₁ σ₂ Γ₂ s₂ P₁ P₂ y1 y2 y3 ra _ rb ne2 e2;obtain ⟨t,ht⟩:=Zd2 ne2;rw [e2,ht];obtain ⟨n1,n2⟩:=Zuj (op:=op) (a:=a.1) (b:=b.1) (by rw [ht];exact fun q=>by cases q);exact Qn Qb P y1 y2 (Zui P₂ ((ra.step y3 (pre':=s₁.heap)).rep n1) (rb.rep n2) ht)
theorem Snd.neg {x:Expr}{pos:Pos}(hx:Snd prog c A I (RV c (frs A)) (Za G L x) (eval x env)):Snd prog c A I (RV c (frs A)) (Za G L (.UnaryOp .USub x pos)) (eval (.UnaryOp .USub x pos) env):=by
 intro Γ σ s P ne;rw [Za] at ne ⊢;refine wpAny_UnaryOp (seq P ne hx.weak ?_);intro a σ₁ Γ₁ v s₁ _ y1 y2 P₁ r ne1 e1;rw [e1];obtain ⟨t,k⟩:=a;cases t<;>first | (exact absurd rfl ne1;done) | skip
 obtain ⟨u,rfl⟩:=(r.rep (fun _ q=>by cases q)).int_inv;exact Qn Qb P y1 y2 (PySem.P.neg_int (Zu P₁ Rep.int _ rfl))
def RB (_:Heap)(_:Gh)(_:Sg)(_:Heap)(b b':Bool):Prop:=b'=b
theorem Zkj:Zcj RB:=fun _ _ _ _ _ _ _ x=>x
theorem Zaq:Back RB:=fun _ _ _ _ _ _ _ _ x=>x
theorem Snd.ite {t b o:Expr}{pos:Pos}(ht:Snd prog c A I RB (evalT G L t (Za G L t)) (isTrue t env (eval t env)))(hb:Snd prog c A I (RV c (frs A)) (Za G L b) (eval b env))(ho:Snd prog c A I (RV c (frs A)) (Za G L o) (eval o env)):
  Snd prog c A I (RV c (frs A)) (Za G L (.IfExp t b o pos)) (eval (.IfExp t b o pos) env):=by
 intro Γ σ s P ne;rw [Za] at ne ⊢;refine wpAny_IfExp (seq P ne ht ?_);intro a σ₁ Γ₁ v s₁ _ y1 y2 P₁ r ne1 e1;rw [e1];cases r
 cases a with
 |true=>exact Qn Qb P y1 y2 (hb _ _ _ P₁ ne1)
 |false=>exact Qn Qb P y1 y2 (ho _ _ _ P₁ ne1)
theorem Snd.test_not {x:Expr}{pos:Pos}{m:M (T×Kd)}{X:Sem Value}(h:Snd prog c A I RB (evalT G L x (Za G L x)) (isTrue x env (eval x env))):Snd prog c A I RB (evalT G L (.UnaryOp .Not x pos) m) (isTrue (.UnaryOp .Not x pos) env X):=by
 intro Γ σ s P ne;rw [evalT] at ne ⊢;refine wpAny_isTrue_Not (seq P ne h ?_);intro a σ₁ Γ₁ v s₁ _ y1 y2 P₁ r ne1 e1;rw [e1];cases r;exact QOf.back Zaq P y1 y2 (stay P₁ rfl rfl)
theorem Snd.test_and (es:List Expr)(h:∀e∈es,Snd prog c A I RB (evalT G L e (Za G L e)) (isTrue e env (eval e env))):Snd prog c A I RB (evalAnd G L es) (allTrue .And es env):=by
 induction es with
 |nil=>
  intro Γ σ s P ne;rw [evalAnd] at ne ⊢;rw [allTrue];exact wpAny_pure (stay P rfl rfl)
 |cons e es ih=>
  intro Γ σ s P ne;rw [evalAnd] at ne ⊢;rw [allTrue];refine wpAny_bind (seq P ne (h e (by simp)) ?_);intro a σ₁ Γ₁ v s₁ _ y1 y2 P₁ r ne1 e1;rw [e1];cases r
  cases a with
  |true=>exact Qn Zaq P y1 y2 (ih (fun e he=>h e (by simp [he])) _ _ _ P₁ ne1)
  |false=>exact Qn Zaq P y1 y2 (wpAny_pure (stay P₁ rfl rfl))
theorem Snd.test_or (es:List Expr)(h:∀e∈es,Snd prog c A I RB (evalT G L e (Za G L e)) (isTrue e env (eval e env))):Snd prog c A I RB (evalOr G L es) (allTrue .Or es env):=by
 induction es with
 |nil=>
  intro Γ σ s P ne;rw [evalOr] at ne ⊢;rw [allTrue];exact wpAny_pure (stay P rfl rfl)
 |cons e es ih=>
  intro Γ σ s P ne;rw [evalOr] at ne ⊢;rw [allTrue];refine wpAny_bind (seq P ne (h e (by simp)) ?_);intro a σ₁ Γ₁ v s₁ _ y1 y2 P₁ r ne1 e1;rw [e1];cases r
  cases a with
  |false=>exact Qn Zaq P y1 y2 (ih (fun e he=>h e (by simp [he])) _ _ _ P₁ ne1)
  |true=>exact Qn Zaq P y1 y2 (wpAny_pure (stay P₁ rfl rfl))
theorem Snd.test_AND {es:List Expr}{pos:Pos}{m:M (T×Kd)}{X:Sem Value}(h:∀e∈es,Snd prog c A I RB (evalT G L e (Za G L e)) (isTrue e env (eval e env))):
  Snd prog c A I RB (evalT G L (.BoolOp .And es pos) m) (isTrue (.BoolOp .And es pos) env X):=by
 intro Γ σ s P ne;rw [evalT] at ne ⊢;exact wpAny_isTrue_BoolOp (Snd.test_and es h Γ σ s P ne)
theorem Snd.test_OR {es:List Expr}{pos:Pos}{m:M (T×Kd)}{X:Sem Value}(h:∀e∈es,Snd prog c A I RB (evalT G L e (Za G L e)) (isTrue e env (eval e env))):
  Snd prog c A I RB (evalT G L (.BoolOp .Or es pos) m) (isTrue (.BoolOp .Or es pos) env X):=by
 intro Γ σ s P ne;rw [evalT] at ne ⊢;exact wpAny_isTrue_BoolOp (Snd.test_or es h Γ σ s P ne)
def Zik:Expr→Bool
 |.Name ..=>true
 |.Call ..=>true
 |.Constant ..=>true
 |.Attribute ..=>true
 |.Subscript ..=>true
 |_=>false
theorem Snd.test_value {e:Expr}{m:M (T×Kd)}{X:Sem Value}(hp:Zik e=true)(h:Snd prog c A I (RV c (frs A)) m X):Snd prog c A I RB (evalT G L e m) (isTrue e env X):=by
 have e1:evalT G L e m=(do Za9 (←m)):=by cases e<;>first | (cases hp;done) | (simp only [evalT])
 have e2:isTrue e env X=(do let v ←X;standAt e.pos;holding [v] (truthy v)):=by cases e<;>first | (cases hp;done) | (simp only [PySem.isTrue])
 intro Γ σ s P ne;rw [e1] at ne ⊢;rw [e2];refine wpAny_bind (seq P ne h.weak ?_);intro a σ₁ Γ₁ v s₁ _ y1 y2 P₁ r ne1 e3;rw [e3];obtain ⟨t,k⟩:=a;cases t<;>first | (exact absurd rfl ne1;done) | skip
 have:=(r.rep (fun _ q=>by cases q)).bool_inv;subst this;exact wpAny_bind (wpAny_standAt (wpAny_holding (wpAny_truthy_bool (QOf.back Zaq P y1 y2 (stay P₁ rfl rfl)))))
def RC (op:CmpOp)(c:Cx)(_:Heap)(G:Gh)(_:Sg)(h:Heap)(t:T)(v:Value):Prop:=if op=.In then Look c G h t v else Rep c G t v
theorem Zvp {op:CmpOp}{c:Cx}:Back (RC op c):=fun _ _ _ _ _ _ _ _ x=>x
theorem Znx {r:Addr}{vs:List Value}{ns:List Int}{vb:Value}{E:Value→Shared→Prop}{Q:Value→Shared→Prop}(P:Pre c A I Γ σ s)(hu:A.units+50 < cLine)(hl:s.heap.IsList r vs.toArray)(hi:IntsAre vs ns)(rb:Rep c Γ (.list []) vb)
  (q:Q (.bool (!ns.isEmpty)) s):wpAny (model prog c.w) A (compareOp .NotEq (.ref r) vb) Q E s:=by
 obtain ⟨b,ws,k',rfl,h6,_,h8⟩:=rb.list_inv;unfold RepL at h8;subst h8;have hb:=Zz (P.st.obj _ _ h6);have hlen:vs.length=ns.length:=hi.length
 cases ns with
 |nil=>
  cases vs with
  |cons _ _=>cases hlen
  |nil=>exact Qd (RcNeAt.lists (e:=fun _=>true) hl hb rfl (by omega) (fun i hi=>absurd hi (by simp))) (by simpa using q)
 |cons n ns=>
  cases vs with
  |nil=>cases hlen
  |cons v vs=>exact Qd (RcNeAt.lists_lengths hl hb (by simp) (by omega)) (by simpa using q)
theorem Ziu {t:T}{v:Value}(r:Rep c Γ t v):(v == .none)=Za2 t:=by
 cases t<;>unfold Rep at r<;>first
  |(subst r;rfl)
  |(obtain ⟨a,rfl⟩:=r;rfl)
  |(obtain ⟨a,rfl,_⟩:=r;rfl)
  |(obtain ⟨a,_,rfl,_⟩:=r;rfl)
  |(obtain ⟨a,_,_,rfl,_⟩:=r;rfl)
  |(obtain ⟨a,_,_,_,_,_,_,_,rfl,_⟩:=r;rfl)
theorem Zkx {op:CmpOp}{a:T×Kd}{b:T}{pre pre':Heap}{va vb:Value}{E:Value→Shared→Prop}(P:Pre c A I Γ σ s)(hu:A.units+50 < cLine)(ra:RW c pre Γ σ s.heap a va)(rb:RC op c pre' Γ σ s.heap b vb)(ne:cmpK op a b σ≠.stuck):
  ∃r,cmpK op a b σ=.ok (.bool r) σ∧∀(Q:Value→Shared→Prop),(∀k,Q (.bool r) { s with toks:=k })→wpAny (model prog c.w) A (compareOp op va vb) Q E s:=by
 unfold cmpK at ne ⊢
 by_cases hk:a.2=.h
 ·rw [if_pos hk] at ne ⊢;rcases ra with ⟨_,es,x,e,rfl⟩ | ⟨n,_⟩
  ·cases op<;>cases b<;>first | (exact absurd rfl ne;done) | skip
   ·have:=Rep.none_inv (show Rep c Γ .none vb from by simpa [RC] using rb);subst this;exact ⟨false,rfl,fun Q q=>is_none (q s.toks)⟩
   ·have:=Rep.none_inv (show Rep c Γ .none vb from by simpa [RC] using rb);subst this;exact ⟨true,rfl,fun Q q=>isNot_none (q s.toks)⟩
  ·exact absurd hk n
 ·rw [if_neg hk] at ne ⊢;rcases ra with ⟨k,_⟩ | ⟨_,ra⟩
  ·exact absurd k hk
  ·obtain ⟨a,k⟩:=a;dsimp only at ra ne ⊢;unfold cmpM at ne ⊢;split at ne
   ·obtain ⟨x,rfl,hx⟩:∃x,va=.ref x∧Γ.row=some x:=by unfold Rep at ra;exact ra
    split at ne
    ·rename_i ns hr;refine ⟨_,rfl,fun Q q=>?_⟩;have R:=P.st.row;rw [hr] at R;obtain ⟨r,vs,n,w1,w2,w3,w4,_⟩:=R;rw [hx] at w1;cases w1;exact Znx P hu (Zz w3) w4 (by simpa [RC] using rb) (q s.toks)
    ·exact absurd rfl ne
   ·rename_i hno
    cases h:cmpT op a b with
    |none=>rw [h] at ne;exact absurd rfl ne
    |some r=>
     refine ⟨r,rfl,fun Q q=>?_⟩;have rep:op≠.In→Rep c Γ b vb:=fun n=>by unfold RC at rb;rw [if_neg n] at rb;exact rb
     cases op<;>first | (exfalso;cases h;done) | skip
     ·exact Zsr P hu ra (rep (by simp)) h (q s.toks)
     ·obtain ⟨r',h1,h2⟩:=Option.map_eq_some_iff.mp h;refine Zo7 P hu ra (rep (by simp)) h1 ?_;rw [h2];exact q s.toks
     ·cases a<;>cases b<;>first | (exfalso;cases h;done) | skip
      obtain ⟨t,rfl⟩:=ra.int_inv;obtain ⟨u,rfl⟩:=(rep (by simp)).int_inv;cases h;exact PyProof.Rows.lt_int (q s.toks)
     ·cases a<;>cases b<;>first | (exfalso;cases h;done) | skip
      obtain ⟨t,rfl⟩:=ra.int_inv;obtain ⟨u,rfl⟩:=(rep (by simp)).int_inv;cases h;exact PyProof.Rows.le_int (q s.toks)
     ·cases a<;>cases b<;>first | (exfalso;cases h;done) | skip
      obtain ⟨t,rfl⟩:=ra.int_inv;obtain ⟨u,rfl⟩:=(rep (by simp)).int_inv;cases h;exact PyProof.Rows.gt_int (q s.toks)
     ·cases a<;>cases b<;>first | (exfalso;cases h;done) | skip
      obtain ⟨t,rfl⟩:=ra.int_inv;obtain ⟨u,rfl⟩:=(rep (by simp)).int_inv;cases h;exact PyProof.Rows.ge_int (q s.toks)
     ·cases b<;>first | (exfalso;cases a<;>cases h<;>done) | skip
      have:=(rep (by simp)).none_inv;subst this;have h:some (Za2 a)=some r:=by cases a<;>exact h
      refine is_none ?_;rw [Ziu ra,Option.some.inj h];exact q s.toks
     ·cases b<;>first | (exfalso;cases a<;>cases h<;>done) | skip
      have:=(rep (by simp)).none_inv;subst this;have h:some (!Za2 a)=some r:=by cases a<;>exact h
      refine isNot_none ?_;rw [Ziu ra,Option.some.inj h];exact q s.toks
     ·exact Zrx P ra (by unfold RC at rb;rw [if_pos rfl] at rb;exact rb) h q
     ·exact Zo2 P ra (Rep.look P.st (rep (by simp))) h q
end
section
variable {prog:Program}{c:Cx}{A:Around}{I:Inv (frs A)}{Γ Γ₁:Gh}{σ σ₁:Sg}{s s₁:Shared}{env:PySem.Env}{L:Ev}{G:Calls}{E:Value→Shared→Prop}
theorem Snd.right {op:CmpOp}{r:Expr}(hr:Snd prog c A I (RV c (frs A)) (Za G L r) (eval r env))
  (hP:Snd prog c A I (RL c) (Jj L r (Za G L r)) (eval r env)):Snd prog c A I (RC op c) (Jy L op r (Za G L r)) (eval r env):=by
 intro Γ σ s P ne;unfold Jy at ne ⊢
 by_cases h:op=.In
 ·rw [if_pos h] at ne ⊢;refine wpAny_mono (hP Γ σ s P ne) (fun v s' q=>?_) fun _ _ q=>q
  obtain ⟨a,σ',e,Γ',y1,y2,y3,y4⟩:=q;exact ⟨a,σ',e,Γ',y1,y2,y3,by unfold RC;rw [if_pos h];exact y4⟩
 ·rw [if_neg h] at ne ⊢;rw [←M.assoc] at ne ⊢;refine wpAny_mono (hr.solid Γ σ s P (M.bind_ne ne)) (fun v s' q=>?_) fun _ _ q=>q.cast fun m' σ' e=>M.bind_exn e
  obtain ⟨a,σ',e,Γ',y1,y2,y3,y4⟩:=q;exact ⟨a.1,σ',M.bind_ok e,Γ',y1,y2,y3,by unfold RC;rw [if_neg h];exact y4.2⟩
theorem Zkz {op:CmpOp}{l r:Expr}{β:Type}{K:Value→Value→Shared→Prop}{f:T→M β}(P:Pre c A I Γ σ s)(hu:A.units+50 < cLine)(hl:Snd prog c A I (RV c (frs A)) (Za G L l) (eval l env))
  (hr:Snd prog c A I (RC op c) (Jy L op r (Za G L r)) (eval r env)) (ne:(do let a ←Za G L l;let b ←Jy L op r (Za G L r);f (←cmpK op a b)) σ≠.stuck)
  (hE:∀v s',EOf c A Γ σ s ((do let a ←Za G L l;let b ←Jy L op r (Za G L r);f (←cmpK op a b)) σ) v s'→E v s')
  (k:∀va vb r' σ₂ Γ₂ s₂,Same s s₂→Step (frs A) Γ σ s.heap Γ₂ σ₂ s₂.heap→Pre c A I Γ₂ σ₂ s₂→((do let a ←Za G L l;let b ←Jy L op r (Za G L r);f (←cmpK op a b)) σ=f (.bool r') σ₂)→f (.bool r') σ₂≠.stuck→
   (∀(E:Value→Shared→Prop) (Q:Value→Shared→Prop),(∀k,Q (.bool r') { s₂ with toks:=k })→wpAny (model prog c.w) A (compareOp op va vb) Q E s₂)→K va vb s₂):
  wpAny (model prog c.w) A (eval l env) (fun va s₁=>wpAny (model prog c.w) A (eval r env) (K va) E s₁) E s:=by
 refine seq2 (f:=fun a b=>do f (←cmpK op a b)) P ne hl.weak (fun _=>hr) hE ?_;intro a b va vb σ₁ Γ₁ s₁ σ₂ Γ₂ s₂ P₁ P₂ y1 y2 y3 ra _ rb ne2 e2;have ra':RW c s₁.heap Γ₂ σ₂ s₂.heap a va:=ra.step y3;obtain ⟨r',e3,_⟩:=Zkx (prog:=prog) (E:=fun _ _=>True) P₂ hu ra' rb (M.bind_ne ne2);rw [M.bind_ok e3] at ne2 e2;refine k va vb r' σ₂ Γ₂ s₂ y1 y2 P₂ e2 ne2 fun E Q q=>?_
 obtain ⟨r'',e4,h⟩:=Zkx (prog:=prog) (E:=E) P₂ hu ra' rb (by rw [e3];exact fun q=>by cases q);rw [e3] at e4;cases e4;exact h Q q
theorem Snd.compare {op:CmpOp}{l r:Expr}{pos:Pos}(hu:A.units+50 < cLine)(hm:behindInMarks op r=false)(hl:Snd prog c A I (RV c (frs A)) (Za G L l) (eval l env))
  (hr:Snd prog c A I (RC op c) (Jy L op r (Za G L r)) (eval r env)):Snd prog c A I (RV c (frs A)) (Za G L (.Compare l [op] [r] pos)) (eval (.Compare l [op] [r] pos) env):=by
 intro Γ σ s P ne;rw [Za] at ne ⊢;refine wpAny_Compare1 (Zkz P hu hl hr ne (fun _ _ q=>q) ?_) hm;intro va vb r' σ₂ Γ₂ s₂ y1 y2 P₂ e ne2 h;rw [e];exact h _ _ fun k=>QOf.back Qb P y1 y2 (Zu P₂ Rep.bool k rfl)
theorem Snd.test_cmp {op:CmpOp}{l r:Expr}{pos:Pos}{X:Sem Value}(hu:A.units+50 < cLine)(hm:behindInMarks op r=false)(hl:Snd prog c A I (RV c (frs A)) (Za G L l) (eval l env))
  (hr:Snd prog c A I (RC op c) (Jy L op r (Za G L r)) (eval r env)):Snd prog c A I RB (evalT G L (.Compare l [op] [r] pos) (Za G L (.Compare l [op] [r] pos))) (PySem.isTrue (.Compare l [op] [r] pos) env X):=by
 intro Γ σ s P ne;have e0:evalT G L (.Compare l [op] [r] pos) (Za G L (.Compare l [op] [r] pos))=(do let a ←Za G L l;let b ←Jy L op r (Za G L r);(fun t=>do Za9 (←val t)) (←cmpK op a b)):=by
  rw [evalT,Za];simp only [M.assoc]
  ·exact fun _ _ q=>by cases q
  ·exact fun _ _ q=>by cases q
  ·exact fun _ _ q=>by cases q
 rw [e0] at ne ⊢;refine wpAny_isTrue_Compare1 (Zkz (f:=fun t=>do Za9 (←val t)) P hu hl hr ne (fun _ _ q=>q) ?_) hm;intro va vb r' σ₂ Γ₂ s₂ y1 y2 P₂ e ne2 h;rw [e];exact h _ _ fun k=>wpAny_truthy_bool (QOf.back Zaq P y1 y2 ⟨r',σ₂,rfl,Γ₂,⟨s₂.heap,k,rfl⟩,P₂.st,Step.refl ..,rfl⟩)
def Zd3:Expr→Bool
 |.Slice ..=>false
 |_=>true
theorem Zdn {e:Expr}{o i:Value}(h:Zd3 e=true):subscripted e false o i=operate [o,i] (getItem o i):=by cases e<;>first | rfl | cases h
theorem Zbr {value slice:Expr}{o i:Value}{T id:String}{ops:List Value}{Q:Value→Shared→Prop}(hT:s.TypeIs o T)(hl:typeLookup (.type T) "__getitem__"=pure (some (.builtin id)))
  (h:wpAny (model prog c.w) A (getItem o i) Q E s) (hs:subscripted slice false o i=operate ops (getItem o i)):wpAny (model prog c.w) A (subscriptTail value slice o i) Q E s:=by
 unfold subscriptTail;refine wpAny_bind ?_;rw [getitemInPython_of_ne hT.not_modules];refine wpAny_bind (wpAny_specialOf hT hl ?_);have fin:wpAny (model prog c.w) A (subscripted slice false o i) (fun r s₃=>wpAny (model prog c.w) A (letTemporaryGo value o r>>=fun _=>pure r) Q E s₃) E s:=by
  rw [hs];exact wpAny_operating (wpAny_mono h (fun r s₃ h₃=>wpAny_bind (wpAny_letTemporaryGo (wpAny_pure h₃))) fun _ _ x=>x)
 first
  |exact wpAny_pure (wpAny_bind fin)
  |exact wpAny_bind (wpAny_pure (wpAny_bind fin))
  |exact wpAny_bind fin
theorem Zjp {h:Heap}{a:Addr}{vs:List Value}{n:Nat}(e:h.get? a=some (Zdm vs n)):IsTup h a vs.toArray:=⟨_,e,rfl,n,rfl⟩
theorem Zhz {k:Int}{n:Nat}(h0:0≤k)(h:k.toNat < n):seqIndex? k n=some k.toNat:=by
 have h1:¬k < 0:=by omega
 have h2:k < (n:Int):=by omega
 simp [seqIndex?,h1,h0,h2]
theorem Zv {v i:T}{vv vi:Value}{value slice:Expr}(P:Pre c A I Γ σ s)(rv:Look c Γ s.heap v vv)(ri:Rep c Γ i vi)(hs:Zd3 slice=true)(ne:Ju v i σ≠.stuck):
  wpAny (model prog c.w) A (subscriptTail value slice vv vi) (QOf c A Γ σ s (RV c (frs A)) (Ju v i σ)) E s:=by
 unfold Ju at ne ⊢;split at ne
 ·rename_i ts k;obtain ⟨a,vs,n,rfl,h1,z,h2⟩:=rv;obtain ⟨u,rfl⟩:=ri.int_inv;split at ne
  ·rename_i h0;split at ne
   ·rename_i t ht;rw [if_pos h0];obtain ⟨w,hw,rw'⟩:=h2.get ht;have hl:=Zz h1;have hlt:k.toNat < vs.length:=(List.getElem?_eq_some_iff.mp hw).1;rw [Z3] at z;exact Zbr hl.typeIs slot_list_getitem.lookup (wpAny_getItem_list hl h0 (by omega) (by simpa using hw) (Zam P rw' rfl)) (Zdn hs)
   ·exact absurd rfl ne
  ·exact absurd rfl ne
 ·rename_i ts k;obtain ⟨a,vs,n,rfl,h1,z,h2⟩:=Rep.tup_inv (show Rep c Γ (.tup ts) vv from rv);obtain ⟨u,rfl⟩:=ri.int_inv;split at ne
  ·rename_i h0;split at ne
   ·rename_i t ht;rw [if_pos h0];obtain ⟨w,hw,rw'⟩:=h2.get ht;have hl:=Zjp (P.st.obj _ _ h1);have hlt:k.toNat < vs.length:=(List.getElem?_eq_some_iff.mp hw).1;rw [Z3] at z;refine Zbr hl.typeIs slot_tuple_getitem.lookup (PyProof.Rows.getItem_tuple hl (by omega) (by omega) (j:=k.toNat) ?_ (by simpa using hw) (Zam P rw' rfl)) (Zdn hs);exact Zhz h0 (by simpa using hlt)
   ·exact absurd rfl ne
  ·exact absurd rfl ne
 ·rename_i es k;obtain ⟨a,ds,n,rfl,nm,h1,z,_,h2⟩:=rv;obtain ⟨u,rfl⟩:=ri.str_inv;split at ne
  ·rename_i t ht;have q:=Zgf h2 k;rw [ht] at q;obtain ⟨w,hw,rw'⟩:=q;exact Zbr ⟨_,h1,rfl⟩ slot_dict_getitem.lookup (wpAny_getItem_of (strKind_is prog c.w k u) (Zd8 (prog:=prog) h1 h2) hw (Zu P rw' _ rfl)) (Zdn hs)
  ·exact absurd rfl ne
 ·rename_i x k;obtain ⟨u,rfl⟩:=Rep.str_inv (show Rep c Γ (.str x) vv from rv);obtain ⟨u',rfl⟩:=ri.int_inv;split at ne
  ·rename_i h0;split at ne
   ·rename_i t ht;rw [if_pos h0];have hlt:k.toNat < x.cps.size:=(Array.getElem?_eq_some_iff.mp ht).1;have hz:Zc=1000:=rfl;refine Zbr (typeIs_str s x u) slot_str_getitem.lookup (PyProof.Rows.getItem_str (by simp only [Bool.or_eq_false_iff,decide_eq_false_iff_not];omega) (c:=t) ?_ (Zu P Rep.str _ rfl)) (Zdn hs);rw [show seqIndex? k x.length=some k.toNat from Zhz h0.1 hlt];exact ht
   ·exact absurd rfl ne
  ·exact absurd rfl ne
 ·exact absurd rfl ne
end
end Mine
end
section
namespace Mine
open PySem PySem.W PyProof.Rows PySem.SeqAt PySem.Builtin PySem.Builtin.Str
section
variable {prog:Program}{c:Cx}{A:Around}{I:Inv (frs A)}{Γ Γ₁:Gh}{σ σ₁:Sg}{s s₁:Shared}{env:PySem.Env}{L:Ev}{G:Calls}{E:Value→Shared→Prop}
theorem Zhc {β δ:Type}{R':Heap→Gh→Sg→Heap→β→δ→Prop}(hR:Back R'){res:Res β}{X:Sem δ}{sx:Shared}(P:Pre c A I Γ σ s)(e:Same s s₁)(x:Step (frs A) Γ σ s.heap Γ₁ σ₁ s₁.heap)
  (h:wpAny (model prog c.w) A X (QOf c A Γ₁ σ₁ s₁ R' res) (EOf c A Γ₁ σ₁ s₁ res) sx):wpAny (model prog c.w) A X (QOf c A Γ σ s R' res) (EOf c A Γ σ s res) sx:=
 wpAny_mono h (fun _ _ q=>q.back hR P e x) fun _ _ q=>q.back P e x
theorem RF.look {pre h:Heap}{r:T×Kd}{v:Value}(S:St c Γ σ h)(x:RF c pre Γ σ h r v):Look c Γ h r.1 v:=by
 rcases x with ⟨_,x⟩ | ⟨_,x⟩
 ·exact x.look
 ·exact Rep.look S x
theorem Snd.sub {v i:Expr}{pos:Pos}(hs:Zd3 i=true)(hv:Snd prog c A I (RV c (frs A)) (Za G L v) (eval v env))(hi:Snd prog c A I (RV c (frs A)) (Za G L i) (eval i env)):
  Snd prog c A I (RV c (frs A)) (Za G L (.Subscript v i pos)) (eval (.Subscript v i pos) env):=by
 intro Γ σ s P ne;have e0:Za G L (.Subscript v i pos)=(do let t ←Za G L v;let k ←Mine.still t.2 (Za G L i);Ju t.1 k.1):=by
  cases i<;>first | (cases hs;done) | (simp only [Za])
 rw [e0] at ne ⊢;refine Subscript_ (seq2 (f:=fun t k=>Ju t.1 k.1) P ne hv.toRF (fun t=>hi.weak.still Zki) (fun _ _ q=>q) ?_);intro a b va vb σ₁ Γ₁ s₁ σ₂ Γ₂ s₂ P₁ P₂ y1 y2 y3 ra eb rb ne2 e2;have ra':RF c s₁.heap Γ₂ σ₂ s₂.heap a va:=ra.step P₁.st P₂.st y3 (Zcn eb).2;rw [e2];have hb:Rep c Γ₂ b.1 vb:=by
  refine RW.rep (k:=b.2) rb ?_
  rintro es e
  rw [e] at ne2;exact ne2 (by unfold Ju;split<;>first | (rename_i q;cases q;done) | rfl)
 exact Qn Qb P y1 y2 (Zv P₂ (ra'.look P₂.st) hb hs ne2)
theorem RepL.take {ts:List T}{vs:List Value}(r:RepL c Γ ts vs):∀n:Nat,RepL c Γ (ts.take n) (vs.take n):=by
 induction ts generalizing vs with
 |nil=>intro n;unfold RepL at r;subst r;simp;exact RepL.nil
 |cons t ts ih=>
  intro n;unfold RepL at r;obtain ⟨v,w,rfl,h2,h3⟩:=r
  cases n with
  |zero=>exact RepL.nil
  |succ n=>exact RepL.cons h2 (ih h3 n)
theorem RepL.drop {ts:List T}{vs:List Value}(r:RepL c Γ ts vs):∀n:Nat,RepL c Γ (ts.drop n) (vs.drop n):=by
 induction ts generalizing vs with
 |nil=>intro n;unfold RepL at r;subst r;simp;exact RepL.nil
 |cons t ts ih=>
  intro n;have r':=r;unfold RepL at r;obtain ⟨v,w,rfl,h2,h3⟩:=r
  cases n with
  |zero=>exact r'
  |succ n=>exact ih h3 n
def RI (_:Cx)(_:Heap)(_:Gh)(_:Sg)(_:Heap)(n:Option Nat)(v:Value):Prop:=match n with
 |none=>v=.none
 |some n=>∃t,v=.int n t
theorem Zul:Back (RI c):=fun _ _ _ _ _ _ _ _ x=>x
theorem Snd.bound {e:Option Expr}(h:∀x,e=some x→Snd prog c A I (RV c (frs A)) (Za G L x) (eval x env)):Snd prog c A I (RI c) (evalB G L e) (evalPart e env):=by
 intro Γ σ s P ne
 cases e with
 |none=>
  rw [evalB] at ne ⊢;exact wpAny_evalPart_none (stay P rfl rfl)
 |some x=>
  rw [evalB] at ne ⊢;refine wpAny_evalPart_some (seq P ne (h x rfl).weak ?_);intro a σ₁ Γ₁ v s₁ _ y1 y2 P₁ r ne1 e1;rw [e1];obtain ⟨b,hb⟩:=Zd2 ne1;rw [hb];obtain ⟨t,k⟩:=a;unfold Zk8 at hb;cases t<;>first | (cases hb;done) | skip
  obtain ⟨u,rfl⟩:=(r.rep (fun _ q=>by cases q)).int_inv;dsimp only at hb;split at hb
  ·rename_i i h0;cases hb;exact QOf.back Zul P y1 y2 (stay P₁ rfl ⟨u,by congr 1;omega⟩)
  ·cases hb
theorem Pre.push (P:Pre c A I Γ σ s)(o:Obj)(k:Nat):Pre c A I Γ σ { s with heap:=s.heap.push o,toks:=k }∧Step (frs A) Γ σ s.heap Γ σ (s.heap.push o)∧Same s { s with heap:=s.heap.push o,toks:=k }:=by
 have x:Step (frs A) Γ σ s.heap Γ σ (s.heap.push o):=Step.keeps Z6 P.st;exact ⟨P.next (s₁:={ s with heap:=s.heap.push o,toks:=k }) (P.st.keeps Z6) x,x,⟨_,k,rfl⟩⟩
theorem Zm2 (vs:List Value)(lo hi:Option Nat):slicePick vs.toArray (lo.map Int.ofNat) (hi.map Int.ofNat) none=((vs.take (hi.getD vs.length)).drop (lo.getD 0)).toArray:=by
 rw [slicePick_plain];congr 1;have e1:((lo.map Int.ofNat).elim 0 (clipAt vs.toArray.size))=min (lo.getD 0) vs.length:=by
  cases lo with
  |none=>simp
  |some a=>exact clipAt_nat _ a
 have e2:((hi.map Int.ofNat).elim vs.toArray.size (clipAt vs.toArray.size))=min (hi.getD vs.length) vs.length:=by
  cases hi with
  |none=>simp
  |some a=>exact clipAt_nat _ a
 rw [e1,e2,List.drop_take]
 by_cases h:lo.getD 0≤vs.length
 ·rw [Nat.min_eq_left h];apply List.ext_getElem?;intro i;simp only [List.getElem?_take,List.getElem?_drop];split<;>split<;>first | rfl | omega | skip
  rw [List.getElem?_eq_none];omega
 ·have h':vs.length≤lo.getD 0:=by omega
  rw [Nat.min_eq_right h',List.drop_eq_nil_of_le (Nat.le_refl _),List.drop_eq_nil_of_le h'];simp
theorem RI.part {pre h:Heap}{n:Option Nat}{v:Value}(r:RI c pre Γ σ h n v):IsPart v (n.map Int.ofNat):=by
 cases n with
 |none=>unfold RI at r;subst r;exact .none
 |some n=>obtain ⟨t,rfl⟩:=r;exact .int _ _
theorem RI.val {pre h:Heap}{n:Option Nat}{v:Value}(r:RI c pre Γ σ h n v):∃l:Option (Int×Tok),v=partValue l∧l.map (·.1)=n.map Int.ofNat:=by
 cases n with
 |none=>unfold RI at r;subst r;exact ⟨none,rfl,rfl⟩
 |some n=>obtain ⟨t,rfl⟩:=r;exact ⟨some (n,t),rfl,rfl⟩
theorem Zm1 {v:T}{lo hi:Option Nat}{r:T×Kd}{vv vl vu:Value}{value:Expr}{pre:Heap}(P:Pre c A I Γ σ s)(rv:Look c Γ s.heap v vv)(rl:RI c pre Γ σ s.heap lo vl)(ru:RI c pre Γ σ s.heap hi vu)
  {l u:Option Expr} {p:Pos} (h:Zcp v lo hi=some r):
  wpAny (model prog c.w) A (subscriptTail value (.Slice l u none p) vv (.ref s.heap.objs.size)) (QOf c A Γ σ s (RV c (frs A)) (.ok r σ)) E { s with heap:=s.heap.push { cls:=.type "slice",data:=.fields #[vl,vu,.none] } }:=by
 obtain ⟨P',x,y⟩:=P.push { cls:=.type "slice",data:=.fields #[vl,vu,.none] } s.toks;unfold Zcp at h;split at h
 ·cases h;obtain ⟨a,vs,n,rfl,h1,z,h2⟩:=rv;have h1':=Z6 (o:={ cls:=.type "slice",data:=.fields #[vl,vu,.none] }) _ _ h1;have hl:=Zz h1';refine Zbr hl.typeIs slot_list_getitem.lookup (wpAny_getItem_list_slice hl (Heap.IsSliceOf.new _ _ _ _) rl.part ru.part .none (by simp) ?_ (by simpa using z)) (ops:=[.ref s.heap.objs.size,.ref a]) rfl;rw [Zm2,←h2.length];refine QOf.back Qb P y x (Zen P' ((h2.take _).drop _) ?_ 0 s.toks rfl);rw [List.length_drop,List.length_take];omega
 ·rename_i w;split at h
  ·rename_i hh;cases h;obtain ⟨t,rfl⟩:=Rep.str_inv (show Rep c Γ (.str w) vv from rv);obtain ⟨l',rfl,e1⟩:=rl.val;obtain ⟨u',rfl,e2⟩:=ru.val;refine Zbr (typeIs_str _ w t) slot_str_getitem.lookup (wpAny_getItem_str_slice (st:=none) (l:=l') (u:=u') ⟨_,Heap.get?_push_size _ rfl,rfl,rfl⟩ (by decide) ?_) (ops:=[.ref s.heap.objs.size,.str w t]) rfl;have e3:slicePicked w l' u' none=strSliceIndices (some ((lo.getD 0:Nat):Int)) (some ((hi.getD w.length:Nat):Int)) 1 w.length:=by
    unfold slicePicked;rw [e1,e2];cases lo<;>cases hi<;>simp [StrLaws.sliceIdx_none_lo,StrLaws.sliceIdx_none_hi]
   have e4:=StrLaws.sliced_plain w hh.1 hh.2.1;unfold sliceMade;rw [e3,e4];split
   ·rename_i q;simp only [Option.map_none,Option.getD_none,beq_self_eq_true,Bool.true_and,beq_iff_eq] at q;rw [StrLaws.strSliceIndices_plain hh.1 hh.2.1,List.length_map,List.length_range] at q;have e5:(⟨((w.cps.toList.drop (lo.getD 0)).take (hi.getD w.length - lo.getD 0)).toArray⟩:Str)=w:=by
     have h0:lo.getD 0=0:=by omega
     rw [h0];have h1:w.length=w.cps.toList.length:=rfl;rw [List.drop_zero,List.take_of_length_le (by omega)]
    rw [e5];exact QOf.back Qb P y x (Zam P' Rep.str rfl)
   ·refine ⟨?_,QOf.back Qb P y x (Zu P' Rep.str _ rfl)⟩;have h1:w.length=w.cps.toList.length:=rfl;have h3:Zc=1000:=rfl;show ((w.cps.toList.drop (lo.getD 0)).take (hi.getD w.length - lo.getD 0)).toArray.size≤sizeLine;rw [Z3,List.size_toArray,List.length_take,List.length_drop];omega
  ·cases h
 ·cases h
theorem Snd.slice {v:Expr}{lo hi:Option Expr}{p pos:Pos}(hv:Snd prog c A I (RV c (frs A)) (Za G L v) (eval v env))
  (h1:Snd prog c A I (RI c) (evalB G L lo) (evalPart lo env)) (h2:Snd prog c A I (RI c) (evalB G L hi) (evalPart hi env)):
  Snd prog c A I (RV c (frs A)) (Za G L (.Subscript v (.Slice lo hi none p) pos)) (eval (.Subscript v (.Slice lo hi none p) pos) env):=by
 intro Γ σ s P ne;rw [Za] at ne ⊢;refine Subscript_ ?_;refine wpAny_mono (seq (f:=fun t=>do let l ←evalB G L lo;let h ←evalB G L hi;Zl (Zcp t.1 l h)) P ne hv.weak
  (K:=fun o s₁=>wpAny (model prog c.w) A (eval (.Slice lo hi none p) env) (fun i s₂=>wpAny (model prog c.w) A (subscriptTail v (.Slice lo hi none p) o i) _ _ s₂) _ s₁) ?_) (fun _ _ q=>q) fun _ _ q=>q
 intro a σ₁ Γ₁ va s₁ _ y1 y2 P₁ ra ne1 e1;refine wpAny_Slice (seq2 (f:=fun l h=>Zl (Zcp a.1 l h)) P₁ ne1 h1 (fun _=>h2) (fun e s' q=>by rw [e1];exact q.back P y1 y2) ?_);intro l u vl vu σ₂ Γ₂ s₂ σ₃ Γ₃ s₃ P₂ P₃ z1 z2 z3 rl _ ru ne3 e3;refine wpAny_evalPart_none ?_;obtain ⟨r,hr⟩:=Zd2 ne3;rw [e1,e3,hr];have rl':RI c s₁.heap Γ₃ σ₃ s₃.heap l vl:=by cases l<;>exact rl
 have hv':Look c Γ₃ s₃.heap a.1 va:=by
  refine Rep.look P₃.st ?_;rcases (ra.step z2 (pre':=s.heap):RW c s.heap Γ₃ σ₃ s₃.heap a va) with ⟨_,es,_,e,_⟩ | ⟨_,q⟩
  ·rw [e] at hr;cases hr
  ·exact q
 refine Zhc Qb P y1 y2 (Zhc Qb P₁ z1 z2 ?_);have:=Zm1 (prog:=prog) (E:=EOf c A Γ₃ σ₃ s₃ (Res.ok r σ₃)) (value:=v) (l:=lo) (u:=hi) (p:=p) (pre:=s₁.heap) P₃ hv' rl' ru hr;exact this
def RLs (c:Cx)(_:Heap)(G:Gh)(_:Sg)(_:Heap)(rs:List (T×Kd))(vs:List Value):Prop:=RepL c G (rs.map (·.1)) vs∧vs.length=rs.length
theorem Zuk:Back (RLs c):=fun _ _ _ _ _ _ _ _ x=>x
theorem Zsw:Zcj (RLs c):=fun _ _ _ _ _ _ _ x=>x
def Z7:Expr→Bool
 |.Starred ..=>false
 |_=>true
theorem Zac {e:Expr}{r:List Expr}(h:Z7 e=true):starEach (e::r) env=(false,eval e env)::starEach r env:=by cases e<;>first | rfl | cases h
theorem Snd.row {es:List Expr}{pos:Pos}(hs:∀e∈es,Z7 e=true)(h:∀e∈es,Snd prog c A I (RV c (frs A)) (Za G L e) (eval e env)):
  Snd prog c A I (RLs c) (evalEs G L es) (spliced (backTo pos (starEach es env))):=by
 induction es with
 |nil=>
  intro Γ σ s P ne;rw [evalEs] at ne ⊢;exact wpAny_items_nil (stay P rfl ⟨RepL.nil,rfl⟩)
 |cons e es ih=>
  intro Γ σ s P ne;have e0:evalEs G L (e::es)=(do let t ←(Za G L e>>=Mine.solid);let ts ←evalEs G L es;pure (t::ts)):=by rw [evalEs,M.assoc]
  rw [e0] at ne ⊢;refine wpAny_items_cons (seq2 (f:=fun t ts=>pure (t::ts)) P ne (h e (by simp)).solid (fun _=>ih (fun x hx=>hs x (by simp [hx])) (fun x hx=>h x (by simp [hx]))) (fun _ _ q=>q) ?_) (Zac (hs e (by simp)));intro a b va vb σ₁ Γ₁ s₁ σ₂ Γ₂ s₂ P₁ P₂ y1 y2 y3 ra _ rb ne2 e2;rw [e2];exact QOf.back Zuk P y1 y2 (stay P₂ rfl ⟨RepL.cons (Rep.mono y3.le _ _ ra.2) rb.1,by simp [rb.2]⟩)
theorem Zkd {es:List Expr}{σ σ':Sg}{rs:List (T×Kd)}(h:evalEs G L es σ=.ok rs σ'):rs.length=es.length:=by
 induction es generalizing σ σ' rs with
 |nil=>rw [evalEs] at h;cases h;rfl
 |cons e es ih=>
  rw [evalEs] at h
  cases h1:Za G L e σ with
  |stuck=>exact absurd h (by show M.bind _ _ σ≠_;unfold M.bind;rw [h1];exact fun q=>by cases q)
  |exn m s'=>exact absurd h (by show M.bind _ _ σ≠_;unfold M.bind;rw [h1];exact fun q=>by cases q)
  |ok t s'=>
   rw [M.bind_ok h1] at h
   cases h2:Mine.solid t s' with
   |stuck=>exact absurd h (by show M.bind _ _ s'≠_;unfold M.bind;rw [h2];exact fun q=>by cases q)
   |exn m s'=>exact absurd h (by show M.bind _ _ _≠_;unfold M.bind;rw [h2];exact fun q=>by cases q)
   |ok t2 s2=>
    rw [M.bind_ok h2] at h
    cases h3:evalEs G L es s2 with
    |stuck=>exact absurd h (by show M.bind _ _ s2≠_;unfold M.bind;rw [h3];exact fun q=>by cases q)
    |exn m s'=>exact absurd h (by show M.bind _ _ s2≠_;unfold M.bind;rw [h3];exact fun q=>by cases q)
    |ok ts s3=>
     rw [M.bind_ok h3] at h;cases h;simp [ih h3]
theorem Snd.list {es:List Expr}{pos:Pos}(hl:es.length≤1000)(h:∀p,Snd prog c A I (RLs c) (evalEs G L es) (spliced (backTo p (starEach es env)))):
  Snd prog c A I (RV c (frs A)) (Za G L (.List es pos)) (eval (.List es pos) env):=by
 intro Γ σ s P ne;rw [Za] at ne ⊢;refine wpAny_List (seq P ne (h pos) ?_);intro rs σ₁ Γ₁ vs s₁ e0 y1 y2 P₁ r ne1 e1;have z:vs.length≤sizeLine:=by rw [r.2,Zkd e0,Z3];omega
 rw [e1];exact ⟨z,QOf.back Qb P y1 y2 (Zen P₁ r.1 z 0 s₁.toks rfl)⟩
theorem Snd.tuple {es:List Expr}{k:Nat}{pos:Pos}(hl:es.length≤1000)(h:∀p,Snd prog c A I (RLs c) (evalEs G L es) (spliced (backTo p (starEach es env)))):
  Snd prog c A I (RV c (frs A)) (Za G L (.Tuple es k pos)) (eval (.Tuple es k pos) env):=by
 intro Γ σ s P ne;rw [Za] at ne ⊢;refine wpAny_Tuple (seq P ne (h pos) ?_);intro rs σ₁ Γ₁ vs s₁ e0 y1 y2 P₁ r ne1 e1;have z:vs.length≤sizeLine:=by rw [r.2,Zkd e0,Z3];omega
 rw [e1];refine ⟨z,QOf.back Qb P y1 y2 (Zgm P₁ rfl s₁.toks ?_ rfl)⟩;unfold Rep;exact ⟨_,vs,0,rfl,Gh.add_at,z,RepL.mono (Gh.le_add (P₁.st.loose (Qp _)).1) _ _ r.1⟩
end
end Mine
end
section
namespace Mine
open PySem PySem.W PyProof.Rows PySem.SeqAt
def Zdi:Expr→Bool
 |.Call (.Name _ _) [] [] _=>false
 |_=>true
theorem Zbl {o:Expr}{a:Str}{env:PySem.Env}{X:Sem Value}(h:Zdi o=true):attributeBase o a env X=X:=by
 unfold attributeBase;split
 ·cases h
 ·rfl
theorem Zse {K:Frag}{C:Addr}{ns:List Str}{od:Obj}{n:Str}{v:Value}(F:ClsF K C ns)(hn:n∈ns)(h:lookIn n od=some (some v)):findObj K C (some od) n=some (.value v):=by
 obtain ⟨cd,h1,h2⟩:=F.cd;unfold findObj;rw [h1,Option.bind_some,F.attr n hn,Option.bind_some];simp only [Option.bind_some,W.ownOf,h2,if_true,h]
theorem Zj0 {c:Cx}{ik ii ia:Value}{sh t1 t2 t3 t4 t5 n}:lookIn "kind" (Zn (Za5 c ik ii ia sh t1 t2 t3 t4 t5) n)=some (some ik):=rfl
theorem Zf8 {c:Cx}{ik ii ia:Value}{sh t1 t2 t3 t4 t5 n}:lookIn "items" (Zn (Za5 c ik ii ia sh t1 t2 t3 t4 t5) n)=some (some ii):=rfl
theorem Zf9 {c:Cx}{ik ii ia:Value}{sh t1 t2 t3 t4 t5 n}:lookIn "attrs" (Zn (Za5 c ik ii ia sh t1 t2 t3 t4 t5) n)=some (some ia):=rfl
section
variable {prog:Program}{c:Cx}{A:Around}{I:Inv (frs A)}{Γ Γ₁:Gh}{σ σ₁:Sg}{s s₁:Shared}{env:PySem.Env}{L:Ev}{G:Calls}{E:Value→Shared→Prop}
theorem kin (F:Facts c)(S:St c Γ σ s.heap):c.K.In s.heap:=F.kin.keeps S.kept
theorem J7 {C:Addr}{ns:List Str}{x d:Addr}{od:Obj}{n:Str}{v:Value}{Q:Value→Shared→Prop}(F:Facts c)(S:St c Γ σ s.heap)(f:ClsF c.K C ns)(hn:n∈ns)
  (hx:s.heap.get? x=some (instObj C d)) (hd:s.heap.get? d=some od) (hl:lookIn n od=some (some v)) (hh:handedIn v=true) (h:Q v { s with toks:=s.toks+1 }):wpAny (model prog c.w) A (getAttr (.ref x) n true) Q E s:=
 get_value (kin F S) ⟨hx,rfl,rfl,hd⟩ f.ga (Zse f hn hl) hh h
theorem Rep.vec_inv {k:Str}{its:List T}{at':T}{v:Value}(r:Rep c Γ (.vec k its at') v):∃a d ik ii ia,v=.ref a∧Γ.obj a=some (instObj c.vec d)∧Γ.idc d=some (ik,ii,ia)∧(∃t,ik=.str k t)∧Rep c Γ (.list its) ii∧Rep c Γ at' ia:=by
 unfold Rep at r;obtain ⟨a,d,ik,ii,ia,b,vs,n,h1,h2,h3,h4,⟨h5,h6,h7,h8⟩,h9⟩:=r;refine ⟨a,d,ik,ii,ia,h1,h2,h3,h4,?_,h9⟩;unfold Rep;exact ⟨b,vs,n,h5,h6,h7,h8⟩
theorem Rep.handed {t:T}{v:Value}(r:Rep c Γ t v):handedIn v=true:=by
 cases t<;>unfold Rep at r<;>first
  |(subst r;rfl)
  |(obtain ⟨a,rfl⟩:=r;rfl)
  |(obtain ⟨a,rfl,_⟩:=r;rfl)
  |(obtain ⟨a,_,rfl,_⟩:=r;rfl)
  |(obtain ⟨a,_,_,rfl,_⟩:=r;rfl)
  |(obtain ⟨a,_,_,_,_,_,_,_,rfl,_⟩:=r;rfl)
theorem Zlg {v:T}{vv:Value}{n:Str}(F:Facts c)(P:Pre c A I Γ σ s)(rv:Rep c Γ v vv)(ne:Zbb v n σ≠.stuck):wpAny (model prog c.w) A (getAttr vv n true) (QOf c A Γ σ s (RV c (frs A)) (Zbb v n σ)) E s:=by
 unfold Zbb at ne ⊢;split at ne
 ·obtain ⟨a,d,ik,ii,ia,rfl,h1,h2,⟨t,rfl⟩,h4,h5⟩:=rv.vec_inv;obtain ⟨sh,t1,t2,t3,t4,t5,m,hd⟩:=P.st.idc d _ h2;have hx:=P.st.obj _ _ h1;split at ne
  ·rename_i hn;subst hn;rw [if_pos rfl];exact J7 F P.st F.vecF (by simp) hx hd Zj0 rfl (Zu P Rep.str _ rfl)
  ·rename_i hn0;rw [if_neg hn0];split at ne
   ·rename_i hn;subst hn;rw [if_pos rfl];exact J7 F P.st F.vecF (by simp) hx hd Zf8 h4.handed (Zu P h4 _ rfl)
   ·rename_i hn1;rw [if_neg hn1];split at ne
    ·rename_i hn;subst hn;rw [if_pos rfl];exact J7 F P.st F.vecF (by simp) hx hd Zf9 h5.handed (Zu P h5 _ rfl)
    ·exact absurd rfl ne
 ·obtain ⟨a,d,o,rfl,h1,h2,t1,t2,t3,m,rfl⟩:∃a d o,vv=.ref a∧Γ.obj a=some (instObj c.nul d)∧Γ.obj d=some o∧Ze1 c o:=by unfold Rep at rv;exact rv
  have hx:=P.st.obj _ _ h1;have hd:=P.st.obj _ _ h2;split at ne
  ·rename_i hn;subst hn;rw [if_pos rfl];exact J7 F P.st F.nulF (by simp) hx hd (v:=.str "NULL" t3) rfl rfl (Zu P Rep.str _ rfl)
  ·rename_i hn0;rw [if_neg hn0];split at ne
   ·rename_i hn;subst hn;rw [if_pos rfl];exact J7 F P.st F.nulF (by simp) hx hd (v:=.none) rfl rfl (Zu P Rep.none' _ rfl)
   ·exact absurd rfl ne
 ·obtain ⟨a,d,rfl,h1⟩:∃a d,vv=.ref a∧Γ.self=some (a,d):=by unfold Rep at rv;exact rv
  split at ne
  ·rename_i sv hs;have R:SelfOk c Γ s.heap sv:=by have:=P.st.self;rw [hs] at this;exact this
   obtain ⟨a',d',ik,ii,ia,t,b1,b2,b3,b4,b5,b6,b7⟩:=R;rw [h1] at b1;cases b1;have hx:=P.st.obj _ _ b2;have b4':=b4;obtain ⟨sh,t1,t2,t3,t4,t5,m,hd⟩:=b4;split at ne
   ·rename_i hn;subst hn;rw [if_pos rfl];subst b5;exact J7 F P.st F.vecF (by simp) hx hd Zj0 rfl (Zu P Rep.str _ rfl)
   ·rename_i hn0;rw [if_neg hn0];split at ne
    ·rename_i hn;subst hn;rw [if_pos rfl];exact J7 F P.st F.vecF (by simp) hx hd Zf8 b6.handed (Zu P b6 _ rfl)
    ·rename_i hn1;rw [if_neg hn1];split at ne
     ·rename_i hn;subst hn;rw [if_pos rfl]
      cases ha:sv.attrs with
      |none=>
       rw [ha] at b7;have e:ia=.none:=b7;subst e;exact J7 F P.st F.vecF (by simp) hx hd Zf9 rfl (Zu P Rep.none' _ rfl)
      |some es=>
       rw [ha] at b7;have b7':=b7;obtain ⟨D,ds,n',e,_⟩:=b7;subst e;exact J7 F P.st F.vecF (by simp) hx hd Zf9 rfl ⟨_,σ,rfl,Γ,⟨s.heap,_,rfl⟩,P.st,Step.refl ..,es,sv,a,d,ik,ii,rfl,hs,ha,h1,b4',b7'⟩
     ·exact absurd rfl ne
  ·exact absurd rfl ne
 ·exact absurd rfl ne
theorem Snd.attr {o:Expr}{a:Str}{pos:Pos}(F:Facts c)(hb:Zdi o=true)(ho:Snd prog c A I (RV c (frs A)) (Za G L o) (eval o env)):
  Snd prog c A I (RV c (frs A)) (Za G L (.Attribute o a pos)) (eval (.Attribute o a pos) env):=by
 intro Γ σ s P ne;rw [Za] at ne ⊢;refine Attribute_any_ (seq P ne ho.weak ?_) (by rw [arm_eval_Attribute,Zbl hb]);intro r σ₁ Γ₁ v s₁ _ y1 y2 P₁ rr ne1 e1;rw [e1];have rr':Rep c Γ₁ r.1 v:=RW.rep (k:=r.2) rr (fun es e=>ne1 (by rw [e];rfl));exact Qn Qb P y1 y2 (Zlg F P₁ rr' ne1)
theorem J4 {β:Type}{k:Str}{v:β}:∀{l:List (Str×β)},l.lookup k=some v→(k,v)∈l
 |[],h=>by cases h
 |(k',v')::l,h=>by
  rw [List.lookup_cons] at h;split at h
  ·rename_i q;cases h;have:k=k':=by simpa using q
   subst this;exact .head _
  ·exact .tail _ (J4 h)
theorem Snd.peek {old:Heap}{e:Expr}(F:Facts c){g:Str→Bool}(hg:∀x,g x=true→env.kindOf x=some .globalImplicit)(ok:∀x p,e=.Name x p→Zav g x=true)(h:Snd prog c A (envI c old (frs A) env L) (RV c (frs A)) (Za G L e) (eval e env)):
  Snd prog c A (envI c old (frs A) env L) (RL c) (Jj L e (Za G L e)) (eval e env):=by
 intro Γ σ s P ne;unfold Jj at ne ⊢;cases e<;>first | exact h.looks Γ σ s P ne | skip
 rename_i x pos;have ok:=ok x pos rfl;simp only [Zin] at ne ⊢;obtain ⟨t,ht⟩:=Zd2 ne;rw [ht];simp only [Zav,Bool.and_eq_true,Bool.not_eq_true',Bool.or_eq_true] at ok;obtain ⟨⟨h1,h2⟩,h3⟩:=ok;have E:EnvR c old Γ s.heap (frs A) env L:=P.inv;obtain ⟨hk,hgl,hbl,m,hn,hl,hloc,f,ho1,_⟩:=E;unfold Mine.peek at ht;split at ht
 ·rename_i p hp;cases ht;obtain ⟨v,b,q⟩:=ho1 (x,p) (J4 hp);exact Js hk hn b h1 h2 (stay P (a:=p.1) rfl q.look)
 ·obtain ⟨v,b,r⟩:=hloc x t ht;exact Js hk hn b h1 h2 (stay P (a:=t) rfl (Rep.look P.st r))
end
inductive MethOf:T→Str→String→String→Prop
 |get (es):MethOf (.dict es) "get" "dict" "dict.get"
 |rjust (x):MethOf (.str x) "rjust" "str" "str.rjust"
 |join (x):MethOf (.str x) "join" "str" "str.join"
 |pop:MethOf .row "pop" "list" "list.pop"
theorem Zom {v:T}{m:Str}(h:okM v m=true):∃T id,MethOf v m T id:=by
 unfold okM at h;split at h
 ·have h:=of_decide_eq_true h;subst h;exact ⟨_,_,.pop⟩
 ·have h:=of_decide_eq_true h;subst h;exact ⟨_,_,.get _⟩
 ·rcases of_decide_eq_true h with h | h<;>subst h
  ·exact ⟨_,_,.rjust _⟩
  ·exact ⟨_,_,.join _⟩
 ·cases h
section
variable {prog:Program}{c:Cx}{A:Around}{I:Inv (frs A)}{Γ Γ₁:Gh}{σ σ₁:Sg}{s s₁:Shared}{env:PySem.Env}{L:Ev}{G:Calls}{E:Value→Shared→Prop}
theorem Zh3 {v:Value}(P:Pre c A I Γ σ s)(r:Rep c Γ .row v):∃a ns vs n,v=.ref a∧Γ.row=some a∧σ.row=some ns∧Γ.moves a∧s.heap.get? a=some (Zt vs n)∧IntsAre vs ns∧ns.length≤100000:=by
 obtain ⟨a,rfl,h1⟩:∃a,v=.ref a∧Γ.row=some a:=by unfold Rep at r;exact r
 have R:=P.st.row
 cases hr:σ.row with
 |none=>rw [hr] at R;rw [show Γ.row=none from R] at h1;cases h1
 |some ns=>
  rw [hr] at R;obtain ⟨r,vs,n,w1,w2,w3,w4,w5⟩:=R;rw [h1] at w1;cases w1;exact ⟨a,ns,vs,n,rfl,h1,rfl,w2,w3,w4,w5⟩
theorem Zpo {v:T}{m:Str}{Tn id:String}{k:Kd}{vv:Value}{pre:Heap}{pos:Pos}{trees:List (Bool×Sem Value)}{Q:Value→Shared→Prop}(P:Pre c A I Γ σ s)(x:MethOf v m Tn id)(rv:RF c pre Γ σ s.heap (v,k) vv)
  (h:wpAny (model prog c.w) A (callWith pos (.builtin id) [vv] trees []) Q E s):MethodOn prog c.w A m pos vv trees Q E s:=by
 cases x with
 |get es=>
  obtain ⟨a,ds,n,rfl,nm,e,_⟩:=rv.look P.st;exact ⟨_,_,F.plainAttrs_dict,F.slot_dict_get,F.type_dict_get,⟨_,e,rfl⟩,fun a e'=>by cases e';exact ⟨_,e,rfl⟩,h⟩
 |rjust x=>
  obtain ⟨t,rfl⟩:=Rep.str_inv (show Rep c Γ (.str x) vv from rv.look P.st);exact ⟨_,_,F.plainAttrs_str,F.slot_str_rjust,F.type_str_rjust,typeIs_str s x t,(fun a e'=>by cases e'),h⟩
 |join x=>
  obtain ⟨t,rfl⟩:=Rep.str_inv (show Rep c Γ (.str x) vv from rv.look P.st);exact ⟨_,_,F.plainAttrs_str,F.slot_str_join,F.type_str_join,typeIs_str s x t,(fun a e'=>by cases e'),h⟩
 |pop=>
  obtain ⟨a,ns,vs,n,rfl,_,_,_,e,_⟩:=Zh3 P (show Rep c Γ .row vv from rv.look P.st);exact ⟨_,_,F.plainAttrs_list,F.slot_list_pop,F.type_list_pop,⟨_,e,rfl⟩,fun a e'=>by cases e';exact ⟨_,e,rfl⟩,h⟩
theorem Znw {a:Addr}{ns ns':List Int}{vs vs':List Value}{n n':Nat}{h':Heap}(P:Pre c A I Γ σ s)(h1:Γ.row=some a)(h2:σ.row=some ns)(h3:Γ.moves a)(h4:s.heap.get? a=some (Zt vs n))
  (sb:Heap.SameBut a s.heap h') (h5:h'.get? a=some (Zt vs' n')) (h6:IntsAre vs' ns') (h7:ns'.length≤100000) (k:Nat):
  Pre c A I Γ { σ with row:=some ns' } { s with heap:=h',toks:=k }∧Step (frs A) Γ σ s.heap Γ { σ with row:=some ns' } h'∧Same s { s with heap:=h',toks:=k }:=by
 have kp:∀b o,b≠a→s.heap.get? b=some o→h'.get? b=some o:=fun b o hb e=>(sb.2 b hb).trans e
 have nd:∀{d:Addr} {o:Obj},s.heap.get? d=some o→o.cls≠.type "list"→d≠a:=fun e hc q=>by subst q;rw [h4] at e;cases e;exact hc rfl
 have S:=P.st;obtain ⟨ap1,ap2,_⟩:=S.apart a h3;have x:Step (frs A) Γ σ s.heap Γ { σ with row:=some ns' } h':=by
  refine ⟨.refl _,fun b o e=>?_,fun b o e hm _ _=>kp b o (fun q=>hm (q▸h3)) e,fun b o _ e l=>⟨o.slots,kp b o (fun q=>l.2.2 (q▸h3)) e⟩,fun _ _ _=>⟨rfl,rfl,id⟩,fun _ e=>.inl e,
   fun v v' e e' _=>⟨by rw [show σ.self=some v' from e'] at e;exact Option.some.inj e,fun b hm hr _=>sb.2 b (fun q=>hr (q▸h1))⟩,fun v e=>⟨v,e,Nat.le_refl _⟩⟩
  by_cases hb:b=a
  ·subst hb;exact ⟨_,h5⟩
  ·exact ⟨o,kp b o hb e⟩
 have id':∀{d y},IDict c s.heap d y→IDict c h' d y:=by
  rintro d y ⟨sh,t1,t2,t3,t4,t5,m,e⟩
  exact ⟨sh,t1,t2,t3,t4,t5,m,kp d _ (nd e (by simp)) e⟩
 have S':St c Γ { σ with row:=some ns' } h':=by
  refine ⟨S.base,fun b o e=>kp b o (fun q=>by subst q;rw [ap1] at e;cases e) (S.obj b o e),fun d y e=>id' (S.idc d y e),fun b e=>?_,S.apart2,⟨a,vs',n',h1,h3,h5,h6,h7⟩,?_,?_⟩
  ·obtain ⟨q1,q2,o,q3⟩:=S.apart b e;obtain ⟨o',q4⟩:=x.alive b o q3;exact ⟨q1,q2,o',q4⟩
  ·have q:=S.self
   cases hs:σ.self with
   |none=>rw [hs] at q;exact q
   |some v=>
    rw [hs] at q;obtain ⟨a',d,ik,ii,ia,t,b1,b2,b3,b4,b5,b6,b7⟩:=q;refine ⟨a',d,ik,ii,ia,t,b1,b2,b3,id' b4,b5,b6,?_⟩
    cases ha:v.attrs with
    |none=>rw [ha] at b7;exact b7
    |some es=>
     rw [ha] at b7;obtain ⟨D,ds,m,c1,c2,c3,c4,c5,c6⟩:=b7;exact ⟨D,ds,m,c1,c2,c3,c4,kp D _ (nd c5 (by simp)) c5,c6⟩
  ·obtain ⟨m1,ps,m2,m3⟩:=S.tab;exact ⟨m1,ps,kp _ _ (nd m2 (by simp)) m2,m3⟩
 exact ⟨P.next (s₁:={ s with heap:=h',toks:=k }) S' x,x,⟨_,k,rfl⟩⟩
theorem Zjs:∀{vs:List Value} {ns:List Int} {x:Int},IntsAre vs ns→ns.getLast?=some x→∃t,vs[vs.length - 1]?=some (.int x t)∧IntsAre vs.dropLast ns.dropLast
 |_,_,_,.nil,e=>by cases e
 |_,_,x,.cons n t .nil,e=>by cases e;exact ⟨t,rfl,.nil⟩
 |_,_,x,.cons n t (.cons n' t' h),e=>by
  obtain ⟨u,h1,h2⟩:=Zjs (.cons n' t' h) (x:=x) (by simpa [List.getLast?_cons_cons] using e);exact ⟨u,by simpa using h1,.cons n t h2⟩
theorem RepL.one_inv {t:T}{vs:List Value}(r:RepL c Γ [t] vs):∃v,vs=[v]∧Rep c Γ t v:=by
 unfold RepL at r;obtain ⟨v,w,rfl,h2,h3⟩:=r;unfold RepL at h3;subst h3;exact ⟨v,rfl,h2⟩
theorem Zpn {v:T}{m:Str}{Tn id:String}{ts:List T}{vv:Value}{vs:List Value}(P:Pre c A I Γ σ s)(x:MethOf v m Tn id)(rv:Look c Γ s.heap v vv)(rl:RepL c Γ ts vs)(ne:Q8 v m ts σ≠.stuck):
  wpAny (model prog c.w) A (call (.builtin id) (vv::vs)) (QOf c A Γ σ s (RV c (frs A)) (Q8 v m ts σ)) E s:=by
 cases x with
 |get es=>
  obtain ⟨a,ds,n,rfl,nm,e,z,_,r⟩:=rv;have:∃k,ts=[.str k]:=by
   unfold Q8 at ne;split at ne<;>first | (rename_i h1;cases h1;done) | (exact ⟨_,rfl⟩) | (exact absurd rfl ne)
  obtain ⟨k,rfl⟩:=this;obtain ⟨w,rfl,rk⟩:=rl.one_inv;obtain ⟨t,rfl⟩:=rk.str_inv;have e0:Q8 (.dict es) "get" [.str k] σ=.ok ((es.lookup k).getD .none,.val) σ:=rfl;rw [e0];refine call_meetsIn F.slot_dict_get ⟨_,e,rfl⟩ F.entry_dict_get (F.args_dict_get_2 _ _) (meets_dict_get (strKind prog c.w) a (strKind_is prog c.w k t) nm) ⟨_,Zd8 (prog:=prog) e r,?_⟩;have q:=Zgf r k
  cases hl:es.lookup k with
  |none=>rw [hl] at q;rw [q];exact Zu P Rep.none' _ rfl
  |some y=>
   rw [hl] at q;obtain ⟨w',q1,q2⟩:=q;rw [q1];exact Zu P q2 _ rfl
 |rjust x=>
  obtain ⟨t,rfl⟩:=Rep.str_inv (show Rep c Γ (.str x) vv from rv);have:∃n f,ts=[.int n,.str f]:=by
   unfold Q8 at ne;split at ne<;>first | (rename_i h1;cases h1;done) | (exact ⟨_,_,rfl⟩) | (exact absurd rfl ne)
  obtain ⟨n,f,rfl⟩:=this;unfold RepL at rl;obtain ⟨v1,w1,rfl,r1,rl⟩:=rl;obtain ⟨w,rfl,rk⟩:=rl.one_inv;obtain ⟨u1,rfl⟩:=r1.int_inv;obtain ⟨u2,rfl⟩:=rk.str_inv;have e0:Q8 (.str x) "rjust" [.int n,.str f] σ=(match f.cps.toList with | [c]=>if n≤Zc∧0≤n then .ok (.str (Zbv x n.toNat c),.val) σ else .stuck | _=>.stuck):=rfl;rw [e0] at ne ⊢;split at ne
  ·rename_i cp hc;split at ne
   ·rename_i hn;rw [if_pos hn];have hs:Zc=1000:=rfl;have hfl:f.length=1:=by show f.cps.size=1;rw [←Array.length_toList,hc];rfl
    refine PyProof.Rows.rjust_fill (padOk_of (by omega) (by omega)) hfl fun t' k=>?_
    have e1:Txt.rjustF x n (f.cps.getD 0 0)=Zbv x n.toNat cp:=by
     have:f.cps.getD 0 0=cp:=by have hf:f.cps=#[cp]:=by { have:=congrArg List.toArray hc;simpa using this };rw [hf];rfl
     rw [this];have:=rjustF_list x n cp;have h2:(Zbv x n.toNat cp).cps=(Txt.rjustF x n cp).cps:=by
      unfold Zbv;rw [←this]
     cases hx:Txt.rjustF x n cp;cases hy:Zbv x n.toNat cp;rw [hx,hy] at h2;dsimp only at h2;rw [h2]
    rw [e1];exact Zu P Rep.str _ rfl
   ·exact absurd rfl ne
  ·exact absurd rfl ne
 |join x=>
  obtain ⟨t,rfl⟩:=Rep.str_inv (show Rep c Γ (.str x) vv from rv);have:∃y,ts=[.list [.str y]]:=by
   unfold Q8 at ne;split at ne<;>first | (rename_i h1;cases h1;done) | (exact ⟨_,rfl⟩) | (exact absurd rfl ne)
  obtain ⟨y,rfl⟩:=this;obtain ⟨w,rfl,rk⟩:=rl.one_inv;obtain ⟨a,ws,n,rfl,h1,_,h2⟩:=rk.list_inv;obtain ⟨w,rfl,rk⟩:=h2.one_inv;obtain ⟨u,rfl⟩:=rk.str_inv;have e0:Q8 (.str x) "join" [.list [.str y]] σ=(if ("join":Str)="join"∧x.length≤Zc∧y.length≤Zc then .ok (.str y,.val) σ else .stuck):=rfl;rw [e0] at ne ⊢;split at ne
  ·rename_i hh;rw [if_pos hh];have hs:Zc=1000:=rfl;refine call_meets F.slot_str_join (typeIs_str s x t) F.entry_str_join (F.args_str_join_2 _ _) (meets_str_join_list x t a [(y,u)] ?_) ⟨Zz (P.st.obj _ _ h1),?_⟩
   ·have:=Z3;simp [Builtin.Str.tooLong];omega
   ·exact Zam P Rep.str rfl
  ·exact absurd rfl ne
 |pop=>
  obtain ⟨a,ns,xs,n,rfl,h1,h2,h3,h4,h5,h6⟩:=Zh3 P (show Rep c Γ .row vv from rv);have:ts=[]:=by
   unfold Q8 at ne;split at ne<;>first | (rename_i h1;cases h1;done) | rfl | (exact absurd rfl ne)
  subst this;unfold RepL at rl;subst rl
  have e0:Q8 .row "pop" [] σ=(match σ.row with
   |some r=>(match r.getLast? with
    |some x=>.ok (.int x,.val) { σ with row:=some r.dropLast }
    |none=>.stuck)
   |none=>.stuck):=rfl
  rw [e0,h2] at ne ⊢;dsimp only at ne ⊢;split at ne
  ·rename_i y hy;obtain ⟨t,q1,q2⟩:=Zjs h5 hy;have hlen:xs.length=ns.length:=h5.length;have hz:xs.toArray.size≤sizeLine:=by rw [Z3,List.size_toArray];omega
   refine call_meets F.slot_list_pop ⟨_,h4,rfl⟩ F.entry_list_pop (F.args_list_pop_1 _) (PySem.MeetsSeq.list_pop_last a xs.toArray n (.int y t) (by simpa using q1) hz) ⟨h4,?_⟩;have e1:(Obj.mapSeq (fun xs_1=>xs_1.eraseIdxIfInBounds (xs.toArray.size - 1)) (Zt xs n))=Zt xs.dropLast (if xs.dropLast.toArray.size == xs.toArray.size then n else n+1):=by
    have e2:xs.toArray.eraseIdxIfInBounds (xs.toArray.size - 1)=xs.dropLast.toArray:=by
     rw [List.eraseIdxIfInBounds_toArray,List.size_toArray,List.eraseIdx_length_sub_one]
    show ({ cls:=.type "list",dict:=none,data:=.seq (xs.toArray.eraseIdxIfInBounds (xs.toArray.size - 1)) (if (xs.toArray.eraseIdxIfInBounds (xs.toArray.size - 1)).size == xs.toArray.size then n else n+1),slots:=#[] }:Obj)=_;rw [e2]
   have h7:(s.heap.update a (Obj.mapSeq fun xs_1=>xs_1.eraseIdxIfInBounds (xs.toArray.size - 1))).get? a=some (Zt xs.dropLast (if xs.dropLast.toArray.size == xs.toArray.size then n else n+1)):=by
    rw [Heap.get?_update_self _ h4 (by rw [e1];rfl),e1]
   obtain ⟨P',st,sm⟩:=Znw P h1 h2 h3 h4 (Heap.SameBut.update _ _ _) h7 q2 (by rw [List.length_dropLast];omega) s.toks;exact ⟨_,_,rfl,Γ,sm,P'.st,st,Jr Rep.int⟩
  ·exact absurd rfl ne
theorem Snd.args {es:List Expr}(hs:∀e∈es,Z7 e=true){pos:Pos}{f:Value}{Q:Args→Shared→Prop}
  (h:wpAny (model prog c.w) A (spliced (backTo pos (starEach es env))) (fun vs s₁=>Q ⟨vs,[]⟩ s₁) E s):wpAny (model prog c.w) A (evalArgs f true (backTo pos (starEach es env)) []) Q E s:=by
 cases es with
 |nil=>
  unfold evalArgs;show wpAny (model prog c.w) A (spliced []>>=_) Q E s;exact wpAny_bind (wpAny_mono h (fun vs s' h'=>wpAny_bind (wpAny_pure (wpAny_holding (wpAny_bind (wpAny_pure (wpAny_bind (wpAny_pure (wpAny_pure h')))))))) fun _ _ x=>x)
 |cons e es=>
  rw [Zac (hs e (by simp))] at h ⊢;exact Calls.evalArgs_plain h
theorem Zbx {es:List Expr}(hs:∀e∈es,Z7 e=true){pos:Pos}:(backTo pos (starEach es env)).any (·.1)=false:=by
 induction es with
 |nil=>rfl
 |cons e es ih=>
  rw [Zac (hs e (by simp))];have:=ih (fun x hx=>hs x (by simp [hx]));show (false||(backTo pos (starEach es env)).any (·.1))=false;rw [this];rfl
theorem Zfr {es:List Expr}(hs:∀e∈es,Z7 e=true){pos:Pos}:(backTo pos (starEach es env)).all (fun x=>!x.1)=true:=by
 induction es with
 |nil=>rfl
 |cons e es ih=>
  rw [Zac (hs e (by simp))];have:=ih (fun x hx=>hs x (by simp [hx]));show (!false&&(backTo pos (starEach es env)).all (fun x=>!x.1))=true;rw [this];rfl
theorem Snd.meth {o:Expr}{m:Str}{es:List Expr}{ap pos:Pos}(hb:Zdi o=true)(hline:(ap.endLine == pos.line)=true)(hl:es.length < 20)(hs:∀e∈es,Z7 e=true)(ho:Snd prog c A I (RV c (frs A)) (Za G L o) (eval o env))
  (h:∀p,Snd prog c A I (RLs c) (evalEs G L es) (spliced (backTo p (starEach es env)))):
  Snd prog c A I (RV c (frs A)) (Za G L (.Call (.Attribute o m ap) es [] pos)) (eval (.Call (.Attribute o m ap) es [] pos) env):=by
 intro Γ σ s P ne;rw [Za] at ne ⊢;refine wpAny_Call_method_late (Zbl hb) ?_ hline rfl (seq P ne ho.toRF ?_)
 ·rw [Zfr hs];simp [backToKw,keywordEach];omega
 intro a σ₁ Γ₁ va s₁ _ y1 y2 P₁ ra ne1 e1;split at ne1
 ·rename_i hm;obtain ⟨Tn,id,x⟩:=Zom hm;rw [if_pos hm] at e1;rw [e1];obtain ⟨v,k⟩:=a;refine Zpo P₁ x ra ?_;refine Qn Qb P y1 y2 ?_;refine Calls.callWith_builtin (Zbx hs) (Snd.args hs (seq P₁ ne1 ((h pos).still Zsw) ?_));intro ts σ₂ Γ₂ vs s₂ e2 z1 z2 P₂ rt ne2 e3;rw [e3];have ra':RF c s₁.heap Γ₂ σ₂ s₂.heap (v,k) va:=ra.step P₁.st P₂.st z2 (Zcn e2).2;exact Qn Qb P₁ z1 z2 (Zpn P₂ x (ra'.look P₂.st) rt.1 ne2)
 ·exact absurd rfl ne1
end
section
variable {prog:Program}{c:Cx}{A:Around}{I:Inv (frs A)}{Γ Γ₁:Gh}{σ σ₁:Sg}{s s₁:Shared}{env:PySem.Env}{L:Ev}{G:Calls}{E:Value→Shared→Prop}
theorem Zsy {t:T}{v:Value}{res:Res (T×Kd)}{h':Heap}(P:Pre c A I Γ σ s)(kp:∀b o,s.heap.get? b=some o→h'.get? b=some o)(r:Rep c Γ t v)(k:Nat)(e:res=.ok (t,.val) σ):
  QOf c A Γ σ s (RV c (frs A)) res v { s with heap:=h',toks:=k }:=
 ⟨_,σ,e,Γ,⟨h',k,rfl⟩,P.st.keeps kp,Step.keeps kp P.st,Jr r⟩
theorem Zkk {ts:List T}{vs:List Value}{res:Res (T×Kd)}{h':Heap}{a:Addr}(P:Pre c A I Γ σ s)(kp:∀b o,s.heap.get? b=some o→h'.get? b=some o)(nn:s.heap.get? a=none){n:Nat}(ha:h'.get? a=some (Zt vs n))
  (r:RepL c Γ ts vs) (z:vs.length≤sizeLine) (k:Nat) (e:res=.ok (.list ts,.own) σ):QOf c A Γ σ s (RV c (frs A)) res (.ref a) { s with heap:=h',toks:=k }:=by
 refine ⟨_,σ,e,Γ,⟨_,k,rfl⟩,P.st.keeps kp,Step.keeps kp P.st,[a],?_,fun b hb=>?_⟩
 ·exact ⟨a,vs,n,rfl,rfl,ha,z,r,P.st.loose nn,P.fr.fresh nn⟩
 ·simp at hb;subst hb;exact nn
theorem Zsz {es:List (Str×T)}{ds:List DictEntry}{res:Res (T×Kd)}{h':Heap}{a:Addr}(P:Pre c A I Γ σ s)(kp:∀b o,s.heap.get? b=some o→h'.get? b=some o)(nn:s.heap.get? a=none)(nm:(a == sysModules)=false){n:Nat}(ha:h'.get? a=some (Zn ds n))
  (r:RepD c Γ es ds) (z:ds.length≤sizeLine) (nd:(es.map (·.1)).Nodup) (k:Nat) (e:res=.ok (.dict es,.own) σ):QOf c A Γ σ s (RV c (frs A)) res (.ref a) { s with heap:=h',toks:=k }:=by
 refine ⟨_,σ,e,Γ,⟨_,k,rfl⟩,P.st.keeps kp,Step.keeps kp P.st,[a],?_,fun b hb=>?_⟩
 ·exact ⟨a,ds,n,rfl,rfl,nm,ha,z,nd,r,P.st.loose nn,P.fr.fresh nn⟩
 ·simp at hb;subst hb;exact nn
def Qo:List (Str×T)→List DictEntry→List (Str×Value)
 |(k,_)::es,d::ds=>(k,d.val)::Qo es ds
 |_,_=>[]
theorem Jn:∀{es:List (Str×T)} {ds:List DictEntry},RepD c Γ es ds→(Qo es ds).map (·.1)=es.map (·.1)
 |[],_,h=>by unfold RepD at h;subst h;rfl
 |(k,t)::es,_,h=>by
  unfold RepD at h;obtain ⟨v,tk,r,rfl,h2,h3⟩:=h;simp [Qo,Jn h3]
theorem Zf2:∀{es:List (Str×T)} {ds:List DictEntry},RepD c Γ es ds→Pairs (strKind prog c.w) ds (Qo es ds)
 |[],_,h=>by unfold RepD at h;subst h;exact .nil
 |(k,t)::es,_,h=>by
  unfold RepD at h;obtain ⟨v,tk,r,rfl,h2,h3⟩:=h;exact .cons (strKind_is prog c.w k tk) rfl (Zf2 h3)
theorem Zao {h:Heap}{a:Addr}{es:List (Str×T)}{ds:List DictEntry}{n:Nat}(e:h.get? a=some (Zn ds n))(r:RepD c Γ es ds)(nd:(es.map (·.1)).Nodup):h.DictOf (strKind prog c.w) a (Qo es ds):=
 ⟨_,ds.toArray,n,e,⟨rfl,rfl,rfl⟩,rfl,fun e he=>by
  obtain ⟨k,t,e1,e2⟩:=r.mem e (by simpa using he);exact ⟨k,by rw [e1];exact strKind_is prog c.w k t,e2⟩,by simpa using Zf2 r,by rw [Jn r];exact nd⟩
def RepKV (c:Cx)(G:Gh):List (Str×T)→List (Str×Value)→Prop
 |[],kvs=>kvs=[]
 |(k,t)::es,kvs=>∃v r,kvs=(k,v)::r∧Rep c G t v∧RepKV c G es r
theorem Zbg:∀{es:List (Str×T)} {ds:List DictEntry},RepD c Γ es ds→RepKV c Γ es (Qo es ds)
 |[],_,h=>by unfold RepD at h;subst h;rfl
 |(k,t)::es,_,h=>by
  unfold RepD at h;obtain ⟨v,tk,r,rfl,h2,h3⟩:=h;exact ⟨v,_,rfl,h2,Zbg h3⟩
theorem Zh8:∀{es:List (Str×T)} {kvs:List (Str×Value)} {ds:List DictEntry},RepKV c Γ es kvs→Pairs (strKind prog c.w) ds kvs→(∀e∈ds,∃k,(strKind prog c.w).is k e.key=true∧e.hash=(strKind prog c.w).hash k)→RepD c Γ es ds
 |[],_,_,h,p,_=>by
  unfold RepKV at h;subst h;cases p;exact RepD.nil
 |(k,t)::es,_,_,h,p,q=>by
  unfold RepKV at h;obtain ⟨v,r,rfl,h2,h3⟩:=h
  cases p with
  |@cons e kv ds kvs p1 p2 p3=>
  obtain ⟨tk,hk⟩:=Value.isStrOf_shape p1;obtain ⟨k',h1,h4⟩:=q e (by simp);obtain ⟨tk',hk'⟩:=Value.isStrOf_shape h1;rw [hk] at hk';cases hk';obtain ⟨hs,ky,vl⟩:=e;dsimp only at hk p2 h4;subst hk p2;rw [h4];exact RepD.cons h2 (Zh8 h3 p3 fun e he=>q e (by simp [he]))
theorem Zbf {h:Heap}{a:Addr}{es:List (Str×T)}{kvs:List (Str×Value)}(x:h.DictOf (strKind prog c.w) a kvs)(r:RepKV c Γ es kvs):∃ds n,h.get? a=some (Zn ds n)∧RepD c Γ es ds∧(es.map (·.1)).Nodup:=by
 obtain ⟨o,en,ep,h1,⟨h2,h3,h4⟩,h5,h6,h7,h8⟩:=x;refine ⟨en.toList,ep,?_,Zh8 r h7 fun e he=>h6 e (by simpa using he),?_⟩
 ·rw [h1];obtain ⟨cl,di,da,sl⟩:=o;dsimp only at h2 h3 h4 h5;subst h2 h3 h4 h5;simp
 ·have:kvs.map (·.1)=es.map (·.1):=by
   clear h7 h8 h6
   induction es generalizing kvs with
   |nil=>unfold RepKV at r;subst r;rfl
   |cons p es ih=>
    obtain ⟨k,t⟩:=p;unfold RepKV at r;obtain ⟨v,r',rfl,q1,q2⟩:=r;simp [ih q2]
  rw [←this];exact h8
theorem Zvd {t:T}{v:Value}{h:Heap}{ts:List T}(e:t=.list ts)(x:Look c Γ h t v):ts.length≤16777216:=by
 subst e;obtain ⟨a,vs,n,rfl,h1,z,h2⟩:=x;rw [Z3,h2.length] at z;exact z
theorem Zql {v:T}{vv:Value}{r:T}(P:Pre c A I Γ σ s)(x:Look c Γ s.heap v vv)(h:lenM v σ=.ok r σ):wpAny (model prog c.w) A (call (.builtin "len") [vv]) (QOf c A Γ σ s (RV c (frs A)) (.ok (r,.val) σ)) E s:=by
 unfold lenM at h;split at h
 ·obtain ⟨a,vs,n,rfl,h1,z,h2⟩:=x;cases h;rw [Z3] at z;refine PyProof.Rows.len_list (Zz h1) (by rw [List.size_toArray];omega) ?_;rw [List.size_toArray,h2.length];exact Zu P Rep.int _ rfl
 ·obtain ⟨a,vs,n,rfl,h1,z,h2⟩:=Rep.tup_inv (show Rep c Γ (.tup _) vv from x);cases h;rw [Z3] at z;refine PyProof.Rows.len_tuple (Zjp (P.st.obj _ _ h1)) (by rw [List.size_toArray];omega) ?_;rw [List.size_toArray,h2.length];exact Zu P Rep.int _ rfl
 ·rename_i es;cases h;obtain ⟨a,ds,n,rfl,nm,h1,z,nd,h2⟩:=x;have e:=Zao (prog:=prog) h1 h2 nd;have hl:(Qo es ds).length=es.length:=by rw [←List.length_map (f:=Prod.fst),Jn h2,List.length_map]
  rw [Z3,h2.length] at z;refine call_len_dict nm e (by rw [hl];omega) ?_;rw [hl];exact Zu P Rep.int _ rfl
 ·obtain ⟨t,rfl⟩:=Rep.str_inv (show Rep c Γ (.str _) vv from x);split at h
  ·rename_i hx;cases h;have h1:Zc=1000:=rfl;exact PyProof.Rows.len_str (by omega) (Zu P Rep.int _ rfl)
  ·cases h
 ·cases h
theorem Zu6 {i:Int}{t:Tok}{Q:Value→Shared→Prop}(h:∀u tk,Q (.int i.natAbs u) { s with toks:=tk }):wpAny (model prog c.w) A (call (.builtin "abs") [.int i t]) Q E s:=by
 refine call_abs_int fun u tk=>?_
 have:(if i < 0 then -i else i)=(i.natAbs:Int):=by split<;>omega
 rw [this];exact h u tk
theorem Zrr {a:Int}{n:Nat}{vs:Array Value}(h:ItemsOf (fun i v=>∃t,v=Value.int (a+i * 1) t) vs n):RepL c Γ ((List.range n).map fun (i:Nat)=>T.int (a+(i:Int))) vs.toList:=by
 obtain ⟨hn,h⟩:=h;have key:∀(l:List Value) (k:Nat),(∀(j:Nat) (v:Value),l[j]?=some v→∃t,v=Value.int (a+((k+j:Nat):Int) * 1) t)→RepL c Γ ((List.range' k l.length).map fun (i:Nat)=>T.int (a+(i:Int))) l:=by
  intro l
  induction l with
  |nil=>intro k _;exact RepL.nil
  |cons v l ih=>
   intro k hk;obtain ⟨t,rfl⟩:=hk 0 v rfl;refine RepL.cons ?_ (ih (k+1) fun j v hv=>?_)
   ·simp only [Nat.add_zero,Int.mul_one];exact Rep.int
   ·obtain ⟨t,rfl⟩:=hk (j+1) v (by simpa using hv);exact ⟨t,by congr 2;omega⟩
 have:=key vs.toList 0 (fun j v hv=>by
  obtain ⟨t,rfl⟩:=h j v (by simpa using hv);exact ⟨t,by simp⟩)
 rw [Array.length_toList,hn] at this;rw [List.range_eq_range'];exact this
theorem Zh9 {a b:Int}(h2:Zj a=true)(h3:Zj b=true):Builtin.Range.small a b 1=true:=by
 have h2:a.natAbs < 1000000000000000000:=of_decide_eq_true h2;have h3:b.natAbs < 1000000000000000000:=of_decide_eq_true h3;unfold Builtin.Range.small Builtin.Range.rangeSize Builtin.Range.rangeFitsLong;simp only [Bool.and_eq_true,decide_eq_true_eq,Bool.or_eq_true,show (1:Int) > 0 from by decide,if_true,Int.ediv_one,beq_iff_eq];split<;>omega
theorem Zia {a b:Int}:Builtin.Range.rangeSize a b 1=((b - a).toNat:Int):=by
 unfold Builtin.Range.rangeSize;simp only [show (1:Int) > 0 from by decide,if_true,Int.ediv_one];split<;>omega
theorem Zib {a b:Int}:(Qa a b).length=(b - a).toNat:=by unfold Qa;rw [List.length_map,List.length_range]
theorem Zuc {i:Int}{t:Tok}(P:Pre c A I Γ σ s)(h:Zj i=true){res:Res (T×Kd)}(e:res=.ok (.str (Zg i),.val) σ):wpAny (model prog c.w) A (call (.type "str") [.int i t]) (QOf c A Γ σ s (RV c (frs A)) res) E s:=
 PySem.P.str_of_int (Zht h) (Zu P Rep.str _ e)
theorem Zud {f:Str}{t:T}{vv:Value}{id:Value}(fa:Facts c)(P:Pre c A I Γ σ s)(hf:(f,id)∈bltTable)(x:Rep c Γ t vv)(ne:Zap f [t] σ≠.stuck):
  wpAny (model prog c.w) A (call id [vv]) (QOf c A Γ σ s (RV c (frs A)) (Zap f [t] σ)) E s:=by
 simp only [bltTable,List.mem_cons,Prod.mk.injEq,List.mem_nil_iff,or_false] at hf;rcases hf with ⟨rfl,rfl⟩ | ⟨rfl,rfl⟩ | ⟨rfl,rfl⟩ | ⟨rfl,rfl⟩ | ⟨rfl,rfl⟩ | ⟨rfl,rfl⟩ | ⟨rfl,rfl⟩ | ⟨rfl,rfl⟩
 ·exact absurd rfl ne
 ·cases t<;>first | (exact absurd rfl ne;done) | skip
  rename_i i;obtain ⟨u,rfl⟩:=x.int_inv;have e0:Zap "str" [.int i] σ=(if Zj i then val (.str (Zg i)) else stuck) σ:=rfl;rw [e0] at ne ⊢
  by_cases hs:Zj i=true
  ·rw [if_pos hs];exact Zuc P hs rfl
  ·rw [if_neg hs] at ne;exact absurd rfl ne
 ·cases t<;>first | (exact absurd rfl ne;done) | skip
  ·rename_i ts;obtain ⟨a,vs,n,rfl,h1,z,h2⟩:=x.list_inv;refine call_list_seq a (.inl rfl) (P.st.obj _ _ h1) rfl rfl (fun h' c' kp he=>?_) (by simpa using z);exact Zkk P kp (Qp _) he h2 z s.toks rfl
  ·rename_i a b;obtain ⟨r,o,rfl,h1,t,u,x,rfl⟩:∃r o,vv=.ref r∧Γ.obj r=some o∧∃t u x,o={ cls:=.type "range",data:=.fields #[.int a t,.int b u,.int 1 x] }:=by unfold Rep at x;exact x
   have e0:Zap "list" [.range a b] σ=(if Zj a&&Zj b&&decide (b - a≤Zc) then ownV (.list ((Qa a b).map .int)) else stuck) σ:=rfl;rw [e0] at ne ⊢;split at ne
   ·rename_i hs;rw [if_pos hs];simp only [Bool.and_eq_true,decide_eq_true_eq] at hs;obtain ⟨⟨h2,h3⟩,h4⟩:=hs;have hS:Zc=1000:=rfl;refine call_list_range (n:=(b - a).toNat) P.fr.handled (P.st.obj _ _ h1) ?_ ?_ (by omega) fun h' tk acc' c' kp he hi=>?_
    ·exact Zh9 h2 h3
    ·exact Zia
    ·have hl:=Zrr (c:=c) (Γ:=Γ) hi;have hz:acc'.toList.length=(b - a).toNat:=by rw [hl.length];simp
     refine Zkk P kp (Qp _) (vs:=acc'.toList) (n:=c') (by simpa using he) ?_ (by rw [hz,Z3];omega) tk rfl;unfold Qa;rw [List.map_map];exact hl
   ·exact absurd rfl ne
 ·cases t<;>first | (exact absurd rfl ne;done) | skip
  rename_i es;obtain ⟨a,ds,n,rfl,nm,h1,z,nd,h2⟩:=x.dict_inv;have h1':=P.st.obj _ _ h1;have e:=Zao (prog:=prog) h1' h2 nd;have hl:(Qo es ds).length=es.length:=by rw [←List.length_map (f:=Prod.fst),Jn h2,List.length_map]
  refine kt_call_dict nm e (by rw [hl,←h2.length];exact z) fun h' he sb=>?_
  obtain ⟨ds',n',q1,q2,q3⟩:=Zbf he (Zbg h2);refine Zsz P (fun b o eb=>?_) (Qp _) ?_ q1 q2 (by rw [q2.length,←h2.length];exact z) nd s.toks rfl
  ·have hb:b≠s.heap.objs.size:=Nat.ne_of_lt (Heap.lt_size eb);rw [sb.2 b hb];exact Z6 _ _ eb
  ·exact Heap.notMods fa P.st.kept
 ·cases t<;>first | (exact absurd rfl ne;done) | skip
  obtain ⟨u,rfl⟩:=x.int_inv;exact Zu6 fun u tk=>Zu P Rep.int _ rfl
 ·cases t<;>first | (exact absurd rfl ne;done) | skip
  rename_i n;obtain ⟨u,rfl⟩:=x.int_inv;refine call_range_1 (Zgm P rfl _ ?_ rfl);unfold Rep;exact ⟨_,_,rfl,Gh.add_at,_,_,_,rfl⟩
 ·exact absurd rfl ne
 ·exact absurd rfl ne
theorem Zub {f:Str}{t t':T}{vv vv':Value}{id:Value}(P:Pre c A I Γ σ s)(hf:(f,id)∈bltTable)(x:Rep c Γ t vv)(x':Rep c Γ t' vv')(ne:Zap f [t,t'] σ≠.stuck):
  wpAny (model prog c.w) A (call id [vv,vv']) (QOf c A Γ σ s (RV c (frs A)) (Zap f [t,t'] σ)) E s:=by
 simp only [bltTable,List.mem_cons,Prod.mk.injEq,List.mem_nil_iff,or_false] at hf;rcases hf with ⟨rfl,rfl⟩ | ⟨rfl,rfl⟩ | ⟨rfl,rfl⟩ | ⟨rfl,rfl⟩ | ⟨rfl,rfl⟩ | ⟨rfl,rfl⟩ | ⟨rfl,rfl⟩ | ⟨rfl,rfl⟩
 ·exact absurd rfl ne
 ·exact absurd rfl ne
 ·exact absurd rfl ne
 ·exact absurd rfl ne
 ·exact absurd rfl ne
 ·cases t<;>first | (exact absurd rfl ne;done) | skip
  cases t'<;>first | (exact absurd rfl ne;done) | skip
  obtain ⟨u,rfl⟩:=x.int_inv;obtain ⟨u',rfl⟩:=x'.int_inv;refine call_range_2 (Zgm P rfl _ ?_ rfl);unfold Rep;exact ⟨_,_,rfl,Gh.add_at,_,_,_,rfl⟩
 ·cases t<;>first | (exact absurd rfl ne;done) | skip
  cases t'<;>first | (exact absurd rfl ne;done) | skip
  rename_i a b;obtain ⟨u,rfl⟩:=x.int_inv;obtain ⟨u',rfl⟩:=x'.int_inv;have e0:Zap "max" [.int a,.int b] σ=.ok (.int (if a < b then b else a),.val) σ:=rfl;rw [e0];refine max_two_ints P.fr.handled fun h' tk kp=>?_
  have:(if b > a then Value.int b u' else Value.int a u)=Value.int (if a < b then b else a) (if a < b then u' else u):=by
   by_cases q:a < b
   ·rw [if_pos q,if_pos q,if_pos q]
   ·rw [if_neg q,if_neg q,if_neg q]
  rw [this];exact Zsy P kp Rep.int _ rfl
 ·exact absurd rfl ne
theorem Zru {n:Str}{t:T}{vv cv:Value}(fa:Facts c)(P:Pre c A I Γ σ s)(x:Look c Γ s.heap t vv)(hn:(n="Vector"∧cv=.ref c.vec)∨(n="str"∧cv=.type "str"))(ne:Zb3 n t σ≠.stuck):
  wpAny (model prog c.w) A (call (.builtin "isinstance") [vv,cv]) (QOf c A Γ σ s (RV c (frs A)) (Zb3 n t σ)) E s:=by
 rcases hn with ⟨rfl,rfl⟩ | ⟨rfl,rfl⟩
 ·have e0:Zb3 "Vector" t σ=(do val (.bool (←Zl (Zjo t)))) σ:=rfl;rw [e0] at ne ⊢;obtain ⟨b,hb⟩:=Zct ne;rw [hb];have X:=kin fa P.st;cases t<;>first | (cases hb;done) | skip
  ·cases hb;obtain ⟨a,d,o,rfl,h1,_⟩:=x;exact isi_call X (fun M=>(Looks.ld h1).andThen .now) fa.isV (fun q=>by cases q) (Zam P Rep.bool rfl)
  ·cases hb;obtain ⟨a,d,o,rfl,h1,h2,_⟩:∃a d o,vv=.ref a∧Γ.obj a=some (instObj c.nul d)∧Γ.obj d=some o∧Ze1 c o:=by have x:Rep c Γ .null vv:=x;unfold Rep at x;exact x
   obtain ⟨n1,n2,n3,n4,n5⟩:=fa.notS c.nul (by simp);exact kin_callC X ⟨P.st.obj _ _ h1,rfl,rfl,P.st.obj _ _ h2⟩ fa.notV n2 n3 n4 fa.cls1 fa.cls2 n5 (Zu P Rep.bool _ rfl)
  ·cases hb;obtain ⟨a,d,rfl,h1⟩:∃a d,vv=.ref a∧Γ.self=some (a,d):=by have x:Rep c Γ .self vv:=x;unfold Rep at x;exact x
   obtain ⟨sv,hs⟩:∃sv,σ.self=some sv:=by
    cases hs:σ.self with
    |some v=>exact ⟨v,rfl⟩
    |none=>have:=P.st.self;rw [hs] at this;rw [show Γ.self=none from this] at h1;cases h1
   obtain ⟨a',d',ik,ii,ia,t,b1,b2,_⟩:SelfOk c Γ s.heap sv:=by have:=P.st.self;rw [hs] at this;exact this
   rw [h1] at b1;cases b1;exact isi_call X (fun M=>(Looks.ld (P.st.obj _ _ b2)).andThen .now) fa.isV (fun q=>by cases q) (Zam P Rep.bool rfl)
 ·have e0:Zb3 "str" t σ=(do val (.bool (←Zl (Zjq t)))) σ:=rfl;rw [e0] at ne ⊢;obtain ⟨b,hb⟩:=Zct ne;rw [hb];have X:=kin fa P.st;have hty:typeOf (.type "str")=pure (.type "type"):=by kernel_rfl
  cases t<;>first | (cases hb;done) | skip
  ·cases hb;obtain ⟨u,rfl⟩:=Rep.str_inv (show Rep c Γ (.str _) vv from x);exact call_isinstance_yes (typeIs_str _ _ _) hty (by kernel_rfl) (Zam P Rep.bool rfl)
  ·cases hb;obtain ⟨a,vs,n,rfl,h1,_⟩:=x;exact call_isinstance (isinstance_false_list (by decide) hty (by kernel_rfl)) ⟨⟨_,h1,rfl⟩,Zu P Rep.bool _ rfl⟩
  ·cases hb;obtain ⟨a,ds,n,rfl,_,h1,_⟩:=x;exact call_isinstance (isinstance_false_dict (by decide) hty (by kernel_rfl)) ⟨⟨_,h1,rfl⟩,Zu P Rep.bool _ rfl⟩
  ·cases hb;obtain ⟨a,d,o,rfl,h1,h2⟩:=x;obtain ⟨n1,n2,n3,n4,n5⟩:=fa.notS c.vec (by simp);exact kin_callT X ⟨h1,rfl,rfl,h2⟩ n1 hty n2 n3 n4 fa.cls1 fa.cls2 n5 (Zu P Rep.bool _ rfl)
  ·cases hb;obtain ⟨a,d,o,rfl,h1,h2,_⟩:∃a d o,vv=.ref a∧Γ.obj a=some (instObj c.nul d)∧Γ.obj d=some o∧Ze1 c o:=by have x:Rep c Γ .null vv:=x;unfold Rep at x;exact x
   obtain ⟨n1,n2,n3,n4,n5⟩:=fa.notS c.nul (by simp);exact kin_callT X ⟨P.st.obj _ _ h1,rfl,rfl,P.st.obj _ _ h2⟩ n1 hty n2 n3 n4 fa.cls1 fa.cls2 n5 (Zu P Rep.bool _ rfl)
  ·cases hb;obtain ⟨a,d,rfl,h1⟩:∃a d,vv=.ref a∧Γ.self=some (a,d):=by have x:Rep c Γ .self vv:=x;unfold Rep at x;exact x
   obtain ⟨sv,hs⟩:∃sv,σ.self=some sv:=by
    cases hs:σ.self with
    |some v=>exact ⟨v,rfl⟩
    |none=>have:=P.st.self;rw [hs] at this;rw [show Γ.self=none from this] at h1;cases h1
   obtain ⟨a',d',ik,ii,ia,t,b1,b2,b3,b4,_⟩:SelfOk c Γ s.heap sv:=by have:=P.st.self;rw [hs] at this;exact this
   rw [h1] at b1;cases b1;obtain ⟨_,_,_,_,_,_,_,b4⟩:=b4;obtain ⟨n1,n2,n3,n4,n5⟩:=fa.notS c.vec (by simp);exact kin_callT X ⟨P.st.obj _ _ b2,rfl,rfl,b4⟩ n1 hty n2 n3 n4 fa.cls1 fa.cls2 n5 (Zu P Rep.bool _ rfl)
end
section
variable {c:Cx}{fr:List Addr}{Γ₀ Γ Γ₁:Gh}{σ₀ σ σ₁:Sg}{h₀ h h' h₁:Heap}{a:Addr}
theorem Zar (S:St c Γ σ h)(x:Step fr Γ₀ σ₀ h₀ Γ σ h)(n:h₀.get? a=none)(l:Loose Γ a)(sb:Heap.SameBut a h h'):St c Γ σ h'∧Step fr Γ₀ σ₀ h₀ Γ σ h':=by
 have kp:∀b o,b≠a→h.get? b=some o→h'.get? b=some o:=fun b o hb e=>(sb.2 b hb).trans e
 have id':∀{d y},d≠a→IDict c h d y→IDict c h' d y:=by
  rintro d y hd ⟨sh,t1,t2,t3,t4,t5,m,e⟩
  exact ⟨sh,t1,t2,t3,t4,t5,m,kp d _ hd e⟩
 have nm:∀{d},Γ.moves d→d≠a:=fun hm q=>l.2.2 (q▸hm)
 refine ⟨⟨S.base,fun b o e=>kp b o (fun q=>by subst q;rw [l.1] at e;cases e) (S.obj b o e),fun d y e=>id' (fun q=>by subst q;rw [l.2.1] at e;cases e) (S.idc d y e),fun b e=>?_,S.apart2,?_,?_,?_⟩,?_⟩
 ·obtain ⟨q1,q2,o,q3⟩:=S.apart b e;exact ⟨q1,q2,o,kp b o (nm e) q3⟩
 ·have q:=S.row
  cases hr:σ.row with
  |none=>rw [hr] at q;exact q
  |some ns=>
   rw [hr] at q;obtain ⟨r,vs,m,a1,a2,a3,a5⟩:=q;exact ⟨r,vs,m,a1,a2,kp _ _ (nm a2) a3,a5⟩
 ·have q:=S.self
  cases hs:σ.self with
  |none=>rw [hs] at q;exact q
  |some v=>
   rw [hs] at q;obtain ⟨a',d,ik,ii,ia,t,b1,b2,b3,b4,b5,b6,b7⟩:=q;refine ⟨a',d,ik,ii,ia,t,b1,b2,b3,id' (nm b3) b4,b5,b6,?_⟩
   cases ha:v.attrs with
   |none=>rw [ha] at b7;exact b7
   |some es=>
    rw [ha] at b7;obtain ⟨D,ds,m,c1,c2,c3,c4,c5,c6⟩:=b7;exact ⟨D,ds,m,c1,c2,c3,c4,kp D _ (nm c3) c5,c6⟩
 ·obtain ⟨m1,ps,m2,m3⟩:=S.tab;exact ⟨m1,ps,kp _ _ (nm m1.1) m2,m3⟩
 ·have na:∀{b o},h₀.get? b=some o→b≠a:=fun e q=>by subst q;rw [n] at e;cases e
  refine ⟨x.le,fun b o e=>?_,fun b o e hm hi hf=>kp b o (na e) (x.keep b o e hm hi hf),fun b o hb e lb=>?_,x.old,x.rowNew,fun v v' e e' q=>?_,x.mono⟩
  ·obtain ⟨o',e'⟩:=x.alive b o e;exact ⟨o',kp b o' (na e) e'⟩
  ·obtain ⟨sl,e'⟩:=x.frames b o hb e lb;exact ⟨sl,kp b _ (na e) e'⟩
  ·obtain ⟨q1,q2⟩:=x.still v v' e e' q;refine ⟨q1,fun b hm hr ht=>?_⟩;rw [←q2 b hm hr ht];exact sb.2 b (nm (x.le.moves b hm))
theorem Step.inner {fr':List Addr}(S:St c Γ₀ σ₀ h₀)(x:Step fr Γ₀ σ₀ h₀ Γ σ h)(sub:∀b∈fr,b∈fr')(new:∀b∈fr',b∈fr∨h₀.get? b=none)(y:Step fr' Γ σ h Γ₁ σ₁ h₁):Step fr Γ₀ σ₀ h₀ Γ₁ σ₁ h₁:=by
 have z:Step fr' Γ₀ σ₀ h₀ Γ σ h:=
  ⟨x.le,x.alive,fun b o e hm hi hf=>x.keep b o e hm hi (fun q=>hf (sub b q)),(fun b o hb e l=>by
   rcases new b hb with q | q
   ·exact x.frames b o q e l
   ·rw [q] at e;cases e),x.old,x.rowNew,x.still,x.mono⟩
 have w:=Step.trans S z y;refine ⟨w.le,w.alive,fun b o e hm hi hf=>w.keep b o e hm hi fun q=>?_,fun b o hb e l=>w.frames b o (sub b hb) e l,w.old,w.rowNew,w.still,w.mono⟩;rcases new b q with q | q
 ·exact hf q
 ·rw [q] at e;cases e
end
structure SPre (c:Cx) (A₀ A:Around) (env:PySem.Env) (L:Ev) (Γ₀:Gh) (σ₀:Sg) (s₀:Shared) (Γ:Gh) (σ:Sg) (s:Shared):Prop where
 st₀:St c Γ₀ σ₀ s₀.heap
 same:Same s₀ s
 st:St c Γ σ s.heap
 fr:FrOk A Γ s.heap
 envr:EnvR c s₀.heap Γ s.heap (frs A) env L
 step:Step (frs A₀) Γ₀ σ₀ s₀.heap Γ σ s.heap
 inf:env.locals∈frs A
 top:∃outer,A.frames=some (env::outer)
 frame:env.frame=some env.locals
 sub:∀b∈frs A₀,b∈frs A
 new:∀b∈frs A,b∈frs A₀∨s₀.heap.get? b=none
 fresh:s₀.heap.get? env.locals=none
 cells:∀x ca,env.cells.lookup x=some ca→s₀.heap.get? ca=none∧Loose Γ ca∧∃v,s.heap.IsCell ca v
 apart:∀x y ca,env.cells.lookup x=some ca→env.cells.lookup y=some ca→x=y
 kinds:∀x,env.kindOf x=some .cell→∃ca,env.cells.lookup x=some ca
 nofree:∀x,env.kindOf x≠some .free
section
variable {c:Cx}{A₀ A:Around}{env:PySem.Env}{L:Ev}{Γ₀ Γ Γ₁:Gh}{σ₀ σ σ₁:Sg}{s₀ s s₁:Shared}
theorem SPre.pre (P:SPre c A₀ A env L Γ₀ σ₀ s₀ Γ σ s):Pre c A (envI c s₀.heap (frs A) env L) Γ σ s:=⟨P.st,P.fr,P.envr⟩
theorem SPre.next (P:SPre c A₀ A env L Γ₀ σ₀ s₀ Γ σ s)(sm:Same s s₁)(S:St c Γ₁ σ₁ s₁.heap)(x:Step (frs A) Γ σ s.heap Γ₁ σ₁ s₁.heap):SPre c A₀ A env L Γ₀ σ₀ s₀ Γ₁ σ₁ s₁:=
 ⟨P.st₀,P.same.trans sm,S,P.fr.step x,P.envr.step x,Step.inner P.st₀ P.step P.sub P.new x,P.inf,P.top,P.frame,P.sub,P.new,P.fresh,fun n ca e=>by
  obtain ⟨q1,q2,v,q3⟩:=P.cells n ca e;obtain ⟨r1,r2⟩:=x.cell q2 q3;exact ⟨q1,r2,v,r1⟩,P.apart,P.kinds,P.nofree⟩
theorem OwnAt.apart {t:T}{k:Kd}{v:Value}{as:List Addr}{fr:List Addr}{h h':Heap}{a:Addr}(y:OwnAt c Γ h fr t k v as)(sb:Heap.SameBut a h h')(n:a∉as):OwnAt c Γ h' fr t k v as:=by
 have kp:∀{b o},b≠a→h.get? b=some o→h'.get? b=some o:=fun hb e=>(sb.2 _ hb).trans e
 unfold OwnAt at y ⊢;split at y
 ·obtain ⟨a',vs,n',rfl,rfl,e,z,r,l,f⟩:=y;exact ⟨a',vs,n',rfl,rfl,kp (fun q=>n (by simp [q])) e,z,r,l,f⟩
 ·obtain ⟨a',ds,n',rfl,rfl,nm,e,z,nd,r,l,f⟩:=y;exact ⟨a',ds,n',rfl,rfl,nm,kp (fun q=>n (by simp [q])) e,z,nd,r,l,f⟩
 ·obtain ⟨a',d,ik,ii,ia,t,rfl,rfl,hne,e,⟨sh,t1,t2,t3,t4,t5,m,ei⟩,r⟩:=y;exact ⟨a',d,ik,ii,ia,t,rfl,rfl,hne,kp (fun q=>n (by simp [q])) e,⟨sh,t1,t2,t3,t4,t5,m,kp (fun q=>n (by simp [q])) ei⟩,r⟩
 ·obtain ⟨a',d,b,ik,ia,t,vs,n',rfl,rfl,ne1,ne2,ne3,e,⟨sh,t1,t2,t3,t4,t5,m,ei⟩,hik,e2,r⟩:=y;exact ⟨a',d,b,ik,ia,t,vs,n',rfl,rfl,ne1,ne2,ne3,kp (fun q=>n (by simp [q])) e,⟨sh,t1,t2,t3,t4,t5,m,kp (fun q=>n (by simp [q])) ei⟩,hik,kp (fun q=>n (by simp [q])) e2,r⟩
 ·exact y.elim
theorem OwnAt.notCell {t:T}{k:Kd}{v:Value}{as:List Addr}{fr:List Addr}{h:Heap}{a:Addr}{w:Option Value}(y:OwnAt c Γ h fr t k v as)(n:h.IsCell a w):a∉as:=by
 obtain ⟨o,e,hd⟩:=n;intro q;unfold OwnAt at y;split at y
 ·obtain ⟨a',vs,n',rfl,rfl,e',_⟩:=y;simp at q;subst q;rw [e] at e';cases e';cases hd
 ·obtain ⟨a',ds,n',rfl,rfl,nm,e',_⟩:=y;simp at q;subst q;rw [e] at e';cases e';cases hd
 ·obtain ⟨a',d,ik,ii,ia,t,rfl,rfl,hne,e',⟨sh,t1,t2,t3,t4,t5,m,ei⟩,_⟩:=y;simp at q;rcases q with rfl | rfl
  ·rw [e] at e';cases e';cases hd
  ·rw [e] at ei;cases ei;cases hd
 ·obtain ⟨a',d,b,ik,ia,t,vs,n',rfl,rfl,ne1,ne2,ne3,e',⟨sh,t1,t2,t3,t4,t5,m,ei⟩,hik,e2,_⟩:=y;simp at q;rcases q with rfl | rfl | rfl
  ·rw [e] at e';cases e';cases hd
  ·rw [e] at ei;cases ei;cases hd
  ·rw [e] at e2;cases e2;cases hd
 ·exact y
def NewB (c:Cx)(A:Around)(env:PySem.Env)(L L':Ev)(s₀:Shared)(Γ:Gh)(h:Heap)(x:Str)(v:Value):Prop:=
 (∃t,L'=L.bindVal x t∧Rep c Γ t v) ∨
 (∃t k as,L'=L.bindOwn x t k∧OwnAt c Γ h (frs A) t k v as∧(∀a∈as,s₀.heap.get? a=none)∧∀(f:Str→List Addr) (m:Str→Option Value),h.Ns env.locals m→(∀p∈L.own,∃v,Bnd Γ h env m p.1 v∧OwnAt c Γ h (frs A) p.2.1 p.2.2 v (f p.1))→∀p∈L.own,∀a∈f p.1,a∉as)
theorem Qf {x:Str}{o:List (Str×T×Kd)}{p:Str×T×Kd}(h:p∈Q3 x o):p∈o∧p.1≠x:=by
 unfold Q3 at h;rw [List.mem_filter] at h;exact ⟨h.1,by simpa using h.2⟩
theorem Zkm {x:Str}{o:List (Str×T×Kd)}(h:(o.map (·.1)).Nodup):((Q3 x o).map (·.1)).Nodup:=by
 unfold Q3;exact List.Sublist.nodup (List.Sublist.map _ List.filter_sublist) h
theorem SPre.bind {L':Ev}{x:Str}{v:Value}{a:Addr}{h':Heap}{m m':Str→Option Value}{tk:Nat}(P:SPre c A₀ A env L Γ₀ σ₀ s₀ Γ σ s)(la:Loose Γ a)(na:s₀.heap.get? a=none)(sb:Heap.SameBut a s.heap h')
  (hm:s.heap.Ns env.locals m) (hm':h'.Ns env.locals m') (nown:∀t k v as,OwnAt c Γ s.heap (frs A) t k v as→a∉as)
  (hfr:∀F o,F∈frs A→s.heap.get? F=some o→∃o',h'.get? F=some o'∧∀vs,o'.data≠.fields vs)
  (hcell:∀y ca w,env.cells.lookup y=some ca→s.heap.IsCell ca w→∃w',h'.IsCell ca w')
  (keepB:∀y w,y≠x→Bnd Γ s.heap env m y w→Bnd Γ h' env m' y w) (newB:Bnd Γ h' env m' x v)
  (hb:NewB c A env L L' s₀ Γ s.heap x v):SPre c A₀ A env L' Γ₀ σ₀ s₀ Γ σ { s with heap:=h',toks:=tk }:=by
 obtain ⟨S',x'⟩:=Zar P.st P.step na la sb;obtain ⟨e1,e2,e3,m₀,e4,e5,e6,f,e7,e8,e9,e10⟩:=P.envr;have hmm:m₀=m:=by
  obtain ⟨o,es,ep,q1,q2,q3⟩:=e4;obtain ⟨o',es',ep',r1,r2,r3⟩:=hm;rw [q1] at r1;cases r1;rw [q2] at r2;cases r2;funext n;rw [←q3.2 n,r3.2 n]
 subst hmm;refine ⟨P.st₀,P.same.trans ⟨h',tk,rfl⟩,S',?_,?_,x',P.inf,P.top,P.frame,P.sub,P.new,P.fresh,fun n ca e=>?_,P.apart,P.kinds,P.nofree⟩
 ·obtain ⟨⟨l,hl,hF⟩,hh⟩:=P.fr;refine ⟨⟨l,hl,fun e he=>?_⟩,hh⟩;obtain ⟨h1,F,o,h2,h3,h4,h5⟩:=hF e he;obtain ⟨o',q1,q2⟩:=hfr F o (by unfold frs;rw [hl];exact List.mem_filterMap.mpr ⟨e,he,h2⟩) h3;exact ⟨h1,F,o',h2,q1,q2,h5⟩
 ·refine ⟨e1,e2,e3,m',hm',e5,?_,?_⟩
  ·intro y t hy;rcases hb with ⟨t',rfl,r⟩ | ⟨t',k,as,rfl,_⟩
   ·unfold Ev.bindVal upd at hy;dsimp only at hy
    by_cases q:y=x
    ·subst q;rw [if_pos rfl] at hy;cases hy;exact ⟨v,newB,r⟩
    ·rw [if_neg q] at hy;obtain ⟨w,q1,q2⟩:=e6 y t hy;exact ⟨w,keepB y w q q1,q2⟩
   ·unfold Ev.bindOwn at hy;dsimp only at hy
    by_cases q:y=x
    ·subst q;rw [if_pos rfl] at hy;cases hy
    ·rw [if_neg q] at hy;obtain ⟨w,q1,q2⟩:=e6 y t hy;exact ⟨w,keepB y w q q1,q2⟩
  ·have old:∀p∈Q3 x L.own,∃v,Bnd Γ h' env m' p.1 v∧OwnAt c Γ h' (frs A) p.2.1 p.2.2 v (f p.1):=fun p hp=>by
    obtain ⟨hp1,hp2⟩:=Qf hp;obtain ⟨w,q1,q2⟩:=e7 p hp1;exact ⟨w,keepB _ _ hp2 q1,q2.apart sb (nown _ _ _ _ q2)⟩
   rcases hb with ⟨t',rfl,r⟩ | ⟨t',k,as,rfl,r1,r2,r3⟩
   ·exact ⟨f,old,fun p hp q hq=>e8 p (Qf hp).1 q (Qf hq).1,Zkm e9,fun p hp=>e10 p (Qf hp).1⟩
   ·have r3:=r3 f m₀ hm e7;refine ⟨fun y=>if y=x then as else f y,?_,?_,?_,?_⟩
    ·intro p hp;rcases List.mem_cons.mp hp with rfl | hp
     ·refine ⟨v,newB,?_⟩;dsimp only;rw [if_pos rfl];exact r1.apart sb (nown _ _ _ _ r1)
     ·dsimp only;rw [if_neg (Qf hp).2];exact old p hp
    ·intro p hp q hq hne b hb;rcases List.mem_cons.mp hp with rfl | hp<;>rcases List.mem_cons.mp hq with rfl | hq
     ·exact absurd rfl hne
     ·dsimp only at hb;rw [if_pos rfl] at hb;dsimp only;rw [if_neg (Qf hq).2];exact fun q'=>r3 q (Qf hq).1 b q' hb
     ·dsimp only at hb;rw [if_neg (Qf hp).2] at hb;dsimp only;rw [if_pos rfl];exact r3 p (Qf hp).1 b hb
     ·dsimp only at hb;rw [if_neg (Qf hp).2] at hb;dsimp only;rw [if_neg (Qf hq).2];exact e8 p (Qf hp).1 q (Qf hq).1 hne b hb
    ·show (x::(Q3 x L.own).map (·.1)).Nodup;rw [List.nodup_cons];refine ⟨fun q=>?_,Zkm e9⟩;obtain ⟨p,hp,rfl⟩:=List.mem_map.mp q;exact (Qf hp).2 rfl
    ·intro p hp b hb;rcases List.mem_cons.mp hp with rfl | hp
     ·dsimp only at hb;rw [if_pos rfl] at hb;exact r2 b hb
     ·dsimp only at hb;rw [if_neg (Qf hp).2] at hb;exact e10 p (Qf hp).1 b hb
 ·obtain ⟨q1,q2,w,q3⟩:=P.cells n ca e;obtain ⟨w',q4⟩:=hcell n ca w e q3;exact ⟨q1,q2,w',q4⟩
theorem SPre.bindA {L':Ev}{x:Str}{v:Value}{a:Addr}{h':Heap}{m m':Str→Option Value}(P:SPre c A₀ A env L Γ₀ σ₀ s₀ Γ σ s)(sb:Heap.SameBut a s.heap h')
  (hm:s.heap.Ns env.locals m) (hm':h'.Ns env.locals m') (nown:∀t k v as,OwnAt c Γ s.heap (frs A) t k v as→a∉as)
  (keepB:∀y w,y≠x→Bnd Γ s.heap env m y w→Bnd Γ h' env m' y w) (newB:Bnd Γ h' env m' x v)
  (hb:NewB c A env L L' s₀ Γ s.heap x v) (b:Addr) (h1:∀(f:Str→List Addr) (m:Str→Option Value),s.heap.Ns env.locals m→(∀p∈L.own,∃v,Bnd Γ s.heap env m p.1 v∧OwnAt c Γ s.heap (frs A) p.2.1 p.2.2 v (f p.1))→∀p∈L.own,b∉f p.1)
  (h2:∀t k as,OwnAt c Γ s.heap (frs A) t k v as→b∉as):
  ∃(f:Str→List Addr) (m:Str→Option Value),h'.Ns env.locals m∧(∀p∈L'.own,∃v,Bnd Γ h' env m p.1 v∧OwnAt c Γ h' (frs A) p.2.1 p.2.2 v (f p.1))∧∀p∈L'.own,b∉f p.1:=by
 obtain ⟨e1,e2,e3,m₀,e4,e5,e6,f,e7,e8,e9,e10⟩:=P.envr;have hmm:m₀=m:=by
  obtain ⟨o,es,ep,q1,q2,q3⟩:=e4;obtain ⟨o',es',ep',r1,r2,r3⟩:=hm;rw [q1] at r1;cases r1;rw [q2] at r2;cases r2;funext n;rw [←q3.2 n,r3.2 n]
 subst hmm;have h1:=h1 f m₀ e4 e7;have old:∀p∈Q3 x L.own,∃v,Bnd Γ h' env m' p.1 v∧OwnAt c Γ h' (frs A) p.2.1 p.2.2 v (f p.1):=fun p hp=>by
  obtain ⟨hp1,hp2⟩:=Qf hp;obtain ⟨w,q1,q2⟩:=e7 p hp1;exact ⟨w,keepB _ _ hp2 q1,q2.apart sb (nown _ _ _ _ q2)⟩
 rcases hb with ⟨t',rfl,r⟩ | ⟨t',k,as,rfl,r1,r2,r3⟩
 ·exact ⟨f,m',hm',old,fun p hp=>h1 p (Qf hp).1⟩
 ·refine ⟨fun y=>if y=x then as else f y,m',hm',fun p hp=>?_,fun p hp=>?_⟩
  ·rcases List.mem_cons.mp hp with rfl | hp
   ·refine ⟨v,newB,?_⟩;dsimp only;rw [if_pos rfl];exact r1.apart sb (nown _ _ _ _ r1)
   ·dsimp only;rw [if_neg (Qf hp).2];exact old p hp
  ·rcases List.mem_cons.mp hp with rfl | hp
   ·dsimp only;rw [if_pos rfl];exact h2 _ _ _ r1
   ·dsimp only;rw [if_neg (Qf hp).2];exact h1 p (Qf hp).1
end
section
variable {prog:Program}{c:Cx}{A₀ A:Around}{env:PySem.Env}{L L':Ev}{Γ₀ Γ Γ₁:Gh}{σ₀ σ σ₁:Sg}{s₀ s s₁:Shared}{E:Value→Shared→Prop}{G:Calls}
theorem Bnd.kind {h:Heap}{m:Str→Option Value}{y:Str}{w:Value}(b:Bnd Γ h env m y w):env.kindOf y=some .local∨env.kindOf y=some .cell∨env.kindOf y=some .free:=by
 rcases b with ⟨h1,_⟩ | ⟨k,ca,h1,h2,_⟩
 ·exact .inl h1
 ·rcases h1 with rfl | rfl
  ·exact .inr (.inl h2)
  ·exact .inr (.inr h2)
def Zg8 (c:Cx)(A:Around)(env:PySem.Env)(L L':Ev)(Γ:Gh)(h h':Heap)(x:Str)(v:Value):Prop:=
 (∃a,(a=env.locals∨env.cells.lookup x=some a)∧Heap.SameBut a h h')∧
 ∀b:Addr,(∀(f:Str→List Addr) (m:Str→Option Value),h.Ns env.locals m→(∀p∈L.own,∃v,Bnd Γ h env m p.1 v∧OwnAt c Γ h (frs A) p.2.1 p.2.2 v (f p.1))→∀p∈L.own,b∉f p.1)→
  (∀t k as,OwnAt c Γ h (frs A) t k v as→b∉as)→
  ∃(f:Str→List Addr) (m:Str→Option Value),h'.Ns env.locals m∧(∀p∈L'.own,∃v,Bnd Γ h' env m p.1 v∧OwnAt c Γ h' (frs A) p.2.1 p.2.2 v (f p.1))∧∀p∈L'.own,b∉f p.1
theorem SPre.store {x:Str}{v:Value}{Q:Unit→Shared→Prop}(P:SPre c A₀ A env L Γ₀ σ₀ s₀ Γ σ s)(hk:env.kindOf x=some .local∨env.kindOf x=some .cell)(hb:NewB c A env L L' s₀ Γ s.heap x v)
  (h:∀h' tk,SPre c A₀ A env L' Γ₀ σ₀ s₀ Γ σ { s with heap:=h',toks:=tk }→Zg8 c A env L L' Γ s.heap h' x v→Q () { s with heap:=h',toks:=tk }):wpAny (model prog c.w) A (storeName env x v) Q E s:=by
 obtain ⟨e1,e2,e3,m,e4,e5,e6⟩:=P.envr;have fra:∀{a h'},Heap.SameBut a s.heap h'→(∀o,a∈frs A→s.heap.get? a=some o→∃o',h'.get? a=some o'∧∀vs,o'.data≠.fields vs)→
   ∀F o,F∈frs A→s.heap.get? F=some o→∃o',h'.get? F=some o'∧∀vs,o'.data≠.fields vs:=by
  intro a h' sb ha F o hF e
  by_cases q:F=a
  ·subst q;exact ha o hF e
  ·obtain ⟨o',q1,q2,_⟩:=P.fr.alive hF;rw [e] at q1;cases q1;exact ⟨o,(sb.2 F q).trans e,q2⟩
 have lcell:∀y ca,env.cells.lookup y=some ca→ca≠env.locals:=by
  intro y ca e q;obtain ⟨_,_,w,o,q1,q2⟩:=P.cells y ca e;obtain ⟨o',es,ep,r1,r2,_⟩:=e4;rw [q,r1] at q1;cases q1;rw [r2] at q2;cases q2
 rcases hk with hk | hk
 ·refine wpAny_storeName_local hk e4 (fun h' hn' sb=>?_) (by rw [e1];rfl);have hn'':=hn';obtain ⟨o',es,ep,r1,r2,_⟩:=hn';have kb:∀y w,y≠x→Bnd Γ s.heap env m y w→Bnd Γ h' env (fun y=>if y=x then some v else m y) y w:=by
   intro y w hy b;rcases b with ⟨h1,h2⟩ | ⟨k,ca,h1,h2,h3,h4,h5⟩
   ·exact .inl ⟨h1,by dsimp only;rw [if_neg hy];exact h2⟩
   ·exact .inr ⟨k,ca,h1,h2,h3,h4.sameBut sb (lcell y ca h3),h5⟩
  have nw:∀t k w as,OwnAt c Γ s.heap (frs A) t k w as→env.locals∉as:=fun t k w as y=>fun q=>(y.as_loose _ q).2.1 P.inf
  have nb:Bnd Γ h' env (fun y=>if y=x then some v else m y) x v:=.inl ⟨hk,if_pos rfl⟩;refine h h' _ (P.bind e5 P.fresh sb e4 hn'' nw (fra sb fun o _ _=>⟨o',r1,fun vs q=>by rw [r2] at q;cases q⟩) ?_ kb nb hb) ⟨⟨_,.inl rfl,sb⟩,fun b h1 h2=>P.bindA sb e4 hn'' nw kb nb hb b h1 h2⟩;intro y ca w ey ic;exact ⟨w,ic.sameBut sb (lcell y ca ey)⟩
 ·obtain ⟨ca,hc⟩:=P.kinds x hk;obtain ⟨c1,c2,w₀,c3⟩:=P.cells x ca hc;refine wpAny_storeName_cell e1 hk hc c3 fun h' ic sb=>?_
  have hn':h'.Ns env.locals m:=e4.sameBut sb (fun q=>lcell x ca hc q.symm);obtain ⟨o',r1,r2⟩:=ic;have kb:∀y w,y≠x→Bnd Γ s.heap env m y w→Bnd Γ h' env m y w:=by
   intro y w hy b;rcases b with b | ⟨k,cb,h1,h2,h3,h4,h5⟩
   ·exact .inl b
   ·exact .inr ⟨k,cb,h1,h2,h3,h4.sameBut sb (fun q=>by subst q;exact hy (P.apart _ _ _ h3 hc)),h5⟩
  have nw:∀t k w as,OwnAt c Γ s.heap (frs A) t k w as→ca∉as:=fun t k w as y=>y.notCell c3
  have nb:Bnd Γ h' env m x v:=.inr ⟨.cell,ca,.inl rfl,hk,hc,⟨o',r1,r2⟩,c2⟩;refine h h' s.toks (P.bind (tk:=s.toks) (L':=L') (x:=x) (v:=v) c2 c1 sb e4 hn' nw (fra sb fun o _ _=>⟨o',r1,fun vs q=>by rw [r2] at q;cases q⟩) ?_ kb nb hb) ⟨⟨_,.inr hc,sb⟩,fun b h1 h2=>P.bindA sb e4 hn' nw kb nb hb b h1 h2⟩;intro y cb w ey ic'
  by_cases q:cb=ca
  ·subst q;exact ⟨_,o',r1,r2⟩
  ·exact ⟨w,ic'.sameBut sb q⟩
def FlowR (c:Cx)(A₀:Around)(s₀:Shared)(Γ:Gh)(σ:Sg)(h:Heap)(o:Out)(f:Flow):Prop:=match o with
 |.next=>f=.next
 |.cont=>f=.cont
 |.ret t k=>∃v,f=.ret v∧RV c (frs A₀) s₀.heap Γ σ h (t,k) v
def SQ (c:Cx)(A₀ A:Around)(env:PySem.Env)(Γ₀:Gh)(σ₀:Sg)(s₀:Shared)(res:Res (Out×Ev))(f:Flow)(s':Shared):Prop:=
 ∃o L' σ' Γ',res=.ok (o,L') σ'∧SPre c A₀ A env L' Γ₀ σ₀ s₀ Γ' σ' s'∧FlowR c A₀ s₀ Γ' σ' s'.heap o f
def SE (c:Cx)(A₀ A:Around)(Γ₀:Gh)(σ₀:Sg)(s₀:Shared){α:Type}(res:Res α)(e:Value)(s':Shared):Prop:=
 ∃m σ' Γ' ea,res=.exn m σ'∧e=.ref ea∧Same s₀ s'∧St c Γ' σ' s'.heap∧Step (frs A₀) Γ₀ σ₀ s₀.heap Γ' σ' s'.heap∧FrOk A Γ' s'.heap∧ExAt c (frs A) s₀.heap Γ' s'.heap ea m
def SSnd (prog:Program)(c:Cx)(A₀ A:Around)(env:PySem.Env)(m:Ev→M (Out×Ev))(X:Sem Flow):Prop:=
 ∀L Γ₀ σ₀ s₀ Γ σ s,SPre c A₀ A env L Γ₀ σ₀ s₀ Γ σ s→m L σ≠.stuck→wpAny (model prog c.w) A X (SQ c A₀ A env Γ₀ σ₀ s₀ (m L σ)) (SE c A₀ A Γ₀ σ₀ s₀ (m L σ)) s
def ESnd (prog:Program)(c:Cx)(A:Around)(env:PySem.Env)(G:Calls)(e:Expr):Prop:=∀old L,Snd prog c A (envI c old (frs A) env L) (RV c (frs A)) (Za G L e) (eval e env)
def TSnd (prog:Program)(c:Cx)(A:Around)(env:PySem.Env)(G:Calls)(e:Expr):Prop:=∀old L,Snd prog c A (envI c old (frs A) env L) RB (evalT G L e (Za G L e)) (PySem.isTrue e env (eval e env))
theorem SE.cast {α β:Type}{res:Res α}{res':Res β}{e:Value}(h:∀m σ',res=.exn m σ'→res'=.exn m σ')(q:SE c A₀ A Γ₀ σ₀ s₀ res e s₁):SE c A₀ A Γ₀ σ₀ s₀ res' e s₁:=by
 obtain ⟨m,σ',Γ',ea,h1,r⟩:=q;exact ⟨m,σ',Γ',ea,h _ _ h1,r⟩
theorem EOf.toSE {α:Type}{res:Res α}{e:Value}(P:SPre c A₀ A env L Γ₀ σ₀ s₀ Γ σ s)(q:EOf c A Γ σ s res e s₁):SE c A₀ A Γ₀ σ₀ s₀ res e s₁:=by
 obtain ⟨m,σ',h1,Γ',ea,h2,h3,h4,h5,h6⟩:=q;exact ⟨m,σ',Γ',ea,h1,h2,P.same.trans h3,h4,Step.inner P.st₀ P.step P.sub P.new h5,P.fr.step h5,h6.back P.step.alive⟩
theorem sseq {α β γ:Type}{R:Heap→Gh→Sg→Heap→α→γ→Prop}{m:M α}{f:α→M β}{X:Sem γ}{K:γ→Shared→Prop}(P:SPre c A₀ A env L Γ₀ σ₀ s₀ Γ σ s)(ne:(m>>=f) σ≠.stuck)
  (hX:Snd prog c A (envI c s₀.heap (frs A) env L) R m X)
  (k:∀a σ₁ Γ₁ b s₁,m σ=.ok a σ₁→SPre c A₀ A env L Γ₀ σ₀ s₀ Γ₁ σ₁ s₁→Step (frs A) Γ σ s.heap Γ₁ σ₁ s₁.heap→R s.heap Γ₁ σ₁ s₁.heap a b→f a σ₁≠.stuck→((m>>=f) σ=f a σ₁)→K b s₁):
  wpAny (model prog c.w) A X K (SE c A₀ A Γ₀ σ₀ s₀ ((m>>=f) σ)) s:=by
 refine wpAny_mono (seq P.pre ne hX fun a σ₁ Γ₁ b s₁ e y1 y3 P₁ r ne' e'=>k a σ₁ Γ₁ b s₁ e (P.next y1 P₁.st y3) y3 r ne' e') (fun _ _ q=>q) fun e s' q=>q.toSE P
theorem OwnAt.mono {h:Heap}{fr:List Addr}{t:T}{k:Kd}{v:Value}{as:List Addr}(y:OwnAt c Γ h fr t k v as)(le:Γ.Le Γ₁)(lo:∀b∈as,Loose Γ b→Loose Γ₁ b):OwnAt c Γ₁ h fr t k v as:=by
 unfold OwnAt at y ⊢;split at y
 ·obtain ⟨a,vs,n,rfl,rfl,e,z,r,l,f⟩:=y;exact ⟨a,vs,n,rfl,rfl,e,z,RepL.mono le _ _ r,lo a (by simp) l,f⟩
 ·obtain ⟨a,ds,n,rfl,rfl,nm,e,z,nd,r,l,f⟩:=y;exact ⟨a,ds,n,rfl,rfl,nm,e,z,nd,RepD.mono le _ _ r,lo a (by simp) l,f⟩
 ·obtain ⟨a,d,ik,ii,ia,t,rfl,rfl,hne,e,ei,hik,r1,r2,l1,l2,f1,f2⟩:=y;exact ⟨a,d,ik,ii,ia,t,rfl,rfl,hne,e,ei,hik,Rep.mono le _ _ r1,Rep.mono le _ _ r2,lo a (by simp) l1,lo d (by simp) l2,f1,f2⟩
 ·obtain ⟨a,d,b,ik,ia,t,vs,n,rfl,rfl,ne1,ne2,ne3,e,ei,hik,e2,z,r1,r2,l1,l2,l3,f1,f2,f3⟩:=y;exact ⟨a,d,b,ik,ia,t,vs,n,rfl,rfl,ne1,ne2,ne3,e,ei,hik,e2,z,RepL.mono le _ _ r1,Rep.mono le _ _ r2,lo a (by simp) l1,lo d (by simp) l2,lo b (by simp) l3,f1,f2,f3⟩
 ·exact y.elim
theorem OwnAt.notLocals {t:T}{k:Kd}{v:Value}{as:List Addr}{fr:List Addr}{h:Heap}{b:Addr}(y:OwnAt c Γ h fr t k v as)(m:b∈fr):b∉as:=fun q=>(y.as_loose b q).2.1 m
theorem SPre.freeze {x:Str}{t:T}{k:Kd}{pre post:List (Str×T×Kd)}{loc:Str→Option T}(P:SPre c A₀ A env { L with loc:=loc,own:=pre++(x,t,k)::post } Γ₀ σ₀ s₀ Γ σ s):
  ∃Γ',SPre c A₀ A env { L with loc:=upd loc x t,own:=pre++post } Γ₀ σ₀ s₀ Γ' σ s∧Γ.Le Γ':=by
 obtain ⟨e1,e2,e3,m,e4,e5,e6,f,e7,e8,e9,e10⟩:=P.envr;dsimp only at e6 e7 e8 e9 e10;have hx:(x,t,k)∈pre++(x,t,k)::post:=by simp
 obtain ⟨v,b,q⟩:=e7 _ hx;obtain ⟨Γ',le,S',r',lo,st⟩:=q.freeze P.st;have sub:∀p∈pre++post,p∈pre++(x,t,k)::post:=fun p hp=>by
  rcases List.mem_append.mp hp with h | h
  ·exact List.mem_append_left _ h
  ·exact List.mem_append_right _ (List.mem_cons_of_mem _ h)
 have nx:∀p∈pre++post,p.1≠x:=fun p hp q=>by
  rw [List.map_append,List.map_cons,List.nodup_append] at e9;obtain ⟨n1,n2,n3⟩:=e9;rw [List.nodup_cons] at n2;rcases List.mem_append.mp hp with h | h
  ·exact n3 p.1 (List.mem_map_of_mem h) x (by simp) q
  ·exact n2.1 (List.mem_map.mpr ⟨p,h,q⟩)
 have bnd:∀{y w},Bnd Γ s.heap env m y w→Bnd Γ' s.heap env m y w:=by
  intro y w b;rcases b with b | ⟨k',ca,h1,h2,h3,h4,h5⟩
  ·exact .inl b
  ·exact .inr ⟨k',ca,h1,h2,h3,h4,lo ca (q.notCell h4) h5⟩
 refine ⟨Γ',⟨P.st₀,P.same,S',P.fr.mono fun b hb l=>lo b (q.notLocals hb) l,⟨e1,e2,e3,m,e4,lo _ (q.notLocals P.inf) e5,fun y t' hy=>?_,f,fun p hp=>?_,fun p hp q hq=>e8 p (sub p hp) q (sub q hq),?_,fun p hp=>e10 p (sub p hp)⟩,
  st _ _ _ _ (e10 _ hx) P.step,P.inf,P.top,P.frame,P.sub,P.new,P.fresh,fun y ca e=>?_,P.apart,P.kinds,P.nofree⟩,le⟩
 ·dsimp only [upd] at hy
  by_cases h:y=x
  ·subst h;rw [if_pos rfl] at hy;cases hy;exact ⟨v,bnd b,r'⟩
  ·rw [if_neg h] at hy;obtain ⟨w,q1,q2⟩:=e6 y t' hy;exact ⟨w,bnd q1,Rep.mono le _ _ q2⟩
 ·obtain ⟨w,q1,q2⟩:=e7 p (sub p hp);exact ⟨w,bnd q1,q2.mono le fun b hb l=>lo b (e8 p (sub p hp) _ hx (nx p hp) b hb) l⟩
 ·refine List.Sublist.nodup ?_ e9;dsimp only;rw [List.map_append,List.map_append,List.map_cons];exact List.Sublist.append_left (List.sublist_cons_self _ _) _
 ·obtain ⟨c1,c2,w,c3⟩:=P.cells y ca e;exact ⟨c1,lo ca (q.notCell c3) c2,w,c3⟩
theorem SPre.settleGo {e:Expr}:∀{o pre:List (Str×T×Kd)} {loc:Str→Option T} {Γ:Gh},SPre c A₀ A env { L with loc:=loc,own:=pre++o } Γ₀ σ₀ s₀ Γ σ s→
  ∃Γ',SPre c A₀ A env { L with loc:=(settleGo e o loc).1,own:=pre++(settleGo e o loc).2 } Γ₀ σ₀ s₀ Γ' σ s∧Γ.Le Γ'
 |[],pre,loc,Γ,P=>⟨Γ,P,.refl Γ⟩
 |(x,t,k)::r,pre,loc,Γ,P=>by
  have P':SPre c A₀ A env { L with loc:=loc,own:=(pre++[(x,t,k)])++r } Γ₀ σ₀ s₀ Γ σ s:=by rw [List.append_assoc];exact P
  obtain ⟨Γ₁,P₁,le⟩:=SPre.settleGo (e:=e) P';rw [List.append_assoc] at P₁;unfold Mine.settleGo;dsimp only;split
  ·obtain ⟨Γ₂,P₂,le'⟩:=SPre.freeze P₁;exact ⟨Γ₂,P₂,le.trans le'⟩
  ·exact ⟨Γ₁,P₁,le⟩
theorem SPre.settle (e:Expr)(P:SPre c A₀ A env L Γ₀ σ₀ s₀ Γ σ s):∃Γ',SPre c A₀ A env (settle e L) Γ₀ σ₀ s₀ Γ' σ s∧Γ.Le Γ':=by
 unfold Mine.settle;split
 ·exact ⟨Γ,P,.refl Γ⟩
 ·rename_i o _;have P':SPre c A₀ A env { L with loc:=L.loc,own:=[]++L.own } Γ₀ σ₀ s₀ Γ σ s:=P;exact SPre.settleGo P'
end
section
variable {c:Cx}{A₀ A:Around}{Γ₀ Γ Γ₁:Gh}{σ₀ σ σ₁:Sg}{h₀ h h' h₁:Heap}{a:Addr}
theorem FrOk.turn (F:FrOk A Γ h)(n:a∉frs A)(sb:Heap.SameBut a h h'):FrOk A Γ h':=by
 obtain ⟨⟨l,hl,hF⟩,hh⟩:=F;refine ⟨⟨l,hl,fun e he=>?_⟩,hh⟩;obtain ⟨h1,F,o,h2,h3,h4,h5⟩:=hF e he;refine ⟨h1,F,o,h2,(sb.2 F fun q=>n ?_).trans h3,h4,h5⟩;subst q;unfold frs;rw [hl];exact List.mem_filterMap.mpr ⟨e,he,h2⟩
theorem Zl7 {S:List Addr}(St₀:St c Γ σ h)(F:FrOk A Γ h)(hS:∀b∈S,b∈frs A)(x:Step (frs A₀) Γ₀ σ₀ h₀ Γ σ h)(new:∀b∈frs A,b∈frs A₀∨h₀.get? b=none)
  (sl:Heap.SlotsOnly S h h'):St c Γ σ h'∧Step (frs A₀) Γ₀ σ₀ h₀ Γ σ h'∧FrOk A Γ h':=by
 have lo:∀{b},b∈S→Loose Γ b:=fun hb=>by obtain ⟨_,_,_,l⟩:=F.alive (hS _ hb);exact l
 have kp:∀{b},b∉S→h'.get? b=h.get? b:=fun hb=>sl.2.1 _ hb
 have kobj:∀{b o},Γ.obj b=some o→b∉S:=fun e q=>by rw [(lo q).1] at e;cases e
 have kidc:∀{b o},Γ.idc b=some o→b∉S:=fun e q=>by rw [(lo q).2.1] at e;cases e
 have kmov:∀{b},Γ.moves b→b∉S:=fun e q=>(lo q).2.2 e
 have id':∀{d y},d∉S→IDict c h d y→IDict c h' d y:=by
  rintro d y hd ⟨sh,t1,t2,t3,t4,t5,m,e⟩
  exact ⟨sh,t1,t2,t3,t4,t5,m,(kp hd).trans e⟩
 refine ⟨⟨St₀.base,fun b o e=>(kp (kobj e)).trans (St₀.obj b o e),fun d y e=>id' (kidc e) (St₀.idc d y e),fun b e=>?_,St₀.apart2,?_,?_,?_⟩,?_,?_⟩
 ·obtain ⟨q1,q2,o,q3⟩:=St₀.apart b e;exact ⟨q1,q2,o,(kp (kmov e)).trans q3⟩
 ·have q:=St₀.row
  cases hr:σ.row with
  |none=>rw [hr] at q;exact q
  |some ns=>
   rw [hr] at q;obtain ⟨r,vs,m,a1,a2,a3,a5⟩:=q;exact ⟨r,vs,m,a1,a2,(kp (kmov a2)).trans a3,a5⟩
 ·have q:=St₀.self
  cases hs:σ.self with
  |none=>rw [hs] at q;exact q
  |some v=>
   rw [hs] at q;obtain ⟨a',d,ik,ii,ia,t,b1,b2,b3,b4,b5,b6,b7⟩:=q;refine ⟨a',d,ik,ii,ia,t,b1,b2,b3,id' (kmov b3) b4,b5,b6,?_⟩
   cases ha:v.attrs with
   |none=>rw [ha] at b7;exact b7
   |some es=>
    rw [ha] at b7;obtain ⟨D,ds,m,c1,c2,c3,c4,c5,c6⟩:=b7;exact ⟨D,ds,m,c1,c2,c3,c4,(kp (kmov c3)).trans c5,c6⟩
 ·obtain ⟨m1,ps,m2,m3⟩:=St₀.tab;exact ⟨m1,ps,(kp (kmov m1.1)).trans m2,m3⟩
 ·refine ⟨x.le,fun b o e=>?_,fun b o e hm hi hf=>?_,fun b o hb e lb=>?_,x.old,x.rowNew,fun v v' e e' q=>?_,x.mono⟩
  ·obtain ⟨o',e'⟩:=x.alive b o e;obtain ⟨s',e''⟩:=sl.2.2 b o' e';exact ⟨_,e''⟩
  ·rw [kp fun q=>?_]
   ·exact x.keep b o e hm hi hf
   ·rcases new b (hS b q) with q | q
    ·exact hf q
    ·rw [q] at e;cases e
  ·obtain ⟨s',e'⟩:=x.frames b o hb e lb;obtain ⟨s'',e''⟩:=sl.2.2 b _ e';exact ⟨s'',e''⟩
  ·obtain ⟨q1,q2⟩:=x.still v v' e e' q;refine ⟨q1,fun b hm hr ht=>?_⟩;rw [←q2 b hm hr ht];exact kp (kmov (x.le.moves b hm))
 ·obtain ⟨⟨l,hl,hF⟩,hh⟩:=F;refine ⟨⟨l,hl,fun e he=>?_⟩,hh⟩;obtain ⟨h1,F,o,h2,h3,h4,h5⟩:=hF e he;obtain ⟨s',e'⟩:=sl.2.2 F o h3;exact ⟨h1,F,_,h2,e',h4,h5⟩
structure XB (c:Cx) (A₀ A:Around) (Γ₀:Gh) (σ₀:Sg) (h₀:Heap) (Γ:Gh) (σ:Sg) (h:Heap):Prop where
 st₀:St c Γ₀ σ₀ h₀
 st:St c Γ σ h
 step:Step (frs A₀) Γ₀ σ₀ h₀ Γ σ h
 fr:FrOk A Γ h
 sub:∀b∈frs A₀,b∈frs A
 new:∀b∈frs A,b∈frs A₀∨h₀.get? b=none
theorem XB.turn (X:XB c A₀ A Γ₀ σ₀ h₀ Γ σ h)(l:Loose Γ a)(n:h₀.get? a=none)(na:a∉frs A)(sb:Heap.SameBut a h h'):XB c A₀ A Γ₀ σ₀ h₀ Γ σ h':=by
 obtain ⟨S',x'⟩:=Zar X.st X.step n l sb;exact ⟨X.st₀,S',x',X.fr.turn na sb,X.sub,X.new⟩
theorem XB.grow (X:XB c A₀ A Γ₀ σ₀ h₀ Γ σ h)(k:∀b o,h.get? b=some o→h'.get? b=some o):XB c A₀ A Γ₀ σ₀ h₀ Γ σ h':=by
 have x:Step (frs A) Γ σ h Γ σ h':=Step.keeps k X.st;exact ⟨X.st₀,X.st.keeps k,Step.trans X.st₀ X.step (Step.keeps k X.st),X.fr.step x,X.sub,X.new⟩
theorem XB.slots {S:List Addr}(X:XB c A₀ A Γ₀ σ₀ h₀ Γ σ h)(hS:∀b∈S,b∈frs A)(sl:Heap.SlotsOnly S h h'):XB c A₀ A Γ₀ σ₀ h₀ Γ σ h':=by
 obtain ⟨a1,a2,a3⟩:=Zl7 X.st X.fr hS X.step X.new sl;exact ⟨X.st₀,a1,a2,a3,X.sub,X.new⟩
def ExT (c:Cx)(A:Around)(pre:Heap)(G:Gh)(h:Heap)(e:Addr)(m:Str)(fl:Option Value):Prop:=
 ∃oe de vs t t' n,h.get? e=some oe∧oe.cls=.ref c.exc∧oe.dict=some de∧oe.data=.fields vs∧G.obj de=some (Zn [⟨c.H "message",.str "message" t,.str m t'⟩] n)∧Loose G e∧e∉frs A∧pre.get? e=none∧
  match fl with
  |none=>vs[1]?=some .none
  |some x=>∃T oT ts,vs[1]?=some (.ref T)∧T≠e∧h.get? T=some oT∧oT.data=.fields ts∧ts[3]?=some x∧Loose G T∧T∉frs A∧pre.get? T=none
theorem ExT.at {pre:Heap}{e:Addr}{m:Str}{fl:Option Value}(x:ExT c A pre Γ h e m fl):ExAt c (frs A) pre Γ h e m:=by
 obtain ⟨oe,de,vs,t,t',n,a1,a2,a3,a4,a5,a6,a7,a8,a9⟩:=x;refine ⟨oe,de,vs,t,t',n,a1,a2,a3,a4,a5,a6,a7,a8,?_⟩
 cases fl with
 |none=>exact .inl a9
 |some x=>
  obtain ⟨T,oT,ts,b⟩:=a9;exact .inr ⟨T,oT,ts,x,b⟩
theorem ExAt.t {pre:Heap}{e:Addr}{m:Str}(x:ExAt c (frs A) pre Γ h e m):∃fl,ExT c A pre Γ h e m fl:=by
 obtain ⟨oe,de,vs,t,t',n,a1,a2,a3,a4,a5,a6,a7,a8,a9⟩:=x;rcases a9 with a9 | ⟨T,oT,ts,x,b⟩
 ·exact ⟨none,oe,de,vs,t,t',n,a1,a2,a3,a4,a5,a6,a7,a8,a9⟩
 ·exact ⟨some x,oe,de,vs,t,t',n,a1,a2,a3,a4,a5,a6,a7,a8,T,oT,ts,b⟩
end
section
variable {prog:Program}{c:Cx}{A₀ A:Around}{Γ₀ Γ:Gh}{σ₀ σ:Sg}{h₀:Heap}{s:Shared}{e:Addr}{m:Str}{fl:Option Value}{env:PySem.Env}{outer:List PySem.Env}{E:Value→Shared→Prop}
theorem Zr8 {h:Heap}(F:FrOk A Γ h)(base:Heap)(hb:∀b∈frs A,base.get? b=none){l:List PySem.Env}(hl:A.frames=some l):h.FunFrames base l:=by
 obtain ⟨⟨l',hl',hF⟩,_⟩:=F;rw [hl] at hl';cases hl';have hb':∀e∈l,∀F,e.frame=some F→base.get? F=none:=fun e he F hf=>hb F (by unfold frs;rw [hl];exact List.mem_filterMap.mpr ⟨e,he,hf⟩)
 clear hl hb
 induction l with
 |nil=>trivial
 |cons e r ih=>
  obtain ⟨h1,F,o,h2,h3,h4,h5⟩:=hF e (by simp);exact ⟨h1,⟨F,o,h2,hb' e (by simp) F h2,h3,h4⟩,ih (fun x hx=>hF x (by simp [hx])) (fun x hx=>hb' x (by simp [hx]))⟩
theorem Zds {A':Around}{f:Option Addr}{x:Value}{Q:Unit→Shared→Prop}(X:XB c A₀ A Γ₀ σ₀ h₀ Γ σ s.heap)(T:ExT c A h₀ Γ s.heap e m (some x))
  (h:∀h',XB c A₀ A Γ₀ σ₀ h₀ Γ σ h'→ExT c A h₀ Γ h' e m (some (f.elim Value.none fun f=>rawInt f))→Q () { s with heap:=h' }):wpAny (model prog c.w) A' (setFlight (.ref e) f) Q E s:=by
 obtain ⟨oe,de,vs,t,t',n,a1,a2,a3,a4,a5,a6,a7,a8,T,oT,ts,b1,b2,b3,b4,b5,b6,b7,b8⟩:=T;unfold setFlight;refine wpAny_bind (wpAny_field a1 a4 b1 ?_);rw [if_pos (show (Value.ref T != Value.none)=true from by simp)];have h3:3 < ts.size:=(Array.getElem?_eq_some_iff.mp b5).1;refine wpAny_setField b3 b4 h3 (h _ (X.turn b6 b8 b7 (.update ..)) ?_);exact ⟨oe,de,vs,t,t',n,(Heap.get?_update_other _ _ b2).trans a1,a2,a3,a4,a5,a6,a7,a8,T,_,_,b1,b2,Heap.get?_update_self _ b3 (Obj.isFreed_of_fields (Obj.data_mapFields b4 _)),Obj.data_mapFields b4 _,by simp [h3],b6,b7,b8⟩
theorem Zis {L:Addr}{head:Value}{hadNext:Bool}{Q:Unit→Shared→Prop}(X:XB c A₀ A Γ₀ σ₀ h₀ Γ σ s.heap)(T:ExT c A h₀ Γ s.heap e m fl)(hfr:A.frames=some (env::outer))(hf:env.frame=some L)
  (h:∀h',XB c A₀ A Γ₀ σ₀ h₀ Γ σ h'→ExT c A h₀ Γ h' e m (some (rawInt L))→Q () { s with heap:=h' }):
  wpAny (model prog c.w) A (do let a ←frameOf env;let pl ←entryPlaceOf L hadNext;let b ←EntryCells.newEntry head a .none (rawInt L) .none pl;setField (.ref e) 1 b) Q E s:=by
 have hF:=Zr8 X.fr ({ objs:=#[] }:Heap) (fun b _=>by simp [Heap.get?]) hfr;refine wpAny_bind (wpAny_frameOf_fun hfr hF hf fun h₁ hs₁=>?_);have hS:∀b∈(env::outer).filterMap (·.frame),b∈frs A:=fun b hb=>by unfold frs;rw [hfr];exact hb
 have X₁:=X.slots hS hs₁;refine wpAny_bind (wpAny_entryPlaceOf fun pl hpl=>?_);unfold EntryCells.newEntry newFields;refine wpAny_bind (wpAny_newObj_type ?_ (hpl.sizeOk5 _ _ _ _ _));have X₂:=X₁.grow (h':=h₁.push { cls:=.type "traceback",dict:=none,data:=.fields ([head,.ref L,.none,rawInt L,.none]++(if pl.isEmpty then List.replicate 6 Value.none else pl)).toArray }) (fun b o e=>Heap.get?_push_of_some _ e);have hnew:h₀.get? h₁.objs.size=none:=by
  cases q:h₀.get? h₁.objs.size with
  |none=>rfl
  |some o=>
   obtain ⟨o',q'⟩:=X₁.step.alive _ _ q;exact absurd (Heap.lt_size q') (Nat.lt_irrefl _)
 have hnT:h₁.get? h₁.objs.size=none:=Qp _;have lT:Loose Γ h₁.objs.size:=X₁.st.loose hnT;have fT:h₁.objs.size∉frs A:=fun q=>by obtain ⟨o,q',_⟩:=X₁.fr.alive q;rw [hnT] at q';cases q'
 obtain ⟨oe,de,vs,t,t',n,a1,a2,a3,a4,a5,a6,a7,a8,a9⟩:=T;have he₁:h₁.get? e=some oe:=(hs₁.2.1 e fun q=>a7 (hS e q)).trans a1;have he₂:=Heap.get?_push_of_some (h:=h₁) { cls:=.type "traceback",dict:=none,data:=.fields ([head,.ref L,.none,rawInt L,.none]++(if pl.isEmpty then List.replicate 6 Value.none else pl)).toArray } he₁;have hsz:1 < vs.size:=by
  cases fl with
  |none=>exact (Array.getElem?_eq_some_iff.mp a9).1
  |some x=>obtain ⟨_,_,_,b1,_⟩:=a9;exact (Array.getElem?_eq_some_iff.mp b1).1
 have hTe:h₁.objs.size≠e:=Nat.ne_of_gt (Heap.lt_size he₁);refine wpAny_setField he₂ a4 hsz (h _ (X₂.turn a6 a8 a7 (.update ..)) ?_)
 refine ⟨_,de,_,t,t',n,Heap.get?_update_self _ he₂ (Obj.isFreed_of_fields (Obj.data_mapFields a4 _)),(Obj.cls_mapFields _ _).trans a2,?_,Obj.data_mapFields a4 _,a5,a6,a7,a8,
  h₁.objs.size,_,_,by simp [hsz],hTe,(Heap.get?_update_other _ _ (Ne.symm hTe)).trans (Heap.get?_push_size h₁ rfl),rfl,?_,lT,fT,hnew⟩
 ·have:(Obj.mapFields (·.setIfInBounds 1 (Value.ref h₁.objs.size)) oe).dict=oe.dict:=by unfold Obj.mapFields;split<;>rfl
  rw [this];exact a3
 ·first | (simp;done) | (rcases hpl with rfl | ⟨_,_,_,_,_,_,_,rfl⟩<;>simp)
theorem Zfp {L:Addr}{Q:Unit→Shared→Prop}(X:XB c A₀ A Γ₀ σ₀ h₀ Γ σ s.heap)(T:ExT c A h₀ Γ s.heap e m fl)(hfr:A.frames=some (env::outer))(hf:env.frame=some L)
  (h:∀h',XB c A₀ A Γ₀ σ₀ h₀ Γ σ h'→ExT c A h₀ Γ h' e m (some (rawInt L))→Q () { s with heap:=h' }):wpAny (model prog c.w) A (noteFrame (.ref e) env) Q E s:=by
 have T':=T;obtain ⟨oe,de,vs,t,t',n,a1,a2,a3,a4,a5,a6,a7,a8,a9⟩:=T;unfold noteFrame;simp only [hf]
 cases fl with
 |none=>
  refine wpAny_bind (wpAny_field a1 a4 a9 ?_);rw [if_neg (by decide)];exact Zis X T' hfr hf h
 |some x=>
  obtain ⟨T,oT,ts,b1,b2,b3,b4,b5,b6,b7,b8⟩:=a9;refine wpAny_bind (wpAny_field a1 a4 b1 ?_);rw [if_pos (show (Value.ref T != Value.none)=true from by simp)];refine wpAny_bind (wpAny_field b3 b4 b5 ?_)
  by_cases hx:(x == rawInt L)=true
  ·rw [if_pos hx];refine wpAny_pure (h s.heap X ?_);have hx:x=rawInt L:=by simpa using hx
   rw [←hx];exact T'
  ·rw [if_neg hx];have h3:3 < ts.size:=(Array.getElem?_eq_some_iff.mp b5).1;refine wpAny_bind (wpAny_setField b3 b4 h3 ?_);refine Zis (s:={ s with heap:=_ }) (fl:=some .none) (X.turn b6 b8 b7 (.update ..)) ?_ hfr hf h;exact ⟨oe,de,vs,t,t',n,(Heap.get?_update_other _ _ b2).trans a1,a2,a3,a4,a5,a6,a7,a8,T,_,_,b1,b2,Heap.get?_update_self _ b3 (Obj.isFreed_of_fields (Obj.data_mapFields b4 _)),Obj.data_mapFields b4 _,by simp [h3],b6,b7,b8⟩
theorem Zje {L:Addr}{Q:Unit→Shared→Prop}(X:XB c A₀ A Γ₀ σ₀ h₀ Γ σ s.heap)(T:ExT c A h₀ Γ s.heap e m fl)(hfr:A.frames=some (env::outer))(hf:env.frame=some L)
  (h:∀h',XB c A₀ A Γ₀ σ₀ h₀ Γ σ h'→ExT c A h₀ Γ h' e m (some .none)→Q () { s with heap:=h' }):wpAny (model prog c.w) A (leaving env (.ref e)) Q E s:=by
 unfold leaving;exact wpAny_bind (Zfp X T hfr hf fun h' X' T'=>Zds (s:={ s with heap:=h' }) X' T' h)
theorem Zt4 {x:Value}{Q:Unit→Shared→Prop}{f:Option Addr}{msg:String}(X:XB c A₀ A Γ₀ σ₀ h₀ Γ σ s.heap)(T:ExT c A h₀ Γ s.heap e m (some x))
  (h:∀h' y,XB c A₀ A Γ₀ σ₀ h₀ Γ σ h'→ExT c A h₀ Γ h' e m (some y)→Q () { s with heap:=h' }):wpAny (model prog c.w) A (do
  if (←field (.ref e) 1) == .none then unsupported msg
  setFlight (.ref e) f) Q E s:=by
 have T':=T;obtain ⟨oe,de,vs,t,t',n,a1,a2,a3,a4,a5,a6,a7,a8,T,oT,ts,b1,_⟩:=T;refine wpAny_bind (wpAny_field a1 a4 b1 ?_);rw [if_neg (show ¬((Value.ref T == Value.none)=true) from by simp)];exact Zds X T' fun h' X' T''=>h h' _ X' T''
end
section
variable {prog:Program}{c:Cx}{A₀ A:Around}{env:PySem.Env}{L:Ev}{Γ₀ Γ:Gh}{σ₀ σ:Sg}{s₀ s:Shared}{α:Type}{res:Res α}
theorem SPre.xb {Γ₁:Gh}{σ₁:Sg}{h:Heap}(P:SPre c A₀ A env L Γ₀ σ₀ s₀ Γ σ s)(S:St c Γ₁ σ₁ h)(x:Step (frs A₀) Γ₀ σ₀ s₀.heap Γ₁ σ₁ h)(F:FrOk A Γ₁ h):XB c A₀ A Γ₀ σ₀ s₀.heap Γ₁ σ₁ h:=
 ⟨P.st₀,S,x,F,P.sub,P.new⟩
theorem Same.heap {s s':Shared}(x:Same s s')(h:Heap):Same s { s' with heap:=h }:=x.trans ⟨h,s'.toks,rfl⟩
theorem SE.passes (P:SPre c A₀ A env L Γ₀ σ₀ s₀ Γ σ s):PassesOwn (model prog c.w) A env (SE c A₀ A Γ₀ σ₀ s₀ res):=by
 intro e s' q;obtain ⟨m,σ',Γ',ea,h1,rfl,sm,S,x,F,ex⟩:=q;obtain ⟨outer,ho⟩:=P.top;obtain ⟨fl,ex⟩:=ex.t;refine Zfp (P.xb S x F) ex ho P.frame fun h' X' T'=>?_
 refine Zt4 (s:={ s' with heap:=h' }) X' T' fun h'' y X'' T''=>?_
 exact ⟨m,σ',Γ',ea,h1,rfl,sm.trans ⟨h'',s'.toks,rfl⟩,X''.st,X''.step,X''.fr,T''.at⟩
theorem SE.leaves (P:SPre c A₀ A env L Γ₀ σ₀ s₀ Γ σ s){e:Value}{s':Shared}(q:SE c A₀ A Γ₀ σ₀ s₀ res e s'){E:Value→Shared→Prop}:
  wpAny (model prog c.w) A (leaving env e) (fun _ s''=>EOf c A₀ Γ₀ σ₀ s₀ res e s'') E s':=by
 obtain ⟨m,σ',Γ',ea,h1,rfl,sm,S,x,F,ex⟩:=q;obtain ⟨outer,ho⟩:=P.top;obtain ⟨fl,ex⟩:=ex.t;refine Zje (P.xb S x F) ex ho P.frame fun h' X' T'=>?_
 refine ⟨m,σ',h1,Γ',ea,rfl,sm.trans ⟨h',s'.toks,rfl⟩,X'.st,X'.step,?_⟩;obtain ⟨oe,de,vs,t,t',n,a1,a2,a3,a4,a5,a6,a7,a8,T,oT,ts,b1,b2,b3,b4,b5,b6,b7,b8⟩:=T';exact ⟨oe,de,vs,t,t',n,a1,a2,a3,a4,a5,a6,fun q=>a7 (P.sub _ q),a8,.inr ⟨T,oT,ts,_,b1,b2,b3,b4,b5,b6,fun q=>b7 (P.sub _ q),b8⟩⟩
end
def Src (Γ:Gh)(σ:Sg)(k:Kd)(b:Addr)(o:Obj)(h:Heap):Prop:=
 Γ.obj b=some o∨(k=.h∧Γ.moves b∧Γ.row≠some b∧b≠Γ.tab∧(∃v,σ.self=some v)∧h.get? b=some o)
section
variable {prog:Program}{c:Cx}{A:Around}{I:Inv (frs A)}{Γ Γ₁:Gh}{σ σ₁:Sg}{s:Shared}{h h₁ h':Heap}{k:Kd}{b it a:Addr}{o:Obj}{fr:List Addr}{E:Value→Shared→Prop}
theorem Src.get (S:St c Γ σ h)(x:Src Γ σ k b o h):h.get? b=some o:=by
 rcases x with x | ⟨_,_,_,_,_,x⟩
 ·exact S.obj _ _ x
 ·exact x
theorem Src.step (S:St c Γ σ h)(x:Src Γ σ k b o h)(y:Step fr Γ σ h Γ₁ σ₁ h₁)(ep:k=.h→σ₁.self.map (·.ep)=σ.self.map (·.ep)):Src Γ₁ σ₁ k b o h₁:=by
 rcases x with x | ⟨x1,x2,x3,x4,⟨v,x5⟩,x6⟩
 ·exact .inl (y.le.obj _ _ x)
 ·obtain ⟨v',e1,_⟩:=y.mono v x5;have ep:=ep x1;rw [x5,e1] at ep;obtain ⟨_,q2⟩:=y.still v v' x5 e1 (Option.some.inj ep);refine .inr ⟨x1,y.le.moves _ x2,fun q=>?_,fun q=>x4 (q.trans y.le.tab),⟨v',e1⟩,(q2 b x2 x3 x4).trans x6⟩;rcases y.rowNew _ q with q | q
  ·exact x3 q
  ·rw [x6] at q;cases q
theorem Src.ne (x:Src Γ σ k b o h)(l:Loose Γ a):b≠a:=by
 rintro rfl
 rcases x with x | ⟨_,x,_⟩
 ·rw [l.1] at x;cases x
 ·exact l.2.2 x
theorem Src.turn (x:Src Γ σ k b o h)(l:Loose Γ a)(kp:∀b o,b≠a→h.get? b=some o→h'.get? b=some o):Src Γ σ k b o h':=by
 have ne:=x.ne l;rcases x with x | ⟨x1,x2,x3,x4,x5,x6⟩
 ·exact .inl x
 ·exact .inr ⟨x1,x2,x3,x4,x5,kp _ _ ne x6⟩
def ItAt (prog:Program)(c:Cx)(A:Around)(k:Kd)(it:Addr)(rest:List T)(Γ:Gh)(σ:Sg)(h:Heap):Prop:=
 ∃fp n P S i,Walks prog c.w A it fp [it] n P S∧S i h∧n=i+rest.length∧(∀b∈fp,b=it∨∃o,Src Γ σ k b o h)∧(∀j v,j < rest.length→P (i+j) v→∃t,rest[j]?=some t∧Rep c Γ t v)∧∀j h',S j h'→∃o,h'.get? it=some o
theorem ItAt.step {rest:List T}(S:St c Γ σ h)(S₁:St c Γ₁ σ₁ h₁)(x:ItAt prog c A k it rest Γ σ h)(y:Step (frs A) Γ σ h Γ₁ σ₁ h₁)(ep:k=.h→σ₁.self.map (·.ep)=σ.self.map (·.ep))(l:Loose Γ it)(nf:it∉frs A):ItAt prog c A k it rest Γ₁ σ₁ h₁:=by
 obtain ⟨fp,n,P,Q,i,W,q,hn,hf,hv,ha⟩:=x;refine ⟨fp,n,P,Q,i,W,W.frame _ _ _ q fun b hb o e=>?_,hn,fun b hb=>?_,fun j v hj hp=>?_,ha⟩
 ·rcases hf b hb with rfl | ⟨o',r⟩
  ·exact y.keep _ _ e l.2.2 l.2.1 nf
  ·have e':=r.get S;rw [e] at e';cases e';exact (r.step S y ep).get S₁
 ·rcases hf b hb with rfl | ⟨o',r⟩
  ·exact .inl rfl
  ·exact .inr ⟨o',r.step S y ep⟩
 ·obtain ⟨t,h1,h2⟩:=hv j v hj hp;exact ⟨t,h1,Rep.mono y.le _ _ h2⟩
theorem ItAt.turn {rest:List T}(S:St c Γ σ h)(x:ItAt prog c A k it rest Γ σ h)(l:Loose Γ a)(ne:it≠a)(kp:∀b o,b≠a→h.get? b=some o→h'.get? b=some o):ItAt prog c A k it rest Γ σ h':=by
 obtain ⟨fp,n,P,Q,i,W,q,hn,hf,hv,ha⟩:=x;refine ⟨fp,n,P,Q,i,W,W.frame _ _ _ q fun b hb o e=>?_,hn,fun b hb=>?_,hv,ha⟩
 ·rcases hf b hb with rfl | ⟨o',r⟩
  ·exact kp _ _ ne e
  ·exact kp _ _ (r.ne l) e
 ·rcases hf b hb with rfl | ⟨o',r⟩
  ·exact .inl rfl
  ·exact .inr ⟨o',r.turn l kp⟩
theorem ItAt.mono {rest:List T}(x:ItAt prog c A k it rest Γ σ h)(le:Γ.Le Γ₁)(mv:∀b,Γ.row≠some b→Γ.moves b→Γ₁.row≠some b):ItAt prog c A k it rest Γ₁ σ h:=by
 obtain ⟨fp,n,P,Q,i,W,q,hn,hf,hv,ha⟩:=x;refine ⟨fp,n,P,Q,i,W,q,hn,fun b hb=>?_,fun j v hj hp=>?_,ha⟩
 ·rcases hf b hb with rfl | ⟨o',r⟩
  ·exact .inl rfl
  ·rcases r with r | ⟨r1,r2,r3,r4,r5,r6⟩
   ·exact .inr ⟨o',.inl (le.obj _ _ r)⟩
   ·exact .inr ⟨o',.inr ⟨r1,le.moves _ r2,mv _ r3 r2,fun q=>r4 (q.trans le.tab),r5,r6⟩⟩
 ·obtain ⟨t,h1,h2⟩:=hv j v hj hp;exact ⟨t,h1,Rep.mono le _ _ h2⟩
theorem ItAt.item {t:T}{r:List T}{Q:Option Value→Shared→Prop}(x:ItAt prog c A k it (t::r) Γ σ s.heap)(l:Loose Γ it)
  (q:∀v h' tk,Rep c Γ t v→ItAt prog c A k it r Γ σ h'→(∀b o,b≠it→s.heap.get? b=some o→h'.get? b=some o)→Q (some v) { s with heap:=h',toks:=tk }):wpAny (model prog c.w) A (pyNext (.ref it)) Q E s:=by
 obtain ⟨fp,n,P,S,i,W,q',hn,hf,hv,ha⟩:=x;have hl:(t::r).length=r.length+1:=rfl;refine W.item i s Q E (by omega) q' fun v h' tk hp st kp=>?_
 obtain ⟨t',h1,h2⟩:=hv 0 v (by omega) hp;cases h1;have kp':∀b o,b≠it→s.heap.get? b=some o→h'.get? b=some o:=fun b o hb e=>kp b o (by simpa using hb) e
 refine q v h' tk h2 ⟨fp,n,P,S,i+1,W,st,by omega,fun b hb=>?_,fun j v hj hp=>?_,ha⟩ kp'
 ·rcases hf b hb with rfl | ⟨o',r⟩
  ·exact .inl rfl
  ·exact .inr ⟨o',r.turn l kp'⟩
 ·obtain ⟨t,h1,h2⟩:=hv (j+1) v (by omega) (by rw [show i+(j+1)=i+1+j from by omega];exact hp);exact ⟨t,by simpa using h1,h2⟩
theorem ItAt.done {Q:Option Value→Shared→Prop}(x:ItAt prog c A k it [] Γ σ s.heap)
  (q:∀h' tk,(∀b o,b≠it→s.heap.get? b=some o→h'.get? b=some o)→Q none { s with heap:=h',toks:=tk }):wpAny (model prog c.w) A (pyNext (.ref it)) Q E s:=by
 obtain ⟨fp,n,P,S,i,W,q',hn,hf,hv,ha⟩:=x;have:n=i:=by simpa using hn
 subst this;exact W.done s Q E q' fun h' tk kp=>q h' tk fun b o hb e=>kp b o (by simpa using hb) e
theorem ItAt.self {rest:List T}{Q:Value→Shared→Prop}(x:ItAt prog c A k it rest Γ σ s.heap)(q:Q (.ref it) s):wpAny (model prog c.w) A (pyIter (.ref it)) Q E s:=by
 obtain ⟨fp,n,P,S,i,W,q',_⟩:=x;exact W.self i s Q E q' q
theorem Zn8 {x y:Int}{j:Nat}(h:j < (y - x).toNat):((Qa x y).map T.int)[j]?=some (.int (x+j)):=by
 unfold Qa;rw [List.getElem?_map,List.getElem?_map,List.getElem?_range h];rfl
theorem Zf5 {t:T}{l:List T}{v:Value}{pre:Heap}{Q:Value→Shared→Prop}(P:Pre c A I Γ σ s)(r:RF c pre Γ σ s.heap (t,k) v)(hl:Za1 t=some l)
  (q:∀o,ItAt prog c A k s.heap.objs.size l Γ σ (s.heap.push o)→Q (.ref s.heap.objs.size) { s with heap:=s.heap.push o }):wpAny (model prog c.w) A (pyIter v) Q E s:=by
 have S:=P.st;have hh:=P.fr.handled;have pk:∀{o:Obj} {b:Addr} {o':Obj},s.heap.get? b=some o'→(s.heap.push o).get? b=some o':=fun e=>Heap.get?_push_of_some _ e
 have dictCase:∀es,t=.dict es→∀d ds n,v=.ref d→(d == sysModules)=false→s.heap.get? d=some (Zn ds n)→(es.map (·.1)).Nodup→RepD c Γ es ds→Src Γ σ k d (Zn ds n) s.heap→wpAny (model prog c.w) A (pyIter v) Q E s:=by
  rintro es rfl d ds n rfl nm e nd rd src
  cases hl;have X:=Zao (prog:=prog) e rd nd;have hkl:(Qo es ds).length=es.length:=by rw [←List.length_map (f:=Prod.fst),Jn rd,List.length_map]
  have hne:d≠s.heap.objs.size:=Nat.ne_of_lt (Heap.lt_size e);have X:s.heap.DictAt (strKind prog c.w) d (Qo es ds) n:=⟨_,ds.toArray,e,⟨rfl,rfl,rfl⟩,rfl,by obtain ⟨o,en,ep,h1,h2,h3,h4,h5,h6⟩:=X;rw [e] at h1;cases h1;cases h3;exact h4,by simpa using Zf2 rd,by rw [Jn rd];exact nd⟩;refine wpAny_pyIter_dict nm X (q _ ⟨_,_,_,_,0,Walks.dictKeys (knd:=strKind prog c.w) hh s.heap.objs.size d hne (Qo es ds) n,⟨⟨_,Heap.get?_push_size _ rfl,rfl,rfl⟩,X.push _⟩,by rw [List.length_map];omega,fun b hb=>?_,?_,fun j h' q=>by obtain ⟨⟨o,q,_⟩,_⟩:=q;exact ⟨o,q⟩⟩)
  ·simp only [List.mem_cons,List.mem_nil_iff,or_false] at hb;rcases hb with rfl | rfl
   ·exact .inl rfl
   ·refine .inr ⟨Zn ds n,?_⟩;rcases src with z | ⟨z1,z2,z3,z4,z5,z6⟩
    ·exact .inl z
    ·exact .inr ⟨z1,z2,z3,z4,z5,pk z6⟩
  ·rintro j v hj ⟨key,x,hx,hk⟩
   rw [Nat.zero_add] at hx;obtain ⟨tk,rfl⟩:=Value.isStrOf_shape hk;rw [List.length_map] at hj;have e1:((Qo es ds).map (·.1))[j]?=some key:=by rw [List.getElem?_map,hx];rfl
   rw [Jn rd,List.getElem?_map] at e1;refine ⟨.str key,?_,Rep.str⟩;rw [List.getElem?_map]
   cases hq:es[j]? with
   |none=>rw [hq] at e1;cases e1
   |some p=>rw [hq] at e1;cases e1;rfl
 rcases r with ⟨hk,r⟩ | ⟨hk,r⟩
 ·obtain ⟨es,sv,a,d,ik,ii,ht,h1,h2,h3,h4,D,ds,n,rfl,h5,h6,h7,h8,_,h9,h10⟩:=r;refine dictCase es ht D ds n rfl h5 h8 h9 h10 (.inr ⟨hk,h6,fun q=>?_,fun q=>?_,⟨sv,h1⟩,h8⟩)
  ·have R:=S.row
   cases hσ:σ.row with
   |none=>rw [hσ] at R;rw [show Γ.row=none from R] at q;cases q
   |some ns=>
    rw [hσ] at R;obtain ⟨r,vs,n',w1,w2,w3,_⟩:=R;rw [q] at w1;cases w1;rw [h8] at w3;exact absurd (congrArg Obj.cls (Option.some.inj w3)) (by simp)
  ·obtain ⟨_,ps,w3,_⟩:=S.tab;rw [←q,h8] at w3;exact absurd (congrArg Obj.cls (Option.some.inj w3)) (by simp)
 ·dsimp only at r;cases t<;>first | (cases hl;done) | skip
  ·cases hl;obtain ⟨a,vs,n,rfl,h1,z,h2⟩:=r.tup_inv;have e:=S.obj _ _ h1;have hne:a≠s.heap.objs.size:=Nat.ne_of_lt (Heap.lt_size e);have X:s.heap.IsTuple a vs.toArray:=⟨_,e,rfl,n,rfl⟩;refine wpAny_pyIter_tuple X (q _ ⟨_,_,_,_,0,Walks.tuple hh s.heap.objs.size a hne vs.toArray,⟨⟨_,Heap.get?_push_size _ rfl,rfl,rfl⟩,⟨_,pk e,rfl,n,rfl⟩⟩,by rw [List.size_toArray,h2.length];omega,fun b hb=>?_,?_,fun j h' q=>by obtain ⟨⟨o,q,_⟩,_⟩:=q;exact ⟨o,q⟩⟩)
   ·simp only [List.mem_cons,List.mem_nil_iff,or_false] at hb;rcases hb with rfl | rfl
    ·exact .inl rfl
    ·exact .inr ⟨_,.inl h1⟩
   ·intro j v hj hx;rw [Nat.zero_add] at hx;obtain ⟨w,h3,h4⟩:=h2.get (List.getElem?_eq_getElem hj);refine ⟨_,List.getElem?_eq_getElem hj,?_⟩;rw [List.getElem?_toArray,h3] at hx;cases hx;exact h4
  ·cases hl;obtain ⟨a,vs,n,rfl,h1,z,h2⟩:=r.list_inv;have e:=S.obj _ _ h1;have hne:a≠s.heap.objs.size:=Nat.ne_of_lt (Heap.lt_size e);have X:s.heap.IsList a vs.toArray:=Zz e;refine wpAny_pyIter_list X (q _ ⟨_,_,_,_,0,Walks.list hh s.heap.objs.size a hne vs.toArray,⟨⟨_,Heap.get?_push_size _ rfl,rfl,rfl⟩,Zz (pk e)⟩,by rw [List.size_toArray,h2.length];omega,fun b hb=>?_,?_,fun j h' q=>by obtain ⟨⟨o,q,_⟩,_⟩:=q;exact ⟨o,q⟩⟩)
   ·simp only [List.mem_cons,List.mem_nil_iff,or_false] at hb;rcases hb with rfl | rfl
    ·exact .inl rfl
    ·exact .inr ⟨_,.inl h1⟩
   ·intro j v hj hx;rw [Nat.zero_add] at hx;obtain ⟨w,h3,h4⟩:=h2.get (List.getElem?_eq_getElem hj);refine ⟨_,List.getElem?_eq_getElem hj,?_⟩;rw [List.getElem?_toArray,h3] at hx;cases hx;exact h4
  ·rename_i es;obtain ⟨d,ds,n,rfl,nm,h1,z,nd,h2⟩:=r.dict_inv;exact dictCase es rfl d ds n rfl nm (S.obj _ _ h1) nd h2 (.inl h1)
  ·rename_i x y;obtain ⟨r',o,rfl,h1,t,u,w,rfl⟩:∃r o,v=.ref r∧Γ.obj r=some o∧∃t u w,o={ cls:=.type "range",data:=.fields #[.int x t,.int y u,.int 1 w] }:=by unfold Rep at r;exact r
   have e0:Za1 (.range x y)=if Zj x&&Zj y&&decide (y - x≤Zc) then some ((Qa x y).map .int) else none:=rfl
   rw [e0] at hl;split at hl
   ·rename_i hs;cases hl;simp only [Bool.and_eq_true,decide_eq_true_eq] at hs;obtain ⟨⟨h2,h3⟩,h4⟩:=hs;have hl':((Qa x y).map T.int).length=(y - x).toNat:=by rw [List.length_map,Zib]
    refine wpAny_pyIter_range (S.obj _ _ h1) (Zh9 h2 h3) (q _ ⟨_,_,_,_,0,Walks.range hh s.heap.objs.size x 1 (y - x).toNat,?_,by rw [hl'];omega,fun b hb=>?_,?_,fun j h' q=>⟨_,q⟩⟩)
    ·rw [Zia];have e1:x+((0:Nat):Int) * 1=x:=by omega
     have e2:(((y - x).toNat:Nat):Int) - ((0:Nat):Int)=((y - x).toNat:Int):=by omega
     rw [e1,e2];exact Heap.get?_push_size _ rfl
    ·simp only [List.mem_cons,List.mem_nil_iff,or_false] at hb;exact .inl hb
    ·rintro j v hj ⟨t,rfl⟩
     rw [hl'] at hj;refine ⟨_,Zn8 hj,?_⟩;have:x+((0+j:Nat):Int) * 1=x+(j:Int):=by omega
     rw [this];exact Rep.int
   ·cases hl
theorem ItAt.alive {rest:List T}(x:ItAt prog c A k it rest Γ σ h):∃o,h.get? it=some o:=by
 obtain ⟨fp,n,P,S,i,W,q',hn,hf,hv,ha⟩:=x;exact ha _ _ q'
theorem Zjn {t:T}{l:List T}{v:Value}{pre:Heap}(P:Pre c A I Γ σ s)(r:RF c pre Γ σ s.heap (t,k) v)(hl:Za1 t=some l):l.length≤sizeLine:=by
 have lk:=RF.look P.st r;dsimp only at lk;cases t<;>first | (cases hl;done) | skip
 ·cases hl;obtain ⟨a,vs,n,rfl,h1,z,h2⟩:=Rep.tup_inv (show Rep c Γ (.tup _) v from lk);rw [←h2.length];exact z
 ·cases hl;obtain ⟨a,vs,n,rfl,h1,z,h2⟩:=lk;rw [←h2.length];exact z
 ·cases hl;obtain ⟨a,ds,n,rfl,_,h1,z,_,h2⟩:=lk;rw [List.length_map,←h2.length];exact z
 ·rename_i x y;have e0:Za1 (.range x y)=if Zj x&&Zj y&&decide (y - x≤Zc) then some ((Qa x y).map .int) else none:=rfl
  rw [e0] at hl;split at hl
  ·rename_i hs;cases hl;simp only [Bool.and_eq_true,decide_eq_true_eq] at hs;obtain ⟨⟨h2,h3⟩,h4⟩:=hs;rw [List.length_map,Zib,Z3];unfold Zc at h4;omega
  ·cases hl
end
section
variable {c:Cx}{fr:List Addr}{Γ₀ Γ Γ₁:Gh}{σ₀ σ σ₁:Sg}{h₀ h h' h₁:Heap}{a:Addr}
theorem Zcm (S:St c Γ σ h)(x:Step fr Γ₀ σ₀ h₀ Γ σ h)(n:h₀.get? a=none)(l:Loose Γ a)(kp:∀b o,b≠a→h.get? b=some o→h'.get? b=some o):St c Γ σ h'∧Step fr Γ₀ σ₀ h₀ Γ σ h':=by
 have id':∀{d y},d≠a→IDict c h d y→IDict c h' d y:=by
  rintro d y hd ⟨sh,t1,t2,t3,t4,t5,m,e⟩
  exact ⟨sh,t1,t2,t3,t4,t5,m,kp d _ hd e⟩
 have nm:∀{d},Γ.moves d→d≠a:=fun hm q=>l.2.2 (q▸hm)
 refine ⟨⟨S.base,fun b o e=>kp b o (fun q=>by subst q;rw [l.1] at e;cases e) (S.obj b o e),fun d y e=>id' (fun q=>by subst q;rw [l.2.1] at e;cases e) (S.idc d y e),fun b e=>?_,S.apart2,?_,?_,?_⟩,?_⟩
 ·obtain ⟨q1,q2,o,q3⟩:=S.apart b e;exact ⟨q1,q2,o,kp b o (nm e) q3⟩
 ·have q:=S.row
  cases hr:σ.row with
  |none=>rw [hr] at q;exact q
  |some ns=>
   rw [hr] at q;obtain ⟨r,vs,m,a1,a2,a3,a5⟩:=q;exact ⟨r,vs,m,a1,a2,kp _ _ (nm a2) a3,a5⟩
 ·have q:=S.self
  cases hs:σ.self with
  |none=>rw [hs] at q;exact q
  |some v=>
   rw [hs] at q;obtain ⟨a',d,ik,ii,ia,t,b1,b2,b3,b4,b5,b6,b7⟩:=q;refine ⟨a',d,ik,ii,ia,t,b1,b2,b3,id' (nm b3) b4,b5,b6,?_⟩
   cases ha:v.attrs with
   |none=>rw [ha] at b7;exact b7
   |some es=>
    rw [ha] at b7;obtain ⟨D,ds,m,c1,c2,c3,c4,c5,c6⟩:=b7;exact ⟨D,ds,m,c1,c2,c3,c4,kp D _ (nm c3) c5,c6⟩
 ·obtain ⟨m1,ps,m2,m3⟩:=S.tab;exact ⟨m1,ps,kp _ _ (nm m1.1) m2,m3⟩
 ·have na:∀{b o},h₀.get? b=some o→b≠a:=fun e q=>by subst q;rw [n] at e;cases e
  refine ⟨x.le,fun b o e=>?_,fun b o e hm hi hf=>kp b o (na e) (x.keep b o e hm hi hf),fun b o hb e lb=>?_,x.old,x.rowNew,fun v v' e e' q=>?_,x.mono⟩
  ·obtain ⟨o',e'⟩:=x.alive b o e;exact ⟨o',kp b o' (na e) e'⟩
  ·obtain ⟨sl,e'⟩:=x.frames b o hb e lb;exact ⟨sl,kp b _ (na e) e'⟩
  ·obtain ⟨q1,q2⟩:=x.still v v' e e' q;refine ⟨q1,fun b hm hr ht=>?_⟩;rw [←q2 b hm hr ht];obtain ⟨_,_,o,e3⟩:=S.apart b (x.le.moves b hm);rw [e3];exact kp b o (nm (x.le.moves b hm)) e3
end
section
variable {prog:Program}{c:Cx}{A:Around}{I:Inv (frs A)}{Γ:Gh}{σ:Sg}{s:Shared}{env:PySem.Env}{L:Ev}{G:Calls}
theorem Zcr {α β:Type}{R:Heap→Gh→Sg→Heap→α→β→Prop}{k:Kd}{f:T→M α}{t:T}{X:Sem β}{E:Value→Shared→Prop}(h:Snd prog c A I R (f t) X)(P:Pre c A I Γ σ s)(ne:quiet k f t σ≠.stuck)(hR:Zcj R):
  wpAny (model prog c.w) A X (fun b s'=>∃a σ',True∧quiet k f t σ=.ok a σ'∧(k=.h→σ'.self.map (·.ep)=σ.self.map (·.ep))∧∃Γ',Same s s'∧St c Γ' σ' s'.heap∧Step (frs A) Γ σ s.heap Γ' σ' s'.heap∧R s.heap Γ' σ' s'.heap a b) E s:=by
 have ne1:Mine.still k (f t) σ≠.stuck:=by
  intro q;apply ne;unfold quiet Zby;rw [q]
 refine wpAny_mono (h.still (k:=k) hR Γ σ s P ne1) (fun b s' q=>?_) fun e s' q=>?_
 ·obtain ⟨a,σ',e,r⟩:=q;refine ⟨a,σ',trivial,?_,(Zcn e).2,r⟩;unfold quiet Zby;rw [e]
 ·obtain ⟨m,σ',e,_⟩:=q;exfalso;apply ne;unfold quiet Zby;rw [e]
theorem Snd.tests {es:List Expr}(h:∀e∈es,Snd prog c A I RB (evalT G L e (Za G L e)) (PySem.isTrue e env (eval e env))):
  Snd prog c A I RB (evalTs G L es) (forIn es true fun c r=>if r=true then do let ok ←PySem.isTrue c env (eval c env);pure (ForInStep.yield ok) else pure (ForInStep.yield r)):=by
 have off:∀es:List Expr,(forIn es false fun c r=>if r=true then do let ok ←PySem.isTrue c env (eval c env);pure (ForInStep.yield ok) else pure (ForInStep.yield r))=(pure false:Sem Bool):=by
  intro es
  induction es with
  |nil=>rfl
  |cons e es ih=>rw [List.forIn_cons];simp only [Bool.false_eq_true,if_false,pure_bind];exact ih
 induction es with
 |nil=>
  intro Γ σ s P ne;rw [evalTs] at ne ⊢;exact wpAny_pure (stay P rfl rfl)
 |cons e es ih=>
  intro Γ σ s P ne;rw [evalTs] at ne ⊢;rw [List.forIn_cons];simp only [if_true];refine wpAny_bind (wpAny_bind (seq P ne (h e (by simp)) ?_));intro a σ₁ Γ₁ v s₁ _ y1 y2 P₁ r ne1 e1;rw [e1];cases r;refine wpAny_pure ?_
  cases a with
  |true=>exact Qn Zaq P y1 y2 (ih (fun e he=>h e (by simp [he])) _ _ _ P₁ ne1)
  |false=>
   show wpAny (model prog c.w) A (forIn es false _) _ _ _;rw [off];exact Qn Zaq P y1 y2 (wpAny_pure (stay P₁ rfl rfl))
end
theorem Zgy {scope:Scope}{env:PySem.Env}(h:∀p∈scope.names,p.2=.free→∃ca,env.cells.lookup p.1=some ca):
  ∃cl,closureFor scope env=pure cl∧(∀y,(y,NameKind.free)∈scope.names→cl.lookup y=env.cells.lookup y)∧(∀y ca,cl.lookup y=some ca→(y,NameKind.free)∈scope.names∧env.cells.lookup y=some ca):=by
 have key:∀(ns:List (Str×NameKind)) (acc:List (Str×Addr)),(∀p∈ns,p.2=.free→∃ca,env.cells.lookup p.1=some ca)→
   ∃cl,(forIn ns acc fun (p:Str×NameKind) (cs:List (Str×Addr))=>(match p with | (name,kind)=>if (kind == NameKind.free)=true then do let a ←cellOf env name;pure (ForInStep.yield ((name,a)::cs)) else pure (ForInStep.yield cs):Sem _))=pure cl∧
    (∀y,(y,NameKind.free)∈ns∨acc.lookup y=env.cells.lookup y→((y,NameKind.free)∉ns→acc.lookup y=env.cells.lookup y)→cl.lookup y=env.cells.lookup y)∧
    (∀y ca,cl.lookup y=some ca→((y,NameKind.free)∈ns∧env.cells.lookup y=some ca)∨acc.lookup y=some ca):=by
  intro ns
  induction ns with
  |nil=>intro acc _;exact ⟨acc,rfl,fun y _ h=>h (by simp),fun y ca h=>.inr h⟩
  |cons p ns ih=>
   intro acc hh;obtain ⟨n,k⟩:=p
   by_cases hk:k=.free
   ·subst hk;obtain ⟨ca,hca⟩:=hh (n,.free) (by simp) rfl;obtain ⟨cl,h1,h2,h3⟩:=ih ((n,ca)::acc) fun p hp=>hh p (by simp [hp])
    refine ⟨cl,?_,fun y hy hn=>?_,fun y cb hy=>?_⟩
    ·rw [List.forIn_cons];have:cellOf env n=pure ca:=by unfold cellOf;rw [hca]
     simp only [beq_self_eq_true,if_true,this,pure_bind];exact h1
    ·by_cases hyn:y=n
     ·subst hyn;refine h2 y (.inr ?_) fun _=>?_<;>simp [List.lookup_cons,hca]
     ·have e:((n,ca)::acc).lookup y=acc.lookup y:=by
       rw [List.lookup_cons];have:(y == n)=false:=by simpa using hyn
       rw [this]
      refine h2 y ?_ fun q=>?_
      ·rcases hy with hy | hy
       ·rcases List.mem_cons.mp hy with hy | hy
        ·cases hy;exact absurd rfl hyn
        ·exact .inl hy
       ·exact .inr (e.trans hy)
      ·exact e.trans (hn (by simp [hyn,q]))
    ·rcases h3 y cb hy with ⟨q1,q2⟩ | q
     ·exact .inl ⟨by simp [q1],q2⟩
     ·rw [List.lookup_cons] at q
      by_cases hyn:y=n
      ·subst hyn;simp only [beq_self_eq_true] at q;cases q;exact .inl ⟨by simp,hca⟩
      ·have:(y == n)=false:=by simpa using hyn
       rw [this] at q;exact .inr q
   ·obtain ⟨cl,h1,h2,h3⟩:=ih acc fun p hp=>hh p (by simp [hp])
    have hb:(k == NameKind.free)=false:=by simpa using hk
    refine ⟨cl,?_,fun y hy hn=>h2 y ?_ fun q=>hn ?_,fun y cb hy=>?_⟩
    ·rw [List.forIn_cons];simp only [hb,Bool.false_eq_true,if_false,pure_bind];exact h1
    ·rcases hy with hy | hy
     ·rcases List.mem_cons.mp hy with hy | hy
      ·cases hy;exact absurd rfl hk
      ·exact .inl hy
     ·exact .inr hy
    ·simp only [List.mem_cons,Prod.mk.injEq,not_or,not_and];exact ⟨fun _ q'=>hk q'.symm,q⟩
    ·rcases h3 y cb hy with ⟨q1,q2⟩ | q
     ·exact .inl ⟨by simp [q1],q2⟩
     ·exact .inr q
 obtain ⟨cl,h1,h2,h3⟩:=key scope.names [] h;refine ⟨cl,?_,fun y hy=>h2 y (.inl hy) fun q=>absurd hy q,fun y ca hy=>?_⟩
 ·unfold closureFor;simp only [bind_pure];rw [←h1]
 ·rcases h3 y ca hy with q | q
  ·exact q
  ·cases q
structure EnvS (g fr:Str→Bool) (env:PySem.Env):Prop where
 glob:∀x,g x=true→env.kindOf x=some .globalImplicit
 cell:∀x,fr x=true→(env.kindOf x=some .cell∨env.kindOf x=some .free)∧∃ca,env.cells.lookup x=some ca
def isK' (sc:Scope)(k:NameKind)(x:Str):Bool:=sc.names.lookup x == some k
def scOk (fr:Str→Bool)(sc:Scope)(x:Str):Bool:=
 sc.kind == .function&&decide ((sc.names.map (·.1)).Nodup)&&sc.names.all (fun p=>!(p.2 == .cell)&&(!(p.2 == .free)||fr p.1))&&isK' sc .local x
theorem Jt {β:Type}{k:Str}{v:β}:∀{l:List (Str×β)},(l.map (·.1)).Nodup→(k,v)∈l→l.lookup k=some v
 |[],_,h=>by cases h
 |(k',v')::l,nd,h=>by
  rw [List.map_cons,List.nodup_cons] at nd;rw [List.lookup_cons];rcases List.mem_cons.mp h with h1 | h1
  ·cases h1;simp
  ·have:(k == k')=false:=by
    simp only [beq_eq_false_iff_ne,ne_eq];intro e;exact nd.1 (List.mem_map.mpr ⟨_,h1,e⟩)
   rw [this];exact Jt nd.2 h1
theorem Zi6 {β γ:Type}(f:Str→β→γ)(y:Str):∀(l:List (Str×β)),(l.map fun p=>(p.1,f p.1 p.2)).lookup y=(l.lookup y).map (f y)
 |[]=>rfl
 |(k,v)::l=>by
  rw [List.map_cons,List.lookup_cons,List.lookup_cons]
  by_cases h:y=k
  ·subst h;simp
  ·have:(y == k)=false:=by simpa using h
   rw [this];exact Zi6 f y l
theorem Zn6 (sc:Scope)(env:PySem.Env):(relabel sc env).names=sc.names.map fun p=>(p.1,if (p.2 == NameKind.free&&env.scope.kind == .function&&env.kindOf p.1 == some .cell) then NameKind.cell else p.2):=by
 unfold relabel;dsimp only;congr 1;funext p;obtain ⟨n,k⟩:=p;dsimp only;split<;>rfl
theorem Zb2 (sc:Scope)(env:PySem.Env)(cl:List (Str×Addr))(C:Addr)(y:Str):(compEnvC sc cl C env).kindOf y=(sc.names.lookup y).map fun k=>if (k == NameKind.free&&env.scope.kind == .function&&env.kindOf y == some .cell) then NameKind.cell else k:=by
 show ((relabel sc env).names).lookup y=_;rw [Zn6];exact Zi6 (fun n k=>if (k == NameKind.free&&env.scope.kind == .function&&env.kindOf n == some .cell) then NameKind.cell else k) y sc.names
section
variable {c:Cx}{fr:List Addr}{G:Gh}{h:Heap}{env:PySem.Env}{L:Ev}{g f:Str→Bool}{sc:Scope}{x:Str}{cl:List (Str×Addr)}{C:Addr}{old:Heap}
structure ScF (f:Str→Bool) (sc:Scope) (x:Str):Prop where
 kind:sc.kind=.function
 nodup:(sc.names.map (·.1)).Nodup
 cell:∀p∈sc.names,p.2≠.cell
 free:∀p∈sc.names,p.2=.free→f p.1=true
 loc:sc.names.lookup x=some .local
theorem Zdt (h:scOk f sc x=true):ScF f sc x:=by
 simp only [scOk,isK',Bool.and_eq_true,decide_eq_true_eq,List.all_eq_true,Bool.not_eq_true',Bool.or_eq_true,beq_iff_eq,beq_eq_false_iff_ne,ne_eq] at h;obtain ⟨⟨⟨h1,h2⟩,h3⟩,h4⟩:=h;exact ⟨h1,h2,fun p hp=>(h3 p hp).1,fun p hp e=>(h3 p hp).2.elim (fun q=>absurd e q) id,h4⟩
theorem Zjm {y:Str}(h:y∈Zf3 sc):(y,NameKind.free)∈sc.names:=by
 unfold Zf3 at h;obtain ⟨p,h1,h2⟩:=List.mem_filterMap.mp h;obtain ⟨n,k⟩:=p;dsimp only at h2;split at h2
 ·rename_i hk;subst hk;cases h2;exact h1
 ·cases h2
theorem EnvS.comp (S:EnvS g f env)(ok:ScF f sc x)(hc:∀y,(y,NameKind.free)∈sc.names→cl.lookup y=env.cells.lookup y):EnvS (isK' sc .globalImplicit) (isK' sc .free) (compEnvC sc cl C env):=by
 refine ⟨fun y hy=>?_,fun y hy=>?_⟩
 ·have hy:sc.names.lookup y=some .globalImplicit:=by simpa [isK'] using hy
  rw [Zb2,hy];rfl
 ·have hy:sc.names.lookup y=some .free:=by simpa [isK'] using hy
  have hm:=J4 hy;obtain ⟨_,ca,q⟩:=S.cell y (ok.free _ hm rfl);refine ⟨?_,ca,(hc y hm).trans q⟩;rw [Zb2,hy];simp only [Option.map_some];split
  ·exact .inl rfl
  ·exact .inr rfl
theorem EnvR.comp {old':Heap}{m:Str→Option Value}{t:T}{v:Value}(E:EnvR c old G h fr env L)(S:EnvS g f env)(ok:ScF f sc x)(hc:∀y,(y,NameKind.free)∈sc.names→cl.lookup y=env.cells.lookup y)
  (hn:h.Ns C m) (hm:m x=some v) (lC:Loose G C) (r:Rep c G t v):EnvR c old' G h fr (compEnvC sc cl C env) (inner L sc x t):=by
 obtain ⟨e1,e2,e3,m₀,e4,e5,e6,_⟩:=E;have ow:OwnsOk c old' G h fr (compEnvC sc cl C env) m (inner L sc x t).own:=by
  refine ⟨fun _=>[],?_,?_,?_,?_⟩
  ·intro p hp;cases hp
  ·intro p hp;cases hp
  ·exact List.nodup_nil
  ·intro p hp;cases hp
 refine ⟨ok.kind,e2,e3,m,hn,lC,fun y t' hy=>?_,ow⟩;unfold inner upd at hy;dsimp only at hy
 by_cases q:y=x
 ·subst q;rw [if_pos rfl] at hy;cases hy;refine ⟨v,.inl ⟨?_,hm⟩,r⟩;rw [Zb2,ok.loc];rfl
 ·rw [if_neg q] at hy;unfold Qv at hy;split at hy
  ·rename_i hk;have hm':=Zjm hk;obtain ⟨w,b,r'⟩:=e6 y t' hy;obtain ⟨k1,ca,k2⟩:=S.cell y (ok.free _ hm' rfl);have kk:(compEnvC sc cl C env).kindOf y=some .cell∨(compEnvC sc cl C env).kindOf y=some .free:=by
    rw [Zb2,Jt ok.nodup hm'];simp only [Option.map_some];split
    ·exact .inl rfl
    ·exact .inr rfl
   rcases b with ⟨b1,_⟩ | ⟨k,cb,b1,b2,b3,b4,b5⟩
   ·rcases k1 with k1 | k1<;>rw [b1] at k1<;>cases k1
   ·refine ⟨w,.inr ?_,r'⟩;rcases kk with kk | kk
    ·exact ⟨.cell,cb,.inl rfl,kk,(hc y hm').trans b3,b4,b5⟩
    ·exact ⟨.free,cb,.inr rfl,kk,(hc y hm').trans b3,b4,b5⟩
  ·cases hy
end
structure New (A:Around) (h₀:Heap) (Γ:Gh) (a:Addr):Prop where
 loose:Loose Γ a
 nf:a∉frs A
 new:h₀.get? a=none
structure LI (prog:Program) (c:Cx) (A:Around) (k:Kd) (Γ:Gh) (σ:Sg) (s:Shared) (it C D:Addr) (rest:List T) (Γ₁:Gh) (σ₁:Sg) (s₁:Shared):Prop where
 same:Same s s₁
 st:St c Γ₁ σ₁ s₁.heap
 step:Step (frs A) Γ σ s.heap Γ₁ σ₁ s₁.heap
 itr:ItAt prog c A k it rest Γ₁ σ₁ s₁.heap
 ns:∃m,s₁.heap.Ns C m
 ni:New A s.heap Γ₁ it
 nc:New A s.heap Γ₁ C
 nd:New A s.heap Γ₁ D
 ic:it≠C
 idd:it≠D
 cd:C≠D
structure LE (c:Cx) (A:Around) (Γ:Gh) (σ:Sg) (s:Shared) (C D:Addr) (Γ₁:Gh) (σ₁:Sg) (s₁:Shared):Prop where
 same:Same s s₁
 st:St c Γ₁ σ₁ s₁.heap
 step:Step (frs A) Γ σ s.heap Γ₁ σ₁ s₁.heap
 ns:∃m,s₁.heap.Ns C m
 nc:New A s.heap Γ₁ C
 nd:New A s.heap Γ₁ D
 cd:C≠D
section
variable {prog:Program}{c:Cx}{A:Around}{I:Inv (frs A)}{k:Kd}{Γ Γ₁ Γ₂:Gh}{σ σ₁ σ₂:Sg}{s s₁ s₂:Shared}{env:PySem.Env}{L:Ev}{G:Calls}{it C D:Addr}{rest:List T}{E:Value→Shared→Prop}
theorem New.step {h₀ h₁ h₂:Heap}{a:Addr}{o:Obj}(x:New A h₀ Γ₁ a)(y:Step (frs A) Γ₁ σ₁ h₁ Γ₂ σ₂ h₂)(e:h₁.get? a=some o):New A h₀ Γ₂ a:=⟨x.loose.old y e,x.nf,x.new⟩
theorem LI.pre (x:LI prog c A k Γ σ s it C D rest Γ₁ σ₁ s₁)(P:Pre c A I Γ σ s):Pre c A I Γ₁ σ₁ s₁:=P.next x.st x.step
theorem LI.next {t:T}{r:List T}{h':Heap}{tk:Tok}(x:LI prog c A k Γ σ s it C D (t::r) Γ₁ σ₁ s₁)(q:ItAt prog c A k it r Γ₁ σ₁ h')(kp:∀b o,b≠it→s₁.heap.get? b=some o→h'.get? b=some o):
  LI prog c A k Γ σ s it C D r Γ₁ σ₁ { s₁ with heap:=h',toks:=tk }:=by
 obtain ⟨S',y⟩:=Zcm x.st x.step x.ni.new x.ni.loose kp;obtain ⟨m,hm⟩:=x.ns;exact ⟨x.same.trans ⟨h',tk,rfl⟩,S',y,q,⟨m,hm.at' fun o e=>kp C o x.ic.symm e⟩,x.ni,x.nc,x.nd,x.ic,x.idd,x.cd⟩
theorem LI.done {h':Heap}{tk:Tok}(x:LI prog c A k Γ σ s it C D [] Γ₁ σ₁ s₁)(kp:∀b o,b≠it→s₁.heap.get? b=some o→h'.get? b=some o):
  LE c A Γ σ s C D Γ₁ σ₁ { s₁ with heap:=h',toks:=tk }:=by
 obtain ⟨S',y⟩:=Zcm x.st x.step x.ni.new x.ni.loose kp;obtain ⟨m,hm⟩:=x.ns;exact ⟨x.same.trans ⟨h',tk,rfl⟩,S',y,⟨m,hm.at' fun o e=>kp C o x.ic.symm e⟩,x.nc,x.nd,x.cd⟩
theorem LI.store {h':Heap}{tk:Tok}{m:Str→Option Value}(x:LI prog c A k Γ σ s it C D rest Γ₁ σ₁ s₁)(hn:h'.Ns C m)(sb:Heap.SameBut C s₁.heap h'):
  LI prog c A k Γ σ s it C D rest Γ₁ σ₁ { s₁ with heap:=h',toks:=tk }:=by
 have kp:∀b o,b≠C→s₁.heap.get? b=some o→h'.get? b=some o:=fun b o hb e=>(sb.2 b hb).trans e
 obtain ⟨S',y⟩:=Zcm x.st x.step x.nc.new x.nc.loose kp;exact ⟨x.same.trans ⟨h',tk,rfl⟩,S',y,x.itr.turn x.st x.nc.loose x.ic kp,⟨m,hn⟩,x.ni,x.nc,x.nd,x.ic,x.idd,x.cd⟩
theorem LI.fill {h':Heap}{tk:Tok}(x:LI prog c A k Γ σ s it C D rest Γ₁ σ₁ s₁)(sb:Heap.SameBut D s₁.heap h'):
  LI prog c A k Γ σ s it C D rest Γ₁ σ₁ { s₁ with heap:=h',toks:=tk }:=by
 have kp:∀b o,b≠D→s₁.heap.get? b=some o→h'.get? b=some o:=fun b o hb e=>(sb.2 b hb).trans e
 obtain ⟨S',y⟩:=Zcm x.st x.step x.nd.new x.nd.loose kp;obtain ⟨m,hm⟩:=x.ns;exact ⟨x.same.trans ⟨h',tk,rfl⟩,S',y,x.itr.turn x.st x.nd.loose x.idd kp,⟨m,hm.at' fun o e=>kp C o x.cd e⟩,x.ni,x.nc,x.nd,x.ic,x.idd,x.cd⟩
theorem LI.steps {od:Obj}(x:LI prog c A k Γ σ s it C D rest Γ₁ σ₁ s₁)(hd:s₁.heap.get? D=some od)(P:Pre c A I Γ σ s)(sm:Same s₁ s₂)(S:St c Γ₂ σ₂ s₂.heap)(y:Step (frs A) Γ₁ σ₁ s₁.heap Γ₂ σ₂ s₂.heap)
  (ep:k=.h→σ₂.self.map (·.ep)=σ₁.self.map (·.ep)):LI prog c A k Γ σ s it C D rest Γ₂ σ₂ s₂:=by
 obtain ⟨m,hm⟩:=x.ns;have hm':=hm;obtain ⟨oc,_,_,hc,_⟩:=hm';obtain ⟨oi,hi⟩:=x.itr.alive;exact ⟨x.same.trans sm,S,Step.trans P.st x.step y,x.itr.step x.st S y ep x.ni.loose x.ni.nf,⟨m,(y.ns x.nc.loose hm).1⟩,x.ni.step y hi,x.nc.step y hc,x.nd.step y hd,x.ic,x.idd,x.cd⟩
end
section
variable {prog:Program}{c:Cx}{A:Around}{k:Kd}{Γ:Gh}{σ:Sg}{s:Shared}{env:PySem.Env}{L:Ev}{G:Calls}{old:Heap}{g f:Str→Bool}{sc:Scope}{x:Str}{cl:List (Str×Addr)}
theorem M.ite_bind {α β:Type}(b:Bool)(m m':M α)(q:α→M β):((if b=true then m else m')>>=q)=if b=true then m>>=q else m'>>=q:=by cases b<;>rfl
theorem Zqg {elt iter:Expr}{px pos:Pos}{ifs:List Expr}{R:Result→Shared→Prop}{l:List T}{it C D:Addr}{s₁:Shared}
  (P:Pre c A (envI c old (frs A) env L) Γ σ s) (ES:EnvS g f env) (ok:ScF f sc x) (hc:∀y,(y,NameKind.free)∈sc.names→cl.lookup y=env.cells.lookup y)
  (hT:∀e∈ifs,TSnd prog c A (compEnvC sc cl C env) G e) (hE:ESnd prog c A (compEnvC sc cl C env) G elt)
  (ne:tests (quiet k fun t=>evalTs G (inner L sc x t) ifs) (quiet k fun t=>Za G (inner L sc x t) elt) l σ≠.stuck)
  (x₁:LI prog c A k Γ σ s it C D l Γ σ s₁) {n₁:Nat} (hD:s₁.heap.get? D=some (Zt [] n₁)) (hz:l.length≤sizeLine)
  (hR:∀Γ₁ σ₁ s₁ acc vs m,LE c A Γ σ s C D Γ₁ σ₁ s₁→s₁.heap.get? D=some (Zt vs m)→RepL c Γ₁ acc vs→vs.length≤sizeLine→
   tests (quiet k fun t=>evalTs G (inner L sc x t) ifs) (quiet k fun t=>Za G (inner L sc x t) elt) l σ=.ok acc σ₁→R (.ok .next) s₁):
  codeAny (model prog c.w) A (.compLoop (.ListComp elt [⟨.Name x px,iter,ifs,0⟩] sc pos) 0 (.ref it) (.ref D) (compEnvC sc cl C env)) R s₁:=by
 generalize hF:(quiet k fun t=>evalTs G (inner L sc x t) ifs)=F at ne hR
 generalize hG:(quiet k fun t=>Za G (inner L sc x t) elt)=Gf at ne hR
 refine codeAny_compLoop_tests (fun n s₁=>∃Γ₁ σ₁ rest acc vs m,n=rest.length∧LI prog c A k Γ σ s it C D rest Γ₁ σ₁ s₁∧s₁.heap.get? D=some (Zt vs m)∧RepL c Γ₁ acc vs∧acc.length+rest.length≤sizeLine∧
   tests F Gf l σ=(tests F Gf rest>>=fun bs=>pure (acc++bs)) σ₁) ?_ l.length ⟨Γ,σ,l,[],[],n₁,rfl,x₁,hD,RepL.nil,by simpa using hz,by
    show _=M.bind _ _ σ;unfold M.bind;cases tests F Gf l σ<;>rfl⟩
 rintro n s₁ ⟨Γ₁,σ₁,rest,acc,vs,m,rfl,X,hd,rl,hz',e⟩
 have hl:=rl.length
 cases rest with
 |nil=>
  refine ItAt.done X.itr fun h' tk kp=>?_
  refine hR Γ₁ σ₁ _ acc vs m (X.done kp) (kp _ _ X.idd.symm hd) rl (by simp at hz';omega) ?_;rw [e];show M.bind _ _ σ₁=_;unfold M.bind;simp [tests,M.pure,Pure.pure]
 |cons t r=>
  refine ItAt.item X.itr X.ni.loose fun v h₁ tk₁ rv itr kp=>?_
  have X₁:=X.next (tk:=tk₁) itr kp;obtain ⟨m₁,hm₁⟩:=X₁.ns;have hd₁:=kp _ _ X.idd.symm hd;refine wpAny_assign_Name (wpAny_storeName_local (env:=compEnvC sc cl C env) (by rw [Zb2,ok.loc];rfl) hm₁ (fun h₂ hn₂ sb=>?_) (by rw [show (compEnvC sc cl C env).scope.kind=.function from ok.kind];rfl));have X₂:=X₁.store (tk:=tk₁+1) hn₂ sb;have hd₂:=(sb.2 D X.cd.symm).trans hd₁;have P₂:=X₂.pre P;have E₂:EnvR c old Γ₁ h₂ (frs A) env L:=P₂.inv
  have PI:Pre c A (envI c s.heap (frs A) (compEnvC sc cl C env) (inner L sc x t)) Γ₁ σ₁ { s₁ with heap:=h₂,toks:=tk₁+1 }:=
   ⟨P₂.st,P₂.fr,E₂.comp ES ok hc hn₂ (if_pos rfl) X₂.nc.loose rv⟩
  have e1:(tests F Gf (t::r)>>=fun bs=>pure (acc++bs))=(F t>>=fun b=>if b=true then (Gf t>>=fun y=>solid y>>=fun b=>tests F Gf r>>=fun bs=>pure (acc++(b.1::bs))) else tests F Gf r>>=fun bs=>pure (acc++bs)):=by
   rw [tests,M.assoc];congr 1;funext b;rw [M.ite_bind];congr 1;rw [M.assoc];congr 1;funext y;rw [M.assoc];congr 1;funext b;rw [M.assoc];rfl
  rw [e1] at e;have neF:F t σ₁≠.stuck:=M.bind_ne (f:=_) (by rw [←e];exact ne);subst hF;refine wpAny_mono (Zcr (Snd.tests fun e he=>hT e he s.heap (inner L sc x t)) PI neF Zkj) (fun b s₃ q=>?_) fun _ _ q=>q
  obtain ⟨a,σ₃,_,eq,ep,Γ₃,sm,S₃,y₃,rb⟩:=q;cases rb;have X₃:=X₂.steps hd₂ P sm S₃ y₃ ep;have hd₃:s₃.heap.get? D=some (Zt vs m):=y₃.keep _ _ hd₂ X₂.nd.loose.2.2 X₂.nd.loose.2.1 X₂.nd.nf;rw [M.bind_ok eq] at e
  cases b with
  |false=>
   simp only [Bool.false_eq_true,if_false] at e ⊢;exact ⟨r.length,by simp,Γ₃,σ₃,r,acc,vs,m,rfl,X₃,hd₃,RepL.mono y₃.le _ _ rl,by simp at hz';omega,e⟩
  |true=>
   simp only [if_true] at e ⊢;obtain ⟨m₃,hn₃⟩:=X₃.ns;have y23:h₂.Ns C _:=hn₂;have hn₃:=(y₃.ns X₂.nc.loose hn₂).1;have P₃:=X₃.pre P;have E₃:EnvR c old Γ₃ s₃.heap (frs A) env L:=P₃.inv;have PI₃:Pre c A (envI c s.heap (frs A) (compEnvC sc cl C env) (inner L sc x t)) Γ₃ σ₃ s₃:=⟨P₃.st,P₃.fr,E₃.comp ES ok hc hn₃ (if_pos rfl) X₃.nc.loose (Rep.mono y₃.le _ _ rv)⟩;have neG:Gf t σ₃≠.stuck:=M.bind_ne (f:=_) (by rw [←e];exact ne);subst hG;refine wpAny_mono (Zcr (hE s.heap (inner L sc x t)).toRF PI₃ neG Zem) (fun w s₄ q=>?_) fun _ _ q=>q
   obtain ⟨b,σ₄,_,eq₄,ep₄,Γ₄,sm₄,S₄,y₄,rb⟩:=q;rw [M.bind_ok eq₄] at e;have X₄:=X₃.steps hd₃ P sm₄ S₄ y₄ ep₄;have hd₄:s₄.heap.get? D=some (Zt vs m):=y₄.keep _ _ hd₃ X₃.nd.loose.2.2 X₃.nd.loose.2.1 X₃.nd.nf;have hs:b.2≠.h:=by
    intro q;apply ne;rw [e];show M.bind _ _ σ₄=_;unfold M.bind solid;rw [if_pos q];rfl
   have rw':Rep c Γ₄ b.1 w:=by
    rcases rb with ⟨q,_⟩ | ⟨_,q⟩
    ·exact absurd q hs
    ·exact q
   have es:solid b σ₄=.ok b σ₄:=by unfold solid;rw [if_neg hs];rfl
   rw [M.bind_ok es] at e;refine wpAny_list_append_plain ⟨m,hd₄⟩ (fun h₅ hp sb=>?_) (by simp at hz' ⊢;omega);obtain ⟨m',hp⟩:=hp;have X₅:=X₄.fill (tk:=s₄.toks) sb;refine ⟨r.length,by simp,Γ₄,σ₄,r,acc++[b.1],vs++[w],m',rfl,X₅,by simpa [Zt] using hp,RepL.append (RepL.mono (y₃.le.trans y₄.le) _ _ rl) (RepL.one rw'),by simp at hz' ⊢;omega,?_⟩;rw [e];congr 1;simp
end
section
variable {prog:Program}{c:Cx}{A:Around}{k:Kd}{Γ Γ₁ Γ₂:Gh}{σ σ₁ σ₂:Sg}{s s₁ s₂:Shared}{env:PySem.Env}{L:Ev}{G:Calls}{old:Heap}{g f:Str→Bool}{sc:Scope}{x:Str}{cl:List (Str×Addr)}{C D:Addr}
theorem New.back {h₀ h₁:Heap}{a:Addr}(x:New A h₁ Γ a)(kp:∀x o,h₀.get? x=some o→∃o',h₁.get? x=some o'):New A h₀ Γ a:=⟨x.loose,x.nf,Je kp x.new⟩
theorem LE.back {I:Inv (frs A)}(X:LE c A Γ₁ σ₁ s₁ C D Γ₂ σ₂ s₂)(P:Pre c A I Γ σ s)(sm:Same s s₁)(y:Step (frs A) Γ σ s.heap Γ₁ σ₁ s₁.heap):LE c A Γ σ s C D Γ₂ σ₂ s₂:=
 ⟨sm.trans X.same,X.st,Step.trans P.st y X.step,X.ns,X.nc.back y.alive,X.nd.back y.alive,X.cd⟩
theorem LI.start {I:Inv (frs A)}{l:List T}{o oD:Obj}{h':Heap}{tk:Tok}{m:Str→Option Value}(P:Pre c A I Γ σ s)(q:ItAt prog c A k s.heap.objs.size l Γ σ (s.heap.push o))(hf:oD.isFreed=false)
  (hn:h'.Ns (s.heap.objs.size+2) m) (sb:Heap.SameBut (s.heap.objs.size+2) (((s.heap.push o).push oD).push { cls:=.type "dict",data:=.dict #[] }) h'):
  LI prog c A k Γ σ s s.heap.objs.size (s.heap.objs.size+2) (s.heap.objs.size+1) l Γ σ { s with heap:=h',toks:=tk }∧h'.get? (s.heap.objs.size+1)=some oD:=by
 have z1:(s.heap.push o).objs.size=s.heap.objs.size+1:=Heap.size_push ..;have z2:((s.heap.push o).push oD).objs.size=s.heap.objs.size+2:=by rw [Heap.size_push,z1]
 have fresh:∀i,s.heap.get? (s.heap.objs.size+i)=none:=fun i=>Heap.get?_none_of_le (Nat.le_add_right _ _)
 have nw:∀i,New A s.heap Γ (s.heap.objs.size+i):=fun i=>⟨P.st.loose (fresh i),P.fr.fresh (fresh i),fresh i⟩
 have n01:s.heap.objs.size≠s.heap.objs.size+1:=Nat.ne_of_lt (Nat.lt_succ_self _);have n12:s.heap.objs.size+1≠s.heap.objs.size+2:=Nat.ne_of_lt (Nat.lt_succ_self _);have n02:s.heap.objs.size≠s.heap.objs.size+2:=Nat.ne_of_lt (Nat.lt_trans (Nat.lt_succ_self _) (Nat.lt_succ_self _));have k1:∀b o',(s.heap.push o).get? b=some o'→h'.get? b=some o':=by
  intro b o' e;have hb:b≠s.heap.objs.size+2:=Nat.ne_of_lt (Nat.lt_of_lt_of_le (Heap.lt_size e) (by rw [z1];exact Nat.le_succ _));rw [sb.2 b hb];exact Z6 _ _ (Z6 _ _ e)
 have kp:∀b o',s.heap.get? b=some o'→h'.get? b=some o':=fun b o' e=>k1 _ _ (Z6 _ _ e)
 refine ⟨⟨⟨h',tk,rfl⟩,P.st.keeps kp,Step.keeps kp P.st,?_,⟨m,hn⟩,nw 0,nw 2,nw 1,n02,n01,n12.symm⟩,?_⟩
 ·refine ItAt.turn (h:=s.heap.push o) (a:=s.heap.objs.size+2) (P.st.keeps Z6) q (nw 2).loose n02 fun b o' _ e=>k1 b o' e
 ·rw [sb.2 _ n12];refine Z6 _ _ ?_;rw [←z1];exact Heap.get?_push_size _ hf
theorem Ziv (ok:ScF f sc x):∀y∈sc.names,y.2=.local→sc.names.lookup y.1=some .local:=by
 rintro ⟨n,k⟩ hy rfl
 exact Jt ok.nodup hy
theorem Zi9 {elt iter:Expr}{px pos pos':Pos}{ifs:List Expr}{use:Option (Value→Sem Unit)}{Q E:Value→Shared→Prop}(P:Pre c A (envI c old (frs A) env L) Γ σ s)(ES:EnvS g f env)(ok:ScF f sc x)
  (hi:Snd prog c A (envI c old (frs A) env L) (RV c (frs A)) (Za G L iter) (eval iter env))
  (hT:∀cl C,(EnvS (isK' sc .globalImplicit) (isK' sc .free) (compEnvC sc cl C env))→∀e∈ifs,TSnd prog c A (compEnvC sc cl C env) G e)
  (hE:∀cl C,(EnvS (isK' sc .globalImplicit) (isK' sc .free) (compEnvC sc cl C env))→ESnd prog c A (compEnvC sc cl C env) G elt)
  (hs:∀v,foldedSetIterable iter env v=pure v)
  (ne:Za G L (.ListComp elt [⟨.Name x px,iter,ifs,0⟩] sc pos) σ≠.stuck)
  (hX:∀v s',EOf c A Γ σ s (Za G L (.ListComp elt [⟨.Name x px,iter,ifs,0⟩] sc pos) σ) v s'→E v s')
  (hQ:∀Γ₁ σ₁ s₁ acc vs m C D,LE c A Γ σ s C D Γ₁ σ₁ s₁→s₁.heap.get? D=some (Zt vs m)→RepL c Γ₁ acc vs→vs.length≤sizeLine→
   Za G L (.ListComp elt [⟨.Name x px,iter,ifs,0⟩] sc pos) σ=.ok (.list acc,.own) σ₁→compPost (model prog c.w) A E use Q (.ref D) C (.ok .next) s₁):
  wpAny (model prog c.w) A (comprehension (.ListComp elt [⟨.Name x px,iter,ifs,0⟩] sc pos) sc env pos' (newList []) false (eval iter env) use) Q E s:=by
 obtain ⟨cl,hcl,hc,_⟩:=Zgy (scope:=sc) (env:=env) fun p hp hk=>(ES.cell p.1 (ok.free p hp hk)).2
 refine wpAny_comprehension_free rfl hs hcl ok.kind (Ziv ok) ?_;rw [Za] at ne hX hQ;refine wpAny_mono (seq P ne hi.toRF (K:=_) ?_) (fun _ _ q=>q) hX;intro a σ₁ Γ₁ v s₁ _ y1 y2 P₁ r ne1 e1;obtain ⟨t,k⟩:=a;obtain ⟨l,hl⟩:=Zct ne1;have e2:(do let l ←Qm (t,k).1;Zcc l (t,k).2 (fun t=>evalTs G (inner L sc x t) ifs) (fun t=>Za G (inner L sc x t) elt)) σ₁=Zcc l k (fun t=>evalTs G (inner L sc x t) ifs) (fun t=>Za G (inner L sc x t) elt) σ₁:=by
  show M.bind (Zl (Za1 t)) _ σ₁=_;rw [hl];rfl
 rw [e2] at ne1 e1;unfold Zcc at ne1;have ne3:=M.bind_ne ne1;refine Zf5 P₁ r hl fun o q=>?_
 have z1:(s₁.heap.push o).objs.size=s₁.heap.objs.size+1:=Heap.size_push ..;refine wpAny_newObj_type (wpAny_newFunctionEnv ok.cell (by intro y hy;simp at hy) (fun h₁ hns₁ hsb₁=>?_) ok.kind);dsimp only at hns₁ hsb₁ ⊢;have z2:((s₁.heap.push o).push (Zt [] 0)).objs.size=s₁.heap.objs.size+2:=by rw [Heap.size_push,z1]
 have z2':((s₁.heap.push o).push { cls:=Value.type "list",data:=Data.seq ([]:List Value).toArray }).objs.size=s₁.heap.objs.size+2:=z2;rw [z2'] at hns₁ hsb₁;obtain ⟨X,hD⟩:=LI.start (tk:=s₁.toks+([]:List (Str×Value)).length) (oD:=Zt [] 0) P₁ q rfl hns₁ hsb₁;have fin:∀Γ₂ σ₂ s₂ acc vs m,LE c A Γ₁ σ₁ s₁ (s₁.heap.objs.size+2) (s₁.heap.objs.size+1) Γ₂ σ₂ s₂→s₂.heap.get? (s₁.heap.objs.size+1)=some (Zt vs m)→RepL c Γ₂ acc vs→vs.length≤sizeLine→
   tests (quiet k fun t=>evalTs G (inner L sc x t) ifs) (quiet k fun t=>Za G (inner L sc x t) elt) l σ₁=.ok acc σ₂→compPost (model prog c.w) A E use Q (.ref (s₁.heap.objs.size+1)) (s₁.heap.objs.size+2) (.ok .next) s₂:=by
  intro Γ₂ σ₂ s₂ acc vs m X₂ hd rl hz et;refine hQ Γ₂ σ₂ s₂ acc vs m _ _ (X₂.back P y1 y2) hd rl hz ?_;refine e1.trans ?_;unfold Zcc;rw [M.bind_ok et];rfl
 have S':EnvS (isK' sc .globalImplicit) (isK' sc .free) (compEnvC sc cl (s₁.heap.objs.size+2) env):=ES.comp ok hc;have loop:=Zqg (px:=px) (pos:=pos) (iter:=iter) P₁ ES ok hc (fun e he=>hT cl _ S' e he) (hE cl _ S') ne3 X (n₁:=0) hD (Zjn P₁ r hl) fin;have D1:(s₁.heap.push o).objs.size=s₁.heap.objs.size+1:=z1;show codeAny _ _ (.compStart _ 0 _ _ (compEnvC sc cl ((s₁.heap.push o).push { cls:=Value.type "list",data:=Data.seq ([]:List Value).toArray }).objs.size env)) _ _;rw [z2',D1];refine codeAny_compStart_list ?_ ?_
 ·exact loop
 ·   exact ItAt.self X.itr loop
end
section
variable {prog:Program}{c:Cx}{A:Around}{k:Kd}{Γ Γ₁ Γ₂:Gh}{σ σ₁ σ₂:Sg}{s s₁ s₂:Shared}{env:PySem.Env}{L:Ev}{G:Calls}{old:Heap}{g f:Str→Bool}{sc:Scope}{x:Str}{cl:List (Str×Addr)}{C D:Addr}
theorem LE.qof {h':Heap}{t:T×Kd}{v:Value}{res:Res (T×Kd)}(X:LE c A Γ σ s C D Γ₁ σ₁ s₁)(sb:Heap.SameBut C s₁.heap h')(tk:Nat)(e:res=.ok t σ₁)
  (r:RV c (frs A) s.heap Γ₁ σ₁ h' t v):QOf c A Γ σ s (RV c (frs A)) res v { s₁ with heap:=h',toks:=tk }:=by
 obtain ⟨S',y⟩:=Zar X.st X.step X.nc.new X.nc.loose sb;exact ⟨t,σ₁,e,Γ₁,X.same.trans ⟨h',tk,rfl⟩,S',y,r⟩
theorem Snd.listcomp {elt iter:Expr}{px pos:Pos}{ifs:List Expr}(ES:EnvS g f env)(ok:ScF f sc x)
  (hi:ESnd prog c A env G iter)
  (hT:∀cl C,(EnvS (isK' sc .globalImplicit) (isK' sc .free) (compEnvC sc cl C env))→∀e∈ifs,TSnd prog c A (compEnvC sc cl C env) G e)
  (hE:∀cl C,(EnvS (isK' sc .globalImplicit) (isK' sc .free) (compEnvC sc cl C env))→ESnd prog c A (compEnvC sc cl C env) G elt)
  (hs:∀v,foldedSetIterable iter env v=pure v):ESnd prog c A env G (.ListComp elt [⟨.Name x px,iter,ifs,0⟩] sc pos):=by
 intro old L Γ σ s P ne;rw [eval_ListComp];refine Zi9 P ES ok (hi old L) hT hE hs ne (fun _ _ q=>q) ?_;intro Γ₁ σ₁ s₁ acc vs m C D X hd rl hz e;refine ⟨_,X.ns.choose_spec,fun h' sb=>X.qof sb s₁.toks e ?_⟩;refine ⟨[D],⟨D,vs,m,rfl,rfl,(sb.2 D X.cd.symm).trans hd,hz,rl,X.nd.loose,X.nd.nf⟩,fun a ha=>?_⟩;simp at ha;subst ha;exact X.nd.new
theorem RepKV.put {es:List (Str×T)}{kvs:List (Str×Value)}{k:Str}{t:T}{v:Value}(r:RepKV c Γ es kvs)(nd:(es.map (·.1)).Nodup)(r':Rep c Γ t v):RepKV c Γ (dput es k t) (stored kvs k v):=by
 induction es generalizing kvs with
 |nil=>
  unfold RepKV at r;subst r;simp only [dput,stored,List.any_nil,Bool.false_eq_true,if_false,List.nil_append];exact ⟨v,[],rfl,r',rfl⟩
 |cons p es ih=>
  obtain ⟨k',t'⟩:=p;unfold RepKV at r;obtain ⟨v',q,rfl,r1,r2⟩:=r;rw [List.map_cons,List.nodup_cons] at nd;have nm:q.map (·.1)=es.map (·.1):=by
   clear ih nd
   induction es generalizing q with
   |nil=>unfold RepKV at r2;subst r2;rfl
   |cons p es ih=>
    obtain ⟨k,t⟩:=p;unfold RepKV at r2;obtain ⟨v,r',rfl,q1,q2⟩:=r2;simp [ih _ q2]
  unfold dput
  by_cases h:k'=k
  ·subst h;rw [if_pos rfl];have hq:q.map (fun kv=>if kv.1=k' then (kv.1,v) else kv)=q:=by
    refine map_eq_self fun kv hkv=>?_
    rw [if_neg];intro e;exact nd.1 (by rw [←nm];exact List.mem_map.mpr ⟨kv,hkv,e⟩)
   unfold stored;simp only [List.any_cons,decide_true,Bool.true_or,if_true,List.map_cons,hq];exact ⟨v,q,rfl,r',r2⟩
  ·rw [if_neg h];have:=ih r2 nd.2;have e:stored ((k',v')::q) k v=(k',v')::stored q k v:=by
    unfold stored;simp only [List.any_cons,h,decide_false,Bool.false_or,List.map_cons,if_false,List.cons_append];split<;>rfl
   rw [e];exact ⟨v',_,rfl,r1,this⟩
theorem Zgo {es:List (Str×T)}{k:Str}{t:T}:(dput es k t).length≤es.length+1:=by
 induction es with
 |nil=>simp [dput]
 |cons p es ih=>
  obtain ⟨k',t'⟩:=p;unfold dput;split
  ·simp
  ·simp only [List.length_cons];omega
theorem RepKV.mono {es:List (Str×T)}{kvs:List (Str×Value)}(r:RepKV c Γ es kvs)(l:Γ.Le Γ₁):RepKV c Γ₁ es kvs:=by
 induction es generalizing kvs with
 |nil=>exact r
 |cons p es ih=>
  obtain ⟨k,t⟩:=p;unfold RepKV at r ⊢;obtain ⟨v,q,rfl,r1,r2⟩:=r;exact ⟨v,q,rfl,Rep.mono l _ _ r1,ih r2⟩
theorem Ztk {es:List (Str×T)}{ds:List DictEntry}{n:Nat}{key:Str}{tk:Tok}{t:T}{v:Value}{E:Value→Shared→Prop}{Q:Unit→Shared→Prop}(hd:s.heap.get? D=some (Zn ds n))(r:RepD c Γ es ds)(nd:(es.map (·.1)).Nodup)(r':Rep c Γ t v)
  (hz:es.length≤sizeLine)
  (q:∀h' ds' n',h'.get? D=some (Zn ds' n')→RepD c Γ (dput es key t) ds'→((dput es key t).map (·.1)).Nodup→Heap.SameBut D s.heap h'→Q () { s with heap:=h',toks:=s.toks+1 }):
  wpAny (model prog c.w) A (dictSet D (.str key tk) v) Q E s:=by
 have hl:(Qo es ds).length=es.length:=by rw [←List.length_map (f:=Prod.fst),Jn r,List.length_map]
 refine wpAny_dictSet_pairs (strKind_is prog c.w key tk) (Zao (prog:=prog) hd r nd) (fun h' hx sb=>?_) (by rw [hl];exact hz);obtain ⟨ds',n',q1,q2,q3⟩:=Zbf hx ((Zbg r).put nd r');exact q h' ds' n' q1 q2 q3 sb
theorem Ztl {kx vx iter:Expr}{px pos:Pos}{ifs:List Expr}{R:Result→Shared→Prop}{l:List T}{it C D:Addr}{s₁:Shared}
  (P:Pre c A (envI c old (frs A) env L) Γ σ s) (ES:EnvS g f env) (ok:ScF f sc x) (hc:∀y,(y,NameKind.free)∈sc.names→cl.lookup y=env.cells.lookup y)
  (hT:∀e∈ifs,TSnd prog c A (compEnvC sc cl C env) G e) (hK:ESnd prog c A (compEnvC sc cl C env) G kx) (hE:ESnd prog c A (compEnvC sc cl C env) G vx)
  (ne:Qx (quiet k fun t=>evalTs G (inner L sc x t) ifs) (quiet k fun t=>Za G (inner L sc x t) kx) (quiet k fun t=>Za G (inner L sc x t) vx) [] l σ≠.stuck)
  (x₁:LI prog c A k Γ σ s it C D l Γ σ s₁) {n₁:Nat} (hD:s₁.heap.get? D=some (Zn [] n₁)) (hz:l.length≤sizeLine)
  (hR:∀Γ₁ σ₁ s₁ acc ds m,LE c A Γ σ s C D Γ₁ σ₁ s₁→s₁.heap.get? D=some (Zn ds m)→RepD c Γ₁ acc ds→(acc.map (·.1)).Nodup→ds.length≤sizeLine→
   Qx (quiet k fun t=>evalTs G (inner L sc x t) ifs) (quiet k fun t=>Za G (inner L sc x t) kx) (quiet k fun t=>Za G (inner L sc x t) vx) [] l σ=.ok acc σ₁→R (.ok .next) s₁):
  codeAny (model prog c.w) A (.compLoop (.DictComp kx vx [⟨.Name x px,iter,ifs,0⟩] sc pos) 0 (.ref it) (.ref D) (compEnvC sc cl C env)) R s₁:=by
 generalize hF:(quiet k fun t=>evalTs G (inner L sc x t) ifs)=F at ne hR
 generalize hH:(quiet k fun t=>Za G (inner L sc x t) kx)=Kf at ne hR
 generalize hG:(quiet k fun t=>Za G (inner L sc x t) vx)=Gf at ne hR
 refine codeAny_compLoop_testsD (fun n s₁=>∃Γ₁ σ₁ rest acc ds m,n=rest.length∧LI prog c A k Γ σ s it C D rest Γ₁ σ₁ s₁∧s₁.heap.get? D=some (Zn ds m)∧RepD c Γ₁ acc ds∧(acc.map (·.1)).Nodup∧acc.length+rest.length≤sizeLine∧
   Qx F Kf Gf [] l σ=Qx F Kf Gf acc rest σ₁) ?_ l.length ⟨Γ,σ,l,[],[],n₁,rfl,x₁,hD,RepD.nil,List.nodup_nil,by simpa using hz,rfl⟩
 rintro n s₁ ⟨Γ₁,σ₁,rest,acc,ds,m,rfl,X,hd,rl,nd,hz',e⟩
 have hl:=rl.length
 cases rest with
 |nil=>
  refine ItAt.done X.itr fun h' tk kp=>?_
  refine hR Γ₁ σ₁ _ acc ds m (X.done kp) (kp _ _ X.idd.symm hd) rl nd (by simp at hz';omega) ?_;rw [e];rfl
 |cons t r=>
  refine ItAt.item X.itr X.ni.loose fun v h₁ tk₁ rv itr kp=>?_
  have X₁:=X.next (tk:=tk₁) itr kp;obtain ⟨m₁,hm₁⟩:=X₁.ns;have hd₁:=kp _ _ X.idd.symm hd;refine wpAny_assign_Name (wpAny_storeName_local (env:=compEnvC sc cl C env) (by rw [Zb2,ok.loc];rfl) hm₁ (fun h₂ hn₂ sb=>?_) (by rw [show (compEnvC sc cl C env).scope.kind=.function from ok.kind];rfl));have X₂:=X₁.store (tk:=tk₁+1) hn₂ sb;have hd₂:=(sb.2 D X.cd.symm).trans hd₁;have P₂:=X₂.pre P;have E₂:EnvR c old Γ₁ h₂ (frs A) env L:=P₂.inv
  have PI:Pre c A (envI c s.heap (frs A) (compEnvC sc cl C env) (inner L sc x t)) Γ₁ σ₁ { s₁ with heap:=h₂,toks:=tk₁+1 }:=
   ⟨P₂.st,P₂.fr,E₂.comp ES ok hc hn₂ (if_pos rfl) X₂.nc.loose rv⟩
  rw [Qx] at e;have neF:F t σ₁≠.stuck:=M.bind_ne (f:=_) (by rw [←e];exact ne);subst hF;refine wpAny_mono (Zcr (Snd.tests fun e he=>hT e he s.heap (inner L sc x t)) PI neF Zkj) (fun b s₃ q=>?_) fun _ _ q=>q
  obtain ⟨a,σ₃,_,eq,ep,Γ₃,sm,S₃,y₃,rb⟩:=q;cases rb;have X₃:=X₂.steps hd₂ P sm S₃ y₃ ep;have hd₃:s₃.heap.get? D=some (Zn ds m):=y₃.keep _ _ hd₂ X₂.nd.loose.2.2 X₂.nd.loose.2.1 X₂.nd.nf;rw [M.bind_ok eq] at e
  cases b with
  |false=>
   simp only [Bool.false_eq_true,if_false] at e ⊢;exact ⟨r.length,by simp,Γ₃,σ₃,r,acc,ds,m,rfl,X₃,hd₃,RepD.mono y₃.le _ _ rl,nd,by simp at hz';omega,e⟩
  |true=>
   simp only [if_true] at e ⊢;have hn₃:=(y₃.ns X₂.nc.loose hn₂).1;have P₃:=X₃.pre P;have E₃:EnvR c old Γ₃ s₃.heap (frs A) env L:=P₃.inv;have PI₃:Pre c A (envI c s.heap (frs A) (compEnvC sc cl C env) (inner L sc x t)) Γ₃ σ₃ s₃:=⟨P₃.st,P₃.fr,E₃.comp ES ok hc hn₃ (if_pos rfl) X₃.nc.loose (Rep.mono y₃.le _ _ rv)⟩;have neK:Kf t σ₃≠.stuck:=M.bind_ne (f:=_) (by rw [←e];exact ne);subst hH;refine wpAny_mono (Zcr (hK s.heap (inner L sc x t)).weak PI₃ neK Zki) (fun kv s₄ q=>?_) fun _ _ q=>q
   obtain ⟨kt,σ₄,_,eq₄,ep₄,Γ₄,sm₄,S₄,y₄,rk⟩:=q;rw [M.bind_ok eq₄] at e;obtain ⟨kt,kk⟩:=kt;have:∃key,kt=.str key:=by
    rw [e] at ne;cases kt<;>first | (exact absurd rfl ne;done) | exact ⟨_,rfl⟩
   obtain ⟨key,rfl⟩:=this;obtain ⟨ktk,rfl⟩:=(rk.rep (fun _ q=>by cases q)).str_inv;dsimp only at e;have X₄:=X₃.steps hd₃ P sm₄ S₄ y₄ ep₄;have hd₄:s₄.heap.get? D=some (Zn ds m):=y₄.keep _ _ hd₃ X₃.nd.loose.2.2 X₃.nd.loose.2.1 X₃.nd.nf;have hn₄:=(y₄.ns X₃.nc.loose hn₃).1;have P₄:=X₄.pre P;have E₄:EnvR c old Γ₄ s₄.heap (frs A) env L:=P₄.inv;have PI₄:Pre c A (envI c s.heap (frs A) (compEnvC sc cl C env) (inner L sc x t)) Γ₄ σ₄ s₄:=⟨P₄.st,P₄.fr,E₄.comp ES ok hc hn₄ (if_pos rfl) X₄.nc.loose (Rep.mono (y₃.le.trans y₄.le) _ _ rv)⟩;have neG:Gf t σ₄≠.stuck:=M.bind_ne (f:=_) (by rw [←e];exact ne);subst hG;refine wpAny_mono (Zcr (hE s.heap (inner L sc x t)).toRF PI₄ neG Zem) (fun w s₅ q=>?_) fun _ _ q=>q
   obtain ⟨b,σ₅,_,eq₅,ep₅,Γ₅,sm₅,S₅,y₅,rb⟩:=q;rw [M.bind_ok eq₅] at e;have X₅:=X₄.steps hd₄ P sm₅ S₅ y₅ ep₅;have hd₅:s₅.heap.get? D=some (Zn ds m):=y₅.keep _ _ hd₄ X₄.nd.loose.2.2 X₄.nd.loose.2.1 X₄.nd.nf;have hs:b.2≠.h:=by
    intro q;apply ne;rw [e];show M.bind _ _ σ₅=_;unfold M.bind solid;rw [if_pos q];rfl
   have rw':Rep c Γ₅ b.1 w:=by
    rcases rb with ⟨q,_⟩ | ⟨_,q⟩
    ·exact absurd q hs
    ·exact q
   have es:solid b σ₅=.ok b σ₅:=by unfold solid;rw [if_neg hs];rfl
   rw [M.bind_ok es] at e;have le35:=y₃.le.trans (y₄.le.trans y₅.le);refine Ztk hd₅ (RepD.mono le35 _ _ rl) nd rw' (by simp at hz';omega) fun h₆ ds' n' q1 q2 q3 sb=>?_
   have X₆:=X₅.fill (tk:=s₅.toks+1) sb;have dl:=Zgo (es:=acc) (k:=key) (t:=b.1);exact ⟨r.length,by simp,Γ₅,σ₅,r,dput acc key b.1,ds',n',rfl,X₆,q1,q2,q3,by simp at hz';omega,e⟩
theorem Zks {kx vx iter:Expr}{px pos pos':Pos}{ifs:List Expr}{use:Option (Value→Sem Unit)}{Q E:Value→Shared→Prop}(P:Pre c A (envI c old (frs A) env L) Γ σ s)(ES:EnvS g f env)(ok:ScF f sc x)
  (hi:Snd prog c A (envI c old (frs A) env L) (RV c (frs A)) (Za G L iter) (eval iter env))
  (hT:∀cl C,(EnvS (isK' sc .globalImplicit) (isK' sc .free) (compEnvC sc cl C env))→∀e∈ifs,TSnd prog c A (compEnvC sc cl C env) G e)
  (hK:∀cl C,(EnvS (isK' sc .globalImplicit) (isK' sc .free) (compEnvC sc cl C env))→ESnd prog c A (compEnvC sc cl C env) G kx)
  (hE:∀cl C,(EnvS (isK' sc .globalImplicit) (isK' sc .free) (compEnvC sc cl C env))→ESnd prog c A (compEnvC sc cl C env) G vx)
  (hs:∀v,foldedSetIterable iter env v=pure v)
  (ne:Za G L (.DictComp kx vx [⟨.Name x px,iter,ifs,0⟩] sc pos) σ≠.stuck)
  (hX:∀v s',EOf c A Γ σ s (Za G L (.DictComp kx vx [⟨.Name x px,iter,ifs,0⟩] sc pos) σ) v s'→E v s')
  (hQ:∀Γ₁ σ₁ s₁ acc ds m C D,LE c A Γ σ s C D Γ₁ σ₁ s₁→(D == sysModules)=false→s₁.heap.get? D=some (Zn ds m)→RepD c Γ₁ acc ds→(acc.map (·.1)).Nodup→ds.length≤sizeLine→
   Za G L (.DictComp kx vx [⟨.Name x px,iter,ifs,0⟩] sc pos) σ=.ok (.dict acc,.own) σ₁→compPost (model prog c.w) A E use Q (.ref D) C (.ok .next) s₁) (fa:Facts c):
  wpAny (model prog c.w) A (comprehension (.DictComp kx vx [⟨.Name x px,iter,ifs,0⟩] sc pos) sc env pos' newDict false (eval iter env) use) Q E s:=by
 obtain ⟨cl,hcl,hc,_⟩:=Zgy (scope:=sc) (env:=env) fun p hp hk=>(ES.cell p.1 (ok.free p hp hk)).2
 refine wpAny_comprehension_free rfl hs hcl ok.kind (Ziv ok) ?_;rw [Za] at ne hX hQ;refine wpAny_mono (seq P ne hi.toRF (K:=_) ?_) (fun _ _ q=>q) hX;intro a σ₁ Γ₁ v s₁ _ y1 y2 P₁ r ne1 e1;obtain ⟨t,k⟩:=a;obtain ⟨l,hl⟩:=Zct ne1;have e2:(do let l ←Qm (t,k).1;Zcd l (t,k).2 (fun t=>evalTs G (inner L sc x t) ifs) (fun t=>Za G (inner L sc x t) kx) (fun t=>Za G (inner L sc x t) vx)) σ₁=Zcd l k (fun t=>evalTs G (inner L sc x t) ifs) (fun t=>Za G (inner L sc x t) kx) (fun t=>Za G (inner L sc x t) vx) σ₁:=by
  show M.bind (Zl (Za1 t)) _ σ₁=_;rw [hl];rfl
 rw [e2] at ne1 e1;unfold Zcd at ne1;have ne3:=M.bind_ne ne1;refine Zf5 P₁ r hl fun o q=>?_
 have z1:(s₁.heap.push o).objs.size=s₁.heap.objs.size+1:=Heap.size_push ..;refine wpAny_newObj_type (wpAny_newFunctionEnv ok.cell (by intro y hy;simp at hy) (fun h₁ hns₁ hsb₁=>?_) ok.kind);dsimp only at hns₁ hsb₁ ⊢;have z2:((s₁.heap.push o).push (Zn [] 0)).objs.size=s₁.heap.objs.size+2:=by rw [Heap.size_push,z1]
 have z2':((s₁.heap.push o).push { cls:=Value.type "dict",data:=Data.dict #[] }).objs.size=s₁.heap.objs.size+2:=z2;rw [z2'] at hns₁ hsb₁;obtain ⟨X,hD⟩:=LI.start (tk:=s₁.toks+([]:List (Str×Value)).length) (oD:=Zn [] 0) P₁ q rfl hns₁ hsb₁;have nm:(s₁.heap.objs.size+1 == sysModules)=false:=by
  have:=Heap.notMods (h:=s₁.heap.push o) fa fun b o' e=>Z6 _ _ (P₁.st.kept _ _ e)
  rw [z1] at this;exact this
 have fin:∀Γ₂ σ₂ s₂ acc ds m,LE c A Γ₁ σ₁ s₁ (s₁.heap.objs.size+2) (s₁.heap.objs.size+1) Γ₂ σ₂ s₂→s₂.heap.get? (s₁.heap.objs.size+1)=some (Zn ds m)→RepD c Γ₂ acc ds→(acc.map (·.1)).Nodup→ds.length≤sizeLine→
   Qx (quiet k fun t=>evalTs G (inner L sc x t) ifs) (quiet k fun t=>Za G (inner L sc x t) kx) (quiet k fun t=>Za G (inner L sc x t) vx) [] l σ₁=.ok acc σ₂→compPost (model prog c.w) A E use Q (.ref (s₁.heap.objs.size+1)) (s₁.heap.objs.size+2) (.ok .next) s₂:=by
  intro Γ₂ σ₂ s₂ acc ds m X₂ hd rl nd hz et;refine hQ Γ₂ σ₂ s₂ acc ds m _ _ (X₂.back P y1 y2) nm hd rl nd hz ?_;refine e1.trans ?_;unfold Zcd;rw [M.bind_ok et];rfl
 have S':EnvS (isK' sc .globalImplicit) (isK' sc .free) (compEnvC sc cl (s₁.heap.objs.size+2) env):=ES.comp ok hc;have loop:=Ztl (px:=px) (pos:=pos) (iter:=iter) P₁ ES ok hc (fun e he=>hT cl _ S' e he) (hK cl _ S') (hE cl _ S') ne3 X (n₁:=0) hD (Zjn P₁ r hl) fin;have D1:(s₁.heap.push o).objs.size=s₁.heap.objs.size+1:=z1;show codeAny _ _ (.compStart _ 0 _ _ (compEnvC sc cl ((s₁.heap.push o).push { cls:=Value.type "dict",data:=Data.dict #[] }).objs.size env)) _ _;rw [z2',D1];refine codeAny_compStart_dict ?_ ?_
 ·exact loop
 ·exact ItAt.self X.itr loop
theorem Snd.dictcomp {kx vx iter:Expr}{px pos:Pos}{ifs:List Expr}(fa:Facts c)(ES:EnvS g f env)(ok:ScF f sc x)
  (hi:ESnd prog c A env G iter)
  (hT:∀cl C,(EnvS (isK' sc .globalImplicit) (isK' sc .free) (compEnvC sc cl C env))→∀e∈ifs,TSnd prog c A (compEnvC sc cl C env) G e)
  (hK:∀cl C,(EnvS (isK' sc .globalImplicit) (isK' sc .free) (compEnvC sc cl C env))→ESnd prog c A (compEnvC sc cl C env) G kx)
  (hE:∀cl C,(EnvS (isK' sc .globalImplicit) (isK' sc .free) (compEnvC sc cl C env))→ESnd prog c A (compEnvC sc cl C env) G vx)
  (hs:∀v,foldedSetIterable iter env v=pure v):ESnd prog c A env G (.DictComp kx vx [⟨.Name x px,iter,ifs,0⟩] sc pos):=by
 intro old L Γ σ s P ne;rw [arm_eval_DictComp];refine Zks P ES ok (hi old L) hT hK hE hs ne (fun _ _ q=>q) ?_ fa;intro Γ₁ σ₁ s₁ acc ds m C D X nm hd rl nd hz e;refine ⟨_,X.ns.choose_spec,fun h' sb=>X.qof sb s₁.toks e ?_⟩;refine ⟨[D],⟨D,ds,m,rfl,rfl,nm,(sb.2 D X.cd.symm).trans hd,hz,nd,rl,X.nd.loose,X.nd.nf⟩,fun a ha=>?_⟩;simp at ha;subst ha;exact X.nd.new
end
section
variable {prog:Program}{c:Cx}{A:Around}{I:Inv (frs A)}{Γ Γ₁ Γ₂:Gh}{σ σ₁ σ₂:Sg}{s s₁ s₂:Shared}{env:PySem.Env}{L:Ev}{G:Calls}{E:Value→Shared→Prop}
theorem Snd.dict0 {pos:Pos}(fa:Facts c):Snd prog c A I (RV c (frs A)) (Za G L (.Dict [] [] pos)) (eval (.Dict [] [] pos) env):=by
 intro Γ σ s P ne;have e0:Za G L (.Dict [] [] pos) σ=.ok (.dict [],.own) σ:=by
  rw [Za,evalKs,evalVs];rfl
 rw [e0];rw [arm_eval_Dict];refine wpAny_bind (wpAny_standAt ?_);show wpAny _ _ newDict _ _ s;refine wpAny_newObj_type ?_;exact Zs0 fa P RepD.nil (by decide) List.nodup_nil 0 s.toks rfl
theorem Snd.dict1 {ke ve:Expr}{pos:Pos}(fa:Facts c)(hk:Snd prog c A I (RV c (frs A)) (Za G L ke) (eval ke env))(hv:Snd prog c A I (RV c (frs A)) (Za G L ve) (eval ve env)):
  Snd prog c A I (RV c (frs A)) (Za G L (.Dict [some ke] [ve] pos)) (eval (.Dict [some ke] [ve] pos) env):=by
 intro Γ σ s P ne;have e0:Za G L (.Dict [some ke] [ve] pos)=(Za G L ke>>=fun a=>strM a>>=fun x=>(Za G L ve>>=Mine.solid)>>=fun t=>ownV (.dict [(x,t.1)])):=by
  rw [Za,evalKs,evalKs,evalVs,evalVs,Zkc];unfold kvM;simp only [M.assoc,kvM];rfl
 rw [e0] at ne ⊢;refine wpAny_Dict_pairs (knd:=strKind prog c.w) (pairs:=[(eval ke env,do let x ←eval ve env;standAt pos;pure x)]) rfl (List.cons_ne_nil _ _) (by simp) ?_;obtain ⟨P',x0,sm0⟩:=P.push (Zn [] 0) s.toks;have nn:=Qp s.heap;have nw:New A s.heap Γ s.heap.objs.size:=⟨P.st.loose nn,P.fr.fresh nn,nn⟩;have hd0:(s.heap.push (Zn [] 0)).get? s.heap.objs.size=some (Zn [] 0):=Heap.get?_push_size _ rfl;have nm:=Heap.notMods fa P.st.kept;refine evalPairs_cons (wpAny_mono (seq (f:=fun a=>strM a>>=fun x=>(Za G L ve>>=Mine.solid)>>=fun t=>ownV (.dict [(x,t.1)])) P' ne hk.weak (K:=_) ?_) (fun _ _ q=>q) fun _ _ q=>q.back P sm0 x0);intro a σ₁ Γ₁ va s₁ _ y1 y2 P₁ ra ne1 e1;obtain ⟨ta,kk⟩:=a;have:∃key,ta=.str key:=by
  cases ta<;>first | (exact absurd rfl ne1;done) | exact ⟨_,rfl⟩
 obtain ⟨key,rfl⟩:=this;obtain ⟨tk,rfl⟩:=(ra.rep (fun _ q=>by cases q)).str_inv;have e2:(strM (T.str key,kk)>>=fun x=>(Za G L ve>>=Mine.solid)>>=fun t=>ownV (.dict [(x,t.1)])) σ₁=((Za G L ve>>=Mine.solid)>>=fun t=>ownV (.dict [(key,t.1)])) σ₁:=rfl;rw [e2] at ne1 e1;have hd1:=y2.keep _ _ hd0 nw.loose.2.2 nw.loose.2.1 nw.nf;have nw1:New A s.heap Γ₁ s.heap.objs.size:=nw.step y2 hd0;refine wpAny_bind (wpAny_mono (seq (f:=fun t=>ownV (.dict [(key,t.1)])) P₁ ne1 hv.solid (K:=_) ?_) (fun _ _ q=>q) fun _ _ q=>by rw [e1];exact (q.back P' y1 y2).back P sm0 x0);intro b σ₂ Γ₂ vb s₂ _ z1 z2 P₂ rb ne2 e3;refine wpAny_bind (wpAny_standAt (wpAny_pure ?_));refine evalPairs_nil ?_;have hd2:=z2.keep _ _ hd1 nw1.loose.2.2 nw1.loose.2.1 nw1.nf;have nw2:New A s.heap Γ₂ s.heap.objs.size:=nw1.step z2 hd1;refine ⟨[(key,vb)],⟨strKind_is prog c.w key tk,rfl,trivial⟩,Zao (prog:=prog) (c:=c) (Γ:=Γ₂) (es:=[]) hd2 RepD.nil List.nodup_nil,fun h' hx sb=>?_⟩;have hr:RepKV c Γ₂ [(key,b.1)] (merged [] [(key,vb)]):=⟨vb,[],rfl,rb.2,rfl⟩;obtain ⟨ds',n',q1,q2,q3⟩:=Zbf hx hr;have yy:Step (frs A) Γ σ s.heap Γ₂ σ₂ s₂.heap:=Step.trans P.st x0 (Step.trans P'.st y2 z2);obtain ⟨S',y'⟩:=Zar P₂.st yy nw2.new nw2.loose sb;refine ⟨(.dict [(key,b.1)],.own),σ₂,by rw [e1,e3];rfl,Γ₂,(sm0.trans (y1.trans z1)).trans ⟨h',_,rfl⟩,S',y',[s.heap.objs.size],⟨_,ds',n',rfl,rfl,nm,q1,?_,q3,q2,nw2.loose,nw2.nf⟩,fun a ha=>?_⟩
 ·rw [q2.length,Z3];simp
 ·simp at ha;subst ha;exact nn
theorem Snd.fmt {e:Expr}{pos:Pos}(h:Snd prog c A I (RV c (frs A)) (Za G L e) (eval e env)):
  Snd prog c A I (RV c (frs A)) (Za G L (.FormattedValue e (-1) none pos)) (eval (.FormattedValue e (-1) none pos) env):=by
 intro Γ σ s P ne;rw [Za] at ne ⊢;refine FormattedValue_plain (seq P ne h.weak ?_);intro a σ₁ Γ₁ v s₁ h0 y1 y2 P₁ r ne1 e1;rw [e1];obtain ⟨t,k⟩:=a;cases t<;>first | (exact absurd rfl ne1;done) | skip
 rename_i i;obtain ⟨u,rfl⟩:=(r.rep (fun _ q=>by cases q)).int_inv;have e2:fmtM (.int i,k) σ₁=(if Zj i then val (.str (Zg i)) else stuck) σ₁:=rfl;rw [e2] at ne1 ⊢
 by_cases hs:Zj i=true
 ·rw [if_pos hs];exact Qn Qb P y1 y2 (formatField_int_small (Zht hs) (Zu P₁ Rep.str _ rfl))
 ·rw [if_neg hs] at ne1;exact absurd rfl ne1
theorem Zsp {e:Expr}{es:List Expr}:evalEach (e::es) env=eval e env::evalEach es env:=rfl
theorem Zrl {es:List Expr}(h:∀e∈es,Snd prog c A I (RV c (frs A)) (Za G L e) (eval e env)):∀{out:Str} {Γ:Gh} {σ:Sg} {s:Shared},Pre c A I Γ σ s→out.length≤Zc→(evalJ G L es out>>=fun x=>val (.str x)) σ≠.stuck→
  wpAny (model prog c.w) A (joinParts out (evalEach es env)) (QOf c A Γ σ s (RV c (frs A)) ((evalJ G L es out>>=fun x=>val (.str x)) σ)) (EOf c A Γ σ s ((evalJ G L es out>>=fun x=>val (.str x)) σ)) s:=by
 have hS:Zc=1000:=rfl
 induction es with
 |nil=>
  intro out Γ σ s P ho ne;rw [evalJ] at ne ⊢;exact joinParts_nil (Zu P Rep.str _ rfl) (by rw [Z3];omega)
 |cons e es ih=>
  intro out Γ σ s P ho ne;have e0:(evalJ G L (e::es) out>>=fun x=>val (.str x))=(Za G L e>>=fun a=>strM a>>=fun x=>(if (out++x).length≤Zc then evalJ G L es (out++x) else stuck)>>=fun x=>val (.str x)):=by
   rw [evalJ,M.assoc];congr 1;funext a;rw [M.assoc]
  rw [e0] at ne ⊢;rw [Zsp];refine joinParts_cons (seq P ne (h e (by simp)).weak ?_);intro a σ₁ Γ₁ v s₁ h0 y1 y2 P₁ r ne1 e1;rw [e1];obtain ⟨t,k⟩:=a;cases t<;>first | (exact absurd rfl ne1;done) | skip
  rename_i x;obtain ⟨u,rfl⟩:=(r.rep (fun _ q=>by cases q)).str_inv;have e2:(strM (T.str x,k)>>=fun x=>(if (out++x).length≤Zc then evalJ G L es (out++x) else stuck)>>=fun x=>val (.str x)) σ₁=((if (out++x).length≤Zc then evalJ G L es (out++x) else stuck)>>=fun x=>val (.str x)) σ₁:=rfl;rw [e2] at ne1 ⊢
  by_cases hx:(out++x).length≤Zc
  ·rw [if_pos hx] at ne1 ⊢;exact ⟨by rw [Z3];omega,Qn Qb P y1 y2 (ih (fun e he=>h e (by simp [he])) P₁ hx ne1)⟩
  ·rw [if_neg hx] at ne1;exact absurd rfl ne1
theorem Snd.joined {es:List Expr}{pos:Pos}(hl:2≤es.length)(h:∀e∈es,Snd prog c A I (RV c (frs A)) (Za G L e) (eval e env)):
  Snd prog c A I (RV c (frs A)) (Za G L (.JoinedStr es pos)) (eval (.JoinedStr es pos) env):=by
 intro Γ σ s P ne;rw [Za] at ne ⊢;obtain ⟨v₁,v₂,rest,rfl⟩:∃v₁ v₂ rest,es=v₁::v₂::rest:=by
  match es,hl with
  |v₁::v₂::rest,_=>exact ⟨v₁,v₂,rest,rfl⟩
 refine JoinedStr_many ?_;exact Zrl h P (by decide) ne
end
structure FnI where
 params:List Str
 body:List Stmt
 scope:Scope
def fnI? (n:Str):Stmt→Option FnI
 |.FunctionDef m a b _ _ _ sc ..=>if m=n then some ⟨a.args.map (·.arg),b,sc⟩ else none
 |_=>none
structure FnAt (c:Cx) (I:FnI) (fa:Addr) (cd:Value) (qn:Str):Prop where
 at_:∃o fd,c.base.get? fa=some o∧o.data=.func fd∧fd.body=.stmts I.body∧fd.scope=I.scope∧fd.globals=mainGlobals∧fd.closure=[]∧fd.builtins=builtinsNs∧c.base.CodeRec fd.code fd.qualname∧fd.code=cd∧fd.qualname=qn∧
  ∀(s:Shared) (vals:List Value),(∀b o,c.base.get? b=some o→s.heap.get? b=some o)→vals.length=I.params.length→BindsTo s fd ⟨vals,[]⟩ (I.params.zip vals)
def fnOk (I:FnI):Bool:=
 I.scope.kind == .function&&!I.scope.isCoroutine&&!I.scope.isGenerator&&decide (I.params.Nodup)&&decide ((I.scope.names.map (·.1)).Nodup)&&I.scope.names.all (fun p=>!(p.2 == .free))&&I.params.all (fun x=>isK' I.scope .local x||isK' I.scope .cell x)
structure FnF (I:FnI):Prop where
 kind:I.scope.kind=.function
 co:I.scope.isCoroutine=false
 gen:I.scope.isGenerator=false
 pnd:I.params.Nodup
 nd:(I.scope.names.map (·.1)).Nodup
 free:∀p∈I.scope.names,p.2≠.free
 par:∀x∈I.params,I.scope.names.lookup x=some .local∨I.scope.names.lookup x=some .cell
theorem Zr9 {I:FnI}(h:fnOk I=true):FnF I:=by
 simp only [fnOk,isK',Bool.and_eq_true,decide_eq_true_eq,List.all_eq_true,Bool.not_eq_true',Bool.or_eq_true,beq_iff_eq,beq_eq_false_iff_ne,ne_eq] at h;obtain ⟨⟨⟨⟨⟨⟨h1,h2⟩,h3⟩,h4⟩,h5⟩,h6⟩,h7⟩:=h;exact ⟨h1,h2,h3,h4,h5,h6,h7⟩
theorem Zg9 {x:Str}{v:Value}:∀{xs:List Str} {vs:List Value} {i:Nat},xs.Nodup→xs[i]?=some x→vs[i]?=some v→(xs.zip vs).lookup x=some v
 |[],_,_,_,h,_=>by cases h
 |_::_,[],_,_,_,h=>by cases h
 |y::xs,w::vs,i,nd,h1,h2=>by
  rw [List.nodup_cons] at nd;rw [List.zip_cons_cons,List.lookup_cons]
  cases i with
  |zero=>cases h1;cases h2;simp
  |succ i=>
   simp only [List.getElem?_cons_succ] at h1 h2;have:(x == y)=false:=by
    simp only [beq_eq_false_iff_ne,ne_eq];rintro rfl;exact nd.1 (List.mem_of_getElem? h1)
   rw [this];exact Zg9 nd.2 h1 h2
theorem Zlb {kf:Str→Option NameKind}{x:Str}{v:Value}(hk:kf x=some .local):∀{bs:List (Str×Value)} {m:Str→Option Value},(bs.map (·.1)).Nodup→(bs.lookup x=some v∨((∀p∈bs,p.1≠x)∧m x=some v))→bindL kf bs m x=some v
 |[],m,_,h=>by
  rcases h with h | h
  ·cases h
  ·exact h.2
 |(n,w)::r,m,nd,h=>by
  rw [List.map_cons,List.nodup_cons] at nd;unfold bindL;refine Zlb hk nd.2 ?_;rcases h with h | ⟨h1,h2⟩
  ·rw [List.lookup_cons] at h
   by_cases q:x=n
   ·subst q;simp only [beq_self_eq_true] at h;cases h;refine .inr ⟨fun p hp e=>nd.1 (List.mem_map.mpr ⟨p,hp,e⟩),?_⟩;rw [if_pos hk];exact if_pos rfl
   ·have:(x == n)=false:=by simpa using q
    rw [this] at h;exact .inl h
  ·refine .inr ⟨fun p hp=>h1 p (by simp [hp]),?_⟩;have q:=h1 (n,w) (by simp);split
   ·show (if x=n then some w else m x)=some v;rw [if_neg (fun e=>q e.symm)];exact h2
   ·exact h2
theorem Zle {kf:Str→Option NameKind}{x:Str}{v:Value}(hk:kf x≠some .local):∀{bs:List (Str×Value)} {m:Str→Option Value},(bs.map (·.1)).Nodup→(bs.lookup x=some v∨((∀p∈bs,p.1≠x)∧m x=some v))→bindC kf bs m x=some v
 |[],m,_,h=>by
  rcases h with h | h
  ·cases h
  ·exact h.2
 |(n,w)::r,m,nd,h=>by
  rw [List.map_cons,List.nodup_cons] at nd;unfold bindC;refine Zle hk nd.2 ?_;rcases h with h | ⟨h1,h2⟩
  ·rw [List.lookup_cons] at h
   by_cases q:x=n
   ·subst q;simp only [beq_self_eq_true] at h;cases h;refine .inr ⟨fun p hp e=>nd.1 (List.mem_map.mpr ⟨p,hp,e⟩),?_⟩;rw [if_neg hk];exact if_pos rfl
   ·have:(x == n)=false:=by simpa using q
    rw [this] at h;exact .inl h
  ·refine .inr ⟨fun p hp=>h1 p (by simp [hp]),?_⟩;have q:=h1 (n,w) (by simp);split
   ·exact h2
   ·show (if x=n then some w else m x)=some v;rw [if_neg (fun e=>q e.symm)];exact h2
section
variable {prog:Program}{c:Cx}{A₀:Around}{Γ₀:Gh}{σ₀:Sg}{s₀:Shared}{G:Calls}
theorem Zha {x:Str}{t:T}:∀{xs:List Str} {ts:List T},Jz xs ts x=some t→∃i:Nat,xs[i]?=some x∧ts[i]?=some t
 |[],_,h=>by cases h
 |_::_,[],h=>by cases h
 |y::xs,u::ts,h=>by
  unfold Jz upd at h
  by_cases q:x=y
  ·subst q;rw [if_pos rfl] at h;cases h;exact ⟨0,rfl,rfl⟩
  ·rw [if_neg q] at h;obtain ⟨i,h1,h2⟩:=Zha h;exact ⟨i+1,h1,h2⟩
theorem Zgc {A:Around}{env:PySem.Env}{F:Addr}(fr:∃l,A.frames=some l)(hf:env.frame=some F):frs (A.deeper env)=F::frs A:=by
 obtain ⟨l,hl⟩:=fr;unfold frs;rw [Around.frames_deeper hl,hl];simp only [Option.getD_some,List.filterMap_cons,hf]
theorem Zsx {ts:List T}{vals:List Value}{I:FnI}(ok:FnF I)(P:Pre c A₀ (Inv.top _) Γ₀ σ₀ s₀)(rl:RepL c Γ₀ ts vals)(hlen:I.params.length=vals.length){env:PySem.Env}{qual:Str}{fn:Option Addr}{code:Value}(mv:List Str)(hot:Bool)
  (he:env=newEnv I.scope s₀.heap.objs.size mainGlobals (cellsFrom (s₀.heap.objs.size+1) I.scope.names []) qual fn code none builtinsNs) {s:Shared}
  (x:InCallC s₀ env.locals (bindL env.kindOf (I.params.zip vals) fun _=>none) env.cells (bindC env.kindOf (I.params.zip vals) fun _=>none) s):
  SPre c A₀ (A₀.deeper env) env { loc:=Jz I.params ts,mv:=mv,hot:=hot } Γ₀ σ₀ s₀ Γ₀ σ₀ s:=by
 have hL:env.locals=s₀.heap.objs.size:=by rw [he];rfl
 have hF:env.frame=some env.locals:=by rw [he];rfl
 have hK:env.scope=I.scope:=by rw [he];rfl
 have hC:env.cells=cellsFrom (s₀.heap.objs.size+1) I.scope.names []:=by rw [he];rfl
 have kOf:∀y,env.kindOf y=I.scope.names.lookup y:=fun y=>by show env.scope.names.lookup y=_;rw [hK]
 obtain ⟨h',tk,rfl,kp⟩:=x.done;have fresh:∀a,s₀.heap.objs.size≤a→s₀.heap.get? a=none:=fun a ha=>Heap.get?_none_of_le ha
 have nL:s₀.heap.get? env.locals=none:=by rw [hL];exact fresh _ (Nat.le_refl _)
 have cellN:∀y ca,env.cells.lookup y=some ca→s₀.heap.get? ca=none:=fun y ca e=>fresh _ (Nat.le_of_lt (by have:=x.above y ca (J4 e);rw [hL] at this;exact this))
 have names:(I.params.zip vals).map (·.1)=I.params:=by
  rw [List.map_fst_zip];exact Nat.le_of_eq hlen
 have nd:((I.params.zip vals).map (·.1)).Nodup:=by rw [names];exact ok.pnd
 have fr':frs (A₀.deeper env)=env.locals::frs A₀:=by
  obtain ⟨⟨l,hl,_⟩,_⟩:=P.fr;exact Zgc ⟨l,hl⟩ hF
 refine ⟨P.st,⟨h',tk,rfl⟩,P.st.keeps kp,?_,?_,Step.keeps kp P.st,?_,?_,hF,?_,?_,nL,?_,?_,?_,?_⟩
 ·obtain ⟨⟨l,hl,hF'⟩,hh⟩:=P.fr;refine ⟨⟨env::l,Around.frames_deeper hl,fun e he'=>?_⟩,hh⟩;rcases List.mem_cons.mp he' with rfl | he'
  ·obtain ⟨o,es,ep,q1,q2,_⟩:=x.toInCall.ns;exact ⟨by rw [hK,ok.kind];decide,_,o,hF,q1,(fun vs q=>by rw [q2] at q;cases q),P.st.loose nL⟩
  ·obtain ⟨h1,F,o,h2,h3,h4,h5⟩:=hF' e he';exact ⟨h1,F,o,h2,kp _ _ h3,h4,h5⟩
 ·have ow:OwnsOk c s₀.heap Γ₀ h' (frs (A₀.deeper env)) env (bindL env.kindOf (I.params.zip vals) fun _=>none) []:=by
   refine ⟨fun _=>[],?_,?_,?_,?_⟩
   ·intro p hp;cases hp
   ·intro p hp;cases hp
   ·exact List.nodup_nil
   ·intro p hp;cases hp
  refine ⟨by rw [hK];exact ok.kind,by rw [he];rfl,by rw [he];rfl,_,x.toInCall.ns,P.st.loose nL,fun y t hy=>?_,ow⟩;obtain ⟨i,h1,h2⟩:=Zha hy;obtain ⟨v,h3,h4⟩:=rl.get h2;have hz:=Zg9 ok.pnd h1 h3;refine ⟨v,?_,h4⟩;rcases ok.par y (List.mem_of_getElem? h1) with hk | hk
  ·exact .inl ⟨(kOf y).trans hk,Zlb ((kOf y).trans hk) nd (.inl hz)⟩
  ·have hk':=(kOf y).trans hk;obtain ⟨ca,hca⟩:∃ca,env.cells.lookup y=some ca:=by
    rw [hC];exact Option.isSome_iff_exists.mp (cellsFrom_some _ _ _ (.inl hk))
   refine .inr ⟨.cell,ca,.inl rfl,hk',hca,?_,P.st.loose (cellN y ca hca)⟩;have:=x.cell y ca hca;rw [Zle (by rw [hk'];decide) nd (.inl hz)] at this;exact this
 ·rw [fr'];exact .head _
 ·obtain ⟨⟨l,hl,_⟩,_⟩:=P.fr;exact ⟨l,Around.frames_deeper hl⟩
 ·intro b hb;rw [fr'];exact .tail _ hb
 ·intro b hb;rw [fr'] at hb;rcases List.mem_cons.mp hb with rfl | hb
  ·exact .inr nL
  ·exact .inl hb
 ·intro y ca e;exact ⟨cellN y ca e,P.st.loose (cellN y ca e),_,x.cell y ca e⟩
 ·intro y z ca e1 e2;have hp:=x.apart;have m1:=J4 e1;have m2:=J4 e2;have inj:∀{l:List (Str×Addr)},(l.Pairwise fun p q=>p.2≠q.2)→∀{p q:Str×Addr},p∈l→q∈l→p.2=q.2→p=q:=by
   intro l hl
   induction hl with
   |nil=>intro p q hp;cases hp
   |cons h1 h2 ih=>
    intro p q hp hq e;rcases List.mem_cons.mp hp with p1 | p1<;>rcases List.mem_cons.mp hq with q1 | q1
    ·exact p1.trans q1.symm
    ·rw [p1] at e;exact absurd e (h1 _ q1)
    ·rw [q1] at e;exact absurd e.symm (h1 _ p1)
    ·exact ih p1 q1 e
  exact congrArg Prod.fst (inj hp m1 m2 rfl)
 ·intro y hk;rw [kOf] at hk;rw [hC];exact Option.isSome_iff_exists.mp (cellsFrom_some _ _ _ (.inl hk))
 ·intro y hk;rw [kOf] at hk;exact ok.free _ (J4 hk) rfl
structure EnvF (I:FnI) (env:PySem.Env):Prop where
 scope:env.scope=I.scope
 cells:∀x,I.scope.names.lookup x=some .cell→∃ca,env.cells.lookup x=some ca
theorem EnvF.envS {I:FnI}{env:PySem.Env}(E:EnvF I env):EnvS (isK' I.scope .globalImplicit) (isK' I.scope .cell) env:=by
 have kOf:∀y,env.kindOf y=I.scope.names.lookup y:=fun y=>by show env.scope.names.lookup y=_;rw [E.scope]
 refine ⟨fun x hx=>?_,fun x hx=>?_⟩
 ·rw [kOf];simpa [isK'] using hx
 ·have hx:I.scope.names.lookup x=some .cell:=by simpa [isK'] using hx
  exact ⟨.inl ((kOf x).trans hx),E.cells x hx⟩
theorem Zt8 {I:FnI}{fa:Addr}{ts:List T}{vals:List Value}{hot:Bool}{cd:Value}{qn:Str}(F:Facts c)(X:FnAt c I fa cd qn)(ok:FnF I)(P:Pre c A₀ (Inv.top _) Γ₀ σ₀ s₀)(rl:RepL c Γ₀ ts vals)(room:A₀.depth < recursionLimit)
  (hb:∀env,EnvF I env→env.code=cd→env.qual=qn++".<locals>."→SSnd prog c A₀ (A₀.deeper env) env (fun L=>execSs G I.body L) (execs I.body env))
  (ne:Zbd G hot ⟨I.params,I.body⟩ ts σ₀≠.stuck):
  wpAny (model prog c.w) A₀ (call (.ref fa) vals) (QOf c A₀ Γ₀ σ₀ s₀ (RV c (frs A₀)) (Zbd G hot ⟨I.params,I.body⟩ ts σ₀)) (EOf c A₀ Γ₀ σ₀ s₀ (Zbd G hot ⟨I.params,I.body⟩ ts σ₀)) s₀:=by
 obtain ⟨o,fd,h1,h2,h3,h4,h5,h6,h7,h8,hcd,hqn,h9⟩:=X.at_;have kp:=P.st.kept;unfold Zbd at ne ⊢;dsimp only at ne ⊢;split at ne
 ·rename_i hl;rw [if_pos hl];have hlen:I.params.length=vals.length:=hl.trans rl.length.symm;refine wpAny_call (codeAny_call_function room (kp _ _ h1) h2 (by rw [h4];exact ok.co) (by rw [h4];exact ok.gen) h3 ?_ (h9 s₀ vals kp hlen.symm _ _ _ _ ?_))
  ·obtain ⟨c',oc,vs,tq,q1,q2,q3⟩:=h8;exact ⟨c',oc,vs,tq,q1,kp _ _ q2,q3⟩
  rw [h4,h5,h6,h7];refine wpAny_newFunctionEnv_cells ok.kind (fun p hp=>?_) fun env he s x=>?_
  ·have hm:p.1∈I.params:=(List.of_mem_zip hp).1;rcases ok.par p.1 hm with q | q
   ·exact .inl q
   ·exact .inr ⟨q,cellsFrom_some _ _ _ (.inl q)⟩
  ·have SP:=Zsx (A₀:=A₀) ok P rl hlen (mutsSs I.body) hot he x;have EF:EnvF I env:=by
    refine ⟨by rw [he];rfl,fun y hy=>?_⟩;have:env.cells=cellsFrom (s₀.heap.objs.size+1) I.scope.names []:=by rw [he];rfl
    rw [this];exact Option.isSome_iff_exists.mp (cellsFrom_some _ _ _ (.inl hy))
   refine ⟨F.nolimit.keeps fun b o e=>x.toInCall.keep _ _ (kp b o e),codeAny_func ?_⟩;have ne1:=M.bind_ne ne;refine wpAny_mono (hb env EF (by rw [he];exact hcd) (by rw [he,←hqn];rfl) _ _ _ _ _ _ _ SP ne1) (fun f s' q=>?_) fun e s' q=>?_
   ·obtain ⟨o,L',σ',Γ',e1,P',fl⟩:=q;have e2:=M.bind_ok (f:=fun r=>outT r.1) e1;rw [e2] at ne;show QOf c A₀ Γ₀ σ₀ s₀ (RV c (frs A₀)) ((execSs G I.body _>>=fun r=>outT r.1) σ₀) _ s';rw [e2]
    cases o with
    |next=>
     cases (show f=.next from fl);exact ⟨_,σ',rfl,Γ',P'.same,P'.st,P'.step,Jr Rep.none'⟩
    |cont=>exact absurd rfl ne
    |ret t k=>
     obtain ⟨v,rfl,r⟩:=fl;exact ⟨_,σ',rfl,Γ',P'.same,P'.st,P'.step,r⟩
   ·refine wpAny_mono (SE.leaves (E:=fun _ _=>False) SP q) (fun _ s'' q'=>?_) fun _ _ f=>f.elim
    exact q'.cast fun m σ' e=>M.bind_exn e
 ·exact absurd rfl ne
end
end Mine
end
section
namespace Mine
open PySem PySem.W PyProof.Rows PySem.SeqAt PySem.Builtin PySem.Builtin.ObjectAttr
structure StF (K:Frag) (C:Addr) (ns:List Str):Prop where
 sa:findIn K (.ref C) "__setattr__"=some (some (.builtin "object.__setattr__"))
 cd:∃cd,clsIn K C=some cd∧cd.hasDict=true∧cd.mro.isEmpty=false∧cd.mro.contains (.type "object")=true∧∀self,refuseLoop self "__setattr__" cd.mro=pure ()
 tk:∀n∈ns,takerIn K C n=some none
section
variable {prog:Program}{w:World}{A:Around}{E:Value→Shared→Prop}{s:Shared}{K:Frag}{C x dx:Addr}{ns:List Str}{name:Str}{v:Value}
theorem Zhx {ox:Obj}{Q:Unit→Shared→Prop}(X:K.In s.heap)(f:StF K C ns)(hn:name∈ns)(hx:s.heap.get? x=some ox)(hc:ox.cls=.ref C)
  (h:∀tk b,wpAny (model prog w) A.in1 (storeInOwnDict (.ref x) (.ref C) (.str name tk) name v b) (fun fin s'=>fin=.done (.ret .none)∧Q () s') E { s with toks:=s.toks+1 }):
  wpAny (model prog w) A (setAttr (.ref x) name v) Q E s:=by
 have SF:=PySem.F.store_object;obtain ⟨cd,c1,c2,c3,c4,c5⟩:=f.cd;have ty:Looks (model prog w) s.heap (typeOf (.ref x)) (.ref C):=hc▸(Looks.ld hx).andThen .now;have sub:Looks (model prog w) s.heap (isInstance (.ref x) (.type "object")) true:=ty.andThen (looks_mroIn X (by unfold mroIn;rw [c1,Option.bind_some,if_neg (by rw [c3];decide),c4]));have mro:Looks (model prog w) s.heap (mroOf (.ref C)) cd.mro:=(looks_clsIn X c1).andThen .now;obtain ⟨attr,ha,hr⟩:=Option.bind_eq_some_iff.mp (f.tk name hn);have taker:Looks (model prog w) s.heap (storeTaker? attr) none:=by
  cases attr with
  |none=>exact .now
  |some a=>
   obtain ⟨b,hb,e⟩:=Option.map_eq_some_iff.mp hr;refine (looks_takesIn X hb).andThen ?_
   cases b with
   |true=>cases e
   |false=>exact .now
 have entry:∀tk,codeAny (model prog w) A (.call (.builtin "object.__setattr__") ⟨[.ref x,.str name tk,v],[]⟩) (fun r s'=>match r with | .ok (.ret _)=>Q () s' | .ok _=>False | .error e=>E e s') { s with toks:=s.toks+1 }:=by
  intro tk
  have look:∀{α:Type} {t:Sem α} {r:α} {Q':α→Shared→Prop} {E':Value→Shared→Prop} {A':Around},Looks (model prog w) s.heap t r→Q' r { s with toks:=s.toks+1 }→wpAny (model prog w) A' t Q' E' { s with toks:=s.toks+1 }:=
   fun L q=>L _ _ _ _ (fun _ _ e=>e) q
  refine codeAny_call_builtin SF.slot.plain SF.entry (@check_slot (model prog w) _ _ { s with toks:=s.toks+1 } "object.__setattr__" "object" "__setattr__" (.ref x) [.str name tk,v] [] _ SF.kind SF.split sub (SF.args (.ref x) (.str name tk) v) ?_);rw [osa_eq,refuse_eq];refine wpAny_bind (wpAny_bind (look ty (wpAny_bind (look mro ?_))));rw [c5];refine wpAny_pure (wpAny_bind (look ty (wpAny_bind (look (looks_findIn X ha) (wpAny_bind (look taker ?_))))));exact wpAny_mono (h tk _) (fun fin s' q=>by obtain ⟨rfl,q⟩:=q;exact q) fun _ _ q=>q
 refine wpAny_bind (wpAny_mkText (wpAny_bind (wpAny_bind (wpAny_bind (ty _ _ _ _ (fun _ _ e=>e) (looks_findIn X f.sa _ _ _ _ (fun _ _ e=>e) (wpAny_holding ?_)))))));rw [SF.slot.bind];refine wpAny_bind (wpAny_pure (wpAny_bind (wpAny_call (codeAny_mono (entry _) fun r s' z=>?_))));rcases r with e | (v | _ | _ | _)<;>first | exact z | exact wpAny_pure (wpAny_pure z)
theorem Zic {es:List DictEntry}{n:Nat}{Q:Fin→Shared→Prop}{tk:Tok}(hd:s.heap.get? dx=some (dictOf es n))(hl:(getL name es).isSome=true)(hz:es.length≤1000)
  (h:∀h',h'.get? dx=some (dictOf (putL name (PyData.keyHash w.params name) (.str name s.toks) v es) (putN name es n))→Heap.SameBut dx s.heap h'→Q (.done (.ret .none)) { s with heap:=h',toks:=s.toks+1 }):
  wpAny (model prog w) A (storeInDict dx (.str name tk) name v) Q E s:=by
 have len:(putL name (PyData.keyHash w.params name) (.str name s.toks) v es).length≤es.length+1:=by
  generalize (Value.str name s.toks)=key
  generalize PyData.keyHash w.params name=hs
  induction es with
  |nil=>simp [putL]
  |cons e es ih=>
   unfold putL;split
   ·simp
   ·have hl':(getL name es).isSome=true∨True:=.inr trivial;have:∀l:List DictEntry,(putL name hs key v l).length≤l.length+1:=by
     intro l
     induction l with
     |nil=>simp [putL]
     |cons a l ih2=>
      unfold putL;split
      ·simp
      ·simp only [List.length_cons];omega
    have:=this es;simp only [List.length_cons];omega
 have c:aRefKeyMayBeTheName name es.toArray=false:=by
  rw [aRefKeyMayBeTheName_at];rw [←Array.any_toList,←Array.any_toList];unfold getL at hl;split at hl
  ·rename_i en he;rw [List.any_eq_true.mpr ⟨en,List.mem_of_find?_eq_some he,List.find?_some he⟩];rfl
  ·split at hl
   ·cases hl
   ·rename_i z;rw [Bool.not_eq_true] at z;rw [z,Bool.and_false]
 have D':(s.heap.update dx (Obj.putName name (PyData.keyHash w.params name) (.str name s.toks) v)).get? dx=some (dictOf (putL name (PyData.keyHash w.params name) (.str name s.toks) v es) (putN name es n)):=by
  rw [Heap.get?_update_self _ hd (by rw [putName_dict];rfl),putName_dict]
 unfold storeInDict newKeyGuard;refine wpAny_bind (wpAny_pure (wpAny_bind ?_));unfold nsSet;refine wpAny_bind (wpAny_bind (wpAny_askSetting (wpAny_pure (wpAny_bind (wpAny_mkText (wpAny_bind (wpAny_loadPart hd ?_)))))));dsimp only;rw [c];refine wpAny_updatePart hd ?_;refine wpAny_bind (wpAny_lookBehind D' (pastItsLine_dict (by rw [List.size_toArray,Z3];omega)) ?_);exact wpAny_pure (h _ D' (Heap.SameBut.update ..))
theorem Zff {es:List DictEntry}{n:Nat}{Q:Unit→Shared→Prop}(X:K.In s.heap)(f:StF K C ns)(hn:name∈ns)(hx:s.heap.get? x=some (instObj C dx))(hd:s.heap.get? dx=some (dictOf es n))(hl:(getL name es).isSome=true)(hz:es.length≤1000)
  (h:∀h' tk t,h'.get? dx=some (dictOf (putL name (PyData.keyHash w.params name) (.str name t) v es) (putN name es n))→Heap.SameBut dx s.heap h'→Q () { s with heap:=h',toks:=tk }):
  wpAny (model prog w) A (setAttr (.ref x) name v) Q E s:=by
 refine Zhx X f hn hx rfl fun tk b=>?_
 obtain ⟨cd,c1,c2,_⟩:=f.cd;refine wpAny_bind (wpAny_pure (wpAny_bind (wpAny_bind (wpAny_loadPart hx (wpAny_bind (looks_clsIn (M:=model prog w) X c1 _ _ _ _ (fun _ _ e=>e) ?_))))));rw [c2];refine wpAny_pure (a:=some dx) (wpAny_bind (wpAny_pure ?_));exact Zic (s:={ s with toks:=s.toks+1 }) (tk:=tk) hd hl hz fun h' q1 q2=>⟨rfl,h h' _ _ q1 q2⟩
theorem Znj {ox:Obj}{vs:Array Value}{Q:Unit→Shared→Prop}(X:K.In s.heap)(f:StF K C ns)(hn:name∈ns)(hx:s.heap.get? x=some ox)(hc:ox.cls=.ref C)(ho:ox.dict=none)(hdat:ox.data=.fields vs)
  (h:∀h' tk t,h'.get? x=some { ox with dict:=some s.heap.objs.size }→h'.get? s.heap.objs.size=some (dictOf [⟨PyData.keyHash w.params name,.str name t,v⟩] 1)→(∀b o,b≠x→s.heap.get? b=some o→h'.get? b=some o)→Q () { s with heap:=h',toks:=tk }):
  wpAny (model prog w) A (setAttr (.ref x) name v) Q E s:=by
 refine Zhx X f hn hx hc fun tk b=>?_
 obtain ⟨cd,c1,c2,_⟩:=f.cd;obtain ⟨oc,od,oda,osl⟩:=ox;dsimp only at hc ho hdat;subst hc ho hdat;have hne:x≠s.heap.objs.size:=Nat.ne_of_lt (Heap.lt_size hx);have hx1:=Z6 (o:={ cls:=.type "dict",data:=.dict #[] }) _ _ hx;refine wpAny_bind (wpAny_pure (wpAny_bind (wpAny_bind (wpAny_loadPart hx (wpAny_bind (looks_clsIn (M:=model prog w) X c1 _ _ _ _ (fun _ _ e=>e) ?_))))));rw [c2];refine wpAny_bind (wpAny_alloc (wpAny_bind (wpAny_update hx1 (wpAny_pure (a:=some s.heap.objs.size) ?_))));have hx2:((s.heap.push { cls:=.type "dict",data:=.dict #[] }).update x fun o=>{ o with dict:=some s.heap.objs.size }).get? x=some { cls:=.ref C,dict:=some s.heap.objs.size,data:=.fields vs,slots:=osl }:=Heap.get?_update_self _ hx1 rfl
 have hd2:((s.heap.push { cls:=.type "dict",data:=.dict #[] }).update x fun o=>{ o with dict:=some s.heap.objs.size }).get? s.heap.objs.size=some (dictOf [] 0):=
  (Heap.get?_update_other _ _ hne).trans (Heap.get?_push_size _ rfl)
 refine Zic (s:={ s with heap:=(s.heap.push { cls:=.type "dict",data:=.dict #[] }).update x fun o=>{ o with dict:=some s.heap.objs.size },toks:=s.toks+1 }) (tk:=tk) (es:=[]) (n:=0) hd2 rfl (by decide) fun h' q1 q2=>⟨rfl,h h' _ _ ?_ q1 fun b o hb e=>?_⟩
 ·exact (q2.2 x hne).trans hx2
 ·exact (q2.2 b (Nat.ne_of_lt (Heap.lt_size e))).trans ((Heap.get?_update_other _ _ hb.symm).trans (Z6 _ _ e))
end
end Mine
end
section
namespace Mine
open PySem PySem.W PyProof.Rows PySem.SeqAt
inductive IE where
 |name (x:Str) | bool (b:Bool) | none | str (x:Str)
 deriving DecidableEq
def ieOf:Expr→Option IE
 |.Name x _=>if x == "__debug__" then .none else some (.name x)
 |.Constant (.bool b) _ _=>some (.bool b)
 |.Constant .none _ _=>some .none
 |.Constant (.str x) _ _=>some (.str x)
 |_=>Option.none
def Zef:List Stmt→Option (List (Str×IE))
 |[]=>some []
 |.Assign [.Attribute (.Name z _) a _] e _::r=>if z == "self" then (match ieOf e,Zef r with
  |some i,some l=>some ((a,i)::l)
  |_,_=>Option.none) else Option.none
 |_=>Option.none
def IV (m:Str→Option Value):IE→Value→Prop
 |.name x,v=>m x=some v
 |.bool b,v=>v=.bool b
 |.none,v=>v=.none
 |.str x,v=>∃t,v=.str x t
def Ents (w:World)(m:Str→Option Value):List (Str×IE)→List DictEntry→Prop
 |[],es=>es=[]
 |(a,i)::r,es=>∃t v es',es=⟨PyData.keyHash w.params a,.str a t,v⟩::es'∧IV m i v∧Ents w m r es'
theorem Zfj {name:Str}{hs:Int}{key v:Value}:∀{es:List DictEntry},(∀e∈es,∃k t,e.key=.str k t∧k≠name)→putL name hs key v es=es++[⟨hs,key,v⟩]∧(∀n,putN name es n=n+1)∧(getL name es).isSome=true
 |[],_=>⟨rfl,fun _=>rfl,rfl⟩
 |e::es,h=>by
  obtain ⟨k,t,e1,e2⟩:=h e (by simp);have hk:e.key.isStr name=false:=by
   rw [e1];simp only [Value.isStr];simpa using e2
  obtain ⟨h1,h2,h3⟩:=Zfj (name:=name) (hs:=hs) (key:=key) (v:=v) (es:=es) fun e he=>h e (by simp [he])
  refine ⟨?_,fun n=>?_,?_⟩
  ·unfold putL;rw [hk];simp [h1]
  ·have:=h2 n;unfold putN at this ⊢;rw [List.any_cons,hk,Bool.false_or];exact this
  ·unfold getL at h3 ⊢;rw [List.find?_cons_of_neg (by simp [hk])];have hr:e.refKey=false:=by unfold DictEntry.refKey;rw [e1]
   rw [List.any_cons,hr,Bool.false_or];exact h3
section
variable {prog:Program}{w:World}{A:Around}{E:Value→Shared→Prop}{K:Frag}{C x dx:Addr}{ns:List Str}{env:PySem.Env}{m:Str→Option Value}
theorem Zjw (hk:env.scope.kind=.function)(hself:env.kindOf "self"=some .local)(ms:m "self"=some (.ref x))(hld:env.locals≠dx):∀{body:List Stmt} {as:List (Str×IE)} {es:List DictEntry} {n:Nat} {s:Shared},Zef body=some as→
  (∀p∈as,p.1∈ns∧∀y,p.2=.name y→env.kindOf y=some .local∧∃v,m y=some v)→(as.map (·.1)).Nodup→(∀e∈es,∃k t,e.key=.str k t∧∀p∈as,k≠p.1)→es.length+as.length≤1000→
  K.In s.heap→StF K C ns→s.heap.get? x=some (instObj C dx)→x≠dx→K.lookup dx=none→s.heap.get? dx=some (dictOf es n)→s.heap.Ns env.locals m→
  wpAny (model prog w) A (execs body env) (fun fl s'=>fl=.next∧∃h' tk es',s'={ s with heap:=h',toks:=tk }∧h'.get? dx=some (dictOf (es++es') (n+as.length))∧Ents w m as es'∧∀b,b≠dx→h'.get? b=s.heap.get? b) E s
 |[],as,es,n,s,h,_,_,_,_,_,_,_,_,_,hd,_=>by
  cases h;exact wpAny_execs_nil ⟨rfl,s.heap,s.toks,[],rfl,by simpa using hd,rfl,fun _ _=>rfl⟩
 |st::body,as,es,n,s,h,hv,nd,hes,hz,X,f,hx,hxd,hK,hd,hn=>by
  unfold Zef at h;split at h
  ·rename_i q;cases q
  ·rename_i z p1 a p2 e p3 r heq;cases heq;split at h
   ·rename_i hz';have hz':z="self":=by simpa using hz'
    subst hz';split at h
    ·rename_i i l hi hl;cases h;have hv0:=hv (a,i) (by simp);rw [List.map_cons,List.nodup_cons] at nd;simp only [List.length_cons] at hz;have val:∀(Q:Value→Shared→Prop),(∀v tk,IV m i v→Q v { s with toks:=tk })→wpAny (model prog w) A (eval e env) Q E s:=by
      intro Q q;unfold ieOf at hi;split at hi
      ·split at hi
       ·cases hi
       ·rename_i hdb;cases hi;obtain ⟨hkl,v,hmv⟩:=hv0.2 _ rfl;exact wpAny_Name (wpAny_loadName_local hk hkl hn hmv (q v s.toks hmv)) (by simpa using hdb)
      ·cases hi;exact wpAny_Constant_bool (q _ s.toks rfl)
      ·cases hi;exact wpAny_Constant_none (q _ s.toks rfl)
      ·cases hi;exact wpAny_Constant_str (q _ _ ⟨_,rfl⟩)
      ·cases hi
     refine wpAny_execs_cons (plainObj_wpAny_Assign_Attribute (val _ fun v tk hiv=>?_) ?_)
     ·refine wpAny_Name (wpAny_loadName_local hk hself (s:={ s with toks:=tk }) hn ms ?_) (by decide);obtain ⟨g1,g2,g3⟩:=Zfj (name:=a) (hs:=PyData.keyHash w.params a) (v:=v) (key:=.none) (es:=es) fun e he=>by
       obtain ⟨k,t,q1,q2⟩:=hes e he;exact ⟨k,t,q1,q2 (a,i) (by simp)⟩
      refine Zff (s:={ s with toks:=tk }) X f hv0.1 hx hd g3 (by omega) fun h' tk' t hd' sb=>?_
      obtain ⟨g1,_,_⟩:=Zfj (name:=a) (hs:=PyData.keyHash w.params a) (v:=v) (key:=.str a t) (es:=es) fun e he=>by
       obtain ⟨k,t,q1,q2⟩:=hes e he;exact ⟨k,t,q1,q2 (a,i) (by simp)⟩
      rw [g1,g2] at hd';refine wpAny_mono (Zjw (s:={ s with heap:=h',toks:=tk' }) hk hself ms hld hl (fun p hp=>hv p (by simp [hp])) nd.2 ?_ (by simp only [List.length_append,List.length_cons,List.length_nil];omega) (fun b o e=>?_) f ((sb.2 x hxd).trans hx) hxd hK hd' (hn.sameBut sb hld)) (fun fl s' q=>?_) fun _ _ q=>q
      ·intro e he;rcases List.mem_append.mp he with he | he
       ·obtain ⟨k,t,q1,q2⟩:=hes e he;exact ⟨k,t,q1,fun p hp=>q2 p (by simp [hp])⟩
       ·simp at he;subst he;exact ⟨a,t,rfl,fun p hp q=>nd.1 (List.mem_map.mpr ⟨p,hp,q.symm⟩)⟩
      ·rw [sb.2 b (fun q=>by subst q;rw [hK] at e;cases e)];exact X b o e
      ·obtain ⟨rfl,h'',tk'',es',rfl,q1,q2,q3⟩:=q;refine ⟨rfl,h'',tk'',⟨PyData.keyHash w.params a,.str a t,v⟩::es',rfl,?_,⟨t,v,es',rfl,hiv,q2⟩,fun b hb=>(q3 b hb).trans (sb.2 b hb)⟩;rw [q1];congr 2
       ·simp
       ·simp only [List.length_cons];omega
     ·unfold ieOf at hi;split at hi<;>first | rfl | cases hi
    ·cases h
   ·cases h
  ·cases h
end
theorem Zhy (G:Calls)(L:Ev):∀es:List Expr,seqM (evalVs G L es)=evalEs G L es
 |[]=>by rw [evalVs,evalEs,seqM]
 |e::es=>by rw [evalVs,evalEs,seqM,Zhy G L es]
def Zbw:List Expr→Bool
 |[.Lambda ..]=>false
 |_=>true
theorem Zbh {G:Calls}{L:Ev}{f:Str}{np pos:Pos}{as:List Expr}(h:Zbw as=true):Za G L (.Call (.Name f np) as [] pos)=Jp G L f as (evalVs G L as):=by
 rw [Za];intro a b sc p e;subst e;cases h
theorem Zdg {G:Calls}{L:Ev}{f:Str}{as:List Expr}(h1:f≠"len")(h2:f≠"isinstance"):Jp G L f as (evalVs G L as)=(evalEs G L as>>=fun ts=>Z2 G f ts):=by
 rw [←Zhy];unfold Jp;split
 ·rename_i heq;rw [if_neg h1,heq]
 ·rename_i heq;rw [if_neg h2,heq]
 ·rfl
def Zci (M:Model)(K:Frag)(fv:Value):Prop:=∀h,K.In h→∃k,(k=Keeper.frame∨k=Keeper.machine∨k=Keeper.boundFrame)∧Looks M h (keeperOf fv) k
theorem Zcy {M:Model}{K:Frag}{fv:Value}(h:keepIn K fv=true):Zci M K fv:=fun hp X=>keeps_K h hp X
theorem Zf4 {M:Model}{K:Frag}{id:String}:Zci M K (.builtin id):=fun _ _=>⟨.machine,.inr (.inl rfl),Looks.of_pure rfl⟩
theorem Zrk {M:Model}{K:Frag}{id:String}:Zci M K (.type id):=fun _ _=>⟨.machine,.inr (.inl rfl),Looks.of_pure rfl⟩
section
variable {prog:Program}{c:Cx}{A:Around}{I:Inv (frs A)}{env:PySem.Env}{L:Ev}{G:Calls}
def Zdk (prog:Program)(c:Cx)(A:Around)(env:PySem.Env)(f:Str)(fv:Value):Prop:=
 ∀{I:Inv (frs A)} {Γ:Gh} {σ:Sg} {s:Shared} (np:Pos) (E:Value→Shared→Prop) (Q:Value→Shared→Prop),(∃old L,EnvR c old Γ s.heap (frs A) env L)→Pre c A I Γ σ s→Q fv s→wpAny (model prog c.w) A (eval (.Name f np) env) Q E s
theorem Zb0 {f:Str}{fv:Value}(F:Facts c)(hk:env.kindOf f=some .globalImplicit)(hd:(f == ("__debug__":Str))=false)(hv:c.mg f=some fv):Zdk prog c A env f fv:=by
 intro I Γ σ s np E Q ⟨old,L,ER⟩ P q;exact Zfu ER.kind hk (mg:=c.mg) (by rw [ER.glob];exact F.g.keeps P.st.kept) hv hd q
theorem Zd6 {f:Str}{fv:Value}(F:Facts c)(hk:env.kindOf f=some .globalImplicit)(hd:(f == ("__debug__":Str))=false)(hm:(f,fv)∈bltTable):Zdk prog c A env f fv:=by
 intro I Γ σ s np E Q ⟨old,L,ER⟩ P q;exact Zpg ER.kind hk (mg:=c.mg) (by rw [ER.glob];exact F.g.keeps P.st.kept) (F.blt _ hm).1 (by rw [ER.blt];exact F.b.keeps P.st.kept) (F.blt _ hm).2 hd q
theorem Zk6 {old:Heap}{f:Str}{fv:Value}{np pos:Pos}{as:List Expr}{β:Type}{R:Heap→Gh→Sg→Heap→β→List Value→Prop}{margs:M β}{k:β→M (T×Kd)}(F:Facts c)(hn:Zdk prog c A env f fv)
  (hs:∀e∈as,Z7 e=true) (ko:Zci (model prog c.w) c.K fv) (ha:Snd prog c A (envI c old (frs A) env L) R margs (spliced (backTo pos (starEach as env))))
  (hk:∀{Γ:Gh} {σ:Sg} {s:Shared} {pre:Heap} {b:β} {vs:List Value},Pre c A (envI c old (frs A) env L) Γ σ s→R pre Γ σ s.heap b vs→k b σ≠.stuck→
   (∀x o,pre.get? x=some o→∃o',s.heap.get? x=some o')→wpAny (model prog c.w) A (call fv vs) (QOf c A Γ σ s (fun _=>RV c (frs A) pre) (k b σ)) (EOf c A Γ σ s (k b σ)) s):
  Snd prog c A (envI c old (frs A) env L) (RV c (frs A)) (margs>>=k) (eval (.Call (.Name f np) as [] pos) env):=by
 intro Γ σ s P ne;rw [arm_eval_Call_Name'];refine wpAny_bind (hn np _ _ ⟨old,L,P.inv⟩ P ?_);refine callWith_of (P:=fun h=>c.K.In h) (first:=[]) (by show ((backTo pos (starEach as env)).any (·.1)||false)=false;rw [Zbx hs];rfl) ko ?_;refine Snd.args hs (seq P ne ha ?_);intro b σ₁ Γ₁ vs s₁ _ y1 y2 P₁ r ne1 e1;refine ⟨F.kin.keeps P₁.st.kept,?_⟩;rw [e1];refine wpAny_mono (hk P₁ r ne1 y2.alive) (fun v s' q=>?_) fun _ _ q=>q.back P y1 y2
 obtain ⟨a,σ',hr,Γ',z1,z2,z3,z4⟩:=q;exact ⟨a,σ',hr,Γ',y1.trans z1,z2,Step.trans P.st y2 z3,z4⟩
theorem Zdf {old:Heap}{f:Str}{fv:Value}{np pos:Pos}{as:List Expr}{β:Type}{R:Heap→Gh→Sg→Heap→β→List Value→Prop}{margs:M β}{k:β→M (T×Kd)}(F:Facts c)(hn:Zdk prog c A env f fv)
  (hs:∀e∈as,Z7 e=true) (ko:Zci (model prog c.w) c.K fv) (ha:Snd prog c A (envI c old (frs A) env L) R margs (spliced (backTo pos (starEach as env))))
  (hk:∀{Γ:Gh} {σ:Sg} {s:Shared} {pre:Heap} {b:β} {vs:List Value},Pre c A (envI c old (frs A) env L) Γ σ s→R pre Γ σ s.heap b vs→k b σ≠.stuck→
   wpAny (model prog c.w) A (call fv vs) (QOf c A Γ σ s (RV c (frs A)) (k b σ)) (EOf c A Γ σ s (k b σ)) s):
  Snd prog c A (envI c old (frs A) env L) (RV c (frs A)) (margs>>=k) (eval (.Call (.Name f np) as [] pos) env):=by
 refine Zk6 F hn hs ko ha fun P r ne al=>?_
 refine wpAny_mono (hk P r ne) (fun v s' q=>?_) fun _ _ q=>q
 obtain ⟨a,σ',hr,Γ',z1,z2,z3,z4⟩:=q;exact ⟨a,σ',hr,Γ',z1,z2,z3,Qb _ _ _ _ _ _ _ al z4⟩
theorem Snd.call_builtin {old:Heap}{f:Str}{fv:Value}{np pos:Pos}{as:List Expr}(F:Facts c)(hm:(f,fv)∈bltTable)(hk:env.kindOf f=some .globalImplicit)(hf:f∈builtins)(h1:f≠"len")
  (hs:∀e∈as,Z7 e=true) (hl:Zbw as=true) (ha:∀p,Snd prog c A (envI c old (frs A) env L) (RLs c) (evalEs G L as) (spliced (backTo p (starEach as env)))):
  Snd prog c A (envI c old (frs A) env L) (RV c (frs A)) (Za G L (.Call (.Name f np) as [] pos)) (eval (.Call (.Name f np) as [] pos) env):=by
 have hd:(f == ("__debug__":Str))=false:=by
  simp only [builtins,List.mem_cons,List.mem_nil_iff,or_false] at hf;rcases hf with rfl | rfl | rfl | rfl | rfl | rfl | rfl<;>decide
 have h2:f≠"isinstance":=by
  simp only [builtins,List.mem_cons,List.mem_nil_iff,or_false] at hf;rcases hf with rfl | rfl | rfl | rfl | rfl | rfl | rfl<;>decide
 have h3:¬(f="Null"∨f="Vector"):=by
  simp only [builtins,List.mem_cons,List.mem_nil_iff,or_false] at hf;rcases hf with rfl | rfl | rfl | rfl | rfl | rfl | rfl<;>decide
 rw [Zbh hl,Zdg h1 h2];have ko:Zci (model prog c.w) c.K fv:=by
  simp only [bltTable,List.mem_cons,Prod.mk.injEq,List.mem_nil_iff,or_false] at hm;rcases hm with ⟨_,rfl⟩ | ⟨_,rfl⟩ | ⟨_,rfl⟩ | ⟨_,rfl⟩ | ⟨_,rfl⟩ | ⟨_,rfl⟩ | ⟨_,rfl⟩ | ⟨_,rfl⟩<;>first | exact Zf4 | exact Zrk
 refine Zdf F (Zd6 F hk hd hm) hs ko (ha pos) fun {Γ σ s pre ts vs} P r ne=>?_
 obtain ⟨r1,r2⟩:=r;have e0:Z2 G f ts=Zap f (ts.map (·.1)):=by unfold Z2;rw [if_neg h3,if_pos hf]
 rw [e0] at ne ⊢
 generalize ts.map (·.1)=us at r1 ne ⊢
 match us,r1,ne with
 |[],_,ne=>exact absurd rfl ne
 |[t],r1,ne=>
  obtain ⟨v,rfl,rv⟩:=r1.one_inv;exact Zud F P hm rv ne
 |[t,t'],r1,ne=>
  unfold RepL at r1;obtain ⟨v,w,rfl,rv,r1⟩:=r1;obtain ⟨v',rfl,rv'⟩:=r1.one_inv;exact Zub P hm rv rv' ne
 |_::_::_::_,_,ne=>exact absurd rfl ne
def Zlm (c:Cx)(pre:Heap)(G:Gh)(σ:Sg)(h:Heap)(t:T)(vs:List Value):Prop:=∃v,vs=[v]∧RL c pre G σ h t v
theorem Zvm:Back (Zlm c):=fun _ _ _ _ _ _ _ _ x=>x
theorem Snd.look1 {e:Expr}{m:M T}{p:Pos}(hs:Z7 e=true)(h:Snd prog c A I (RL c) m (eval e env)):Snd prog c A I (Zlm c) m (spliced (backTo p (starEach [e] env))):=by
 intro Γ σ s P ne;refine wpAny_items_cons (wpAny_mono (h Γ σ s P ne) (fun v s' q=>?_) fun _ _ q=>q) (Zac hs);obtain ⟨a,σ',e,Γ',y1,y2,y3,y4⟩:=q;refine wpAny_items_nil ?_;exact ⟨a,σ',e,Γ',y1,y2,y3,v,rfl,y4⟩
theorem Snd.call_len {old:Heap}{e:Expr}{np pos:Pos}(F:Facts c)(hk:env.kindOf "len"=some .globalImplicit)(hs:Z7 e=true)(hl:Zbw [e]=true)(h:Snd prog c A (envI c old (frs A) env L) (RL c) (Jj L e (Za G L e)) (eval e env)):
  Snd prog c A (envI c old (frs A) env L) (RV c (frs A)) (Za G L (.Call (.Name "len" np) [e] [] pos)) (eval (.Call (.Name "len" np) [e] [] pos) env):=by
 have e0:Za G L (.Call (.Name "len" np) [e] [] pos)=(Jj L e (Za G L e)>>=fun t=>do val (←lenM t)):=by
  rw [Zbh hl,evalVs,evalVs];unfold Jp;rfl
 rw [e0];refine Zdf F (Zd6 F hk (by decide) (fv:=.builtin "len") (by simp [bltTable])) (by simpa using hs) Zf4 (h.look1 hs) fun {Γ σ s pre t vs} P r ne=>?_
 obtain ⟨v,rfl,lk⟩:=r;have:∃r,lenM t σ=.ok r σ:=by
  have ne':=M.bind_ne ne;unfold lenM at ne' ⊢;split at ne'<;>first | exact ⟨_,rfl⟩ | (exact absurd rfl ne';done) | skip
  split at ne'
  ·rename_i hx;exact ⟨_,if_pos hx⟩
  ·exact absurd rfl ne'
 obtain ⟨r,hr⟩:=this;rw [M.bind_ok hr];exact Zql P lk hr
theorem Zvi {m:M (T×Kd)}{e:Expr}:Jj L e m=Jj L e m:=rfl
theorem Snd.call_isinstance {old:Heap}{e:Expr}{n:Str}{cv:Value}{np cp pos:Pos}(F:Facts c)(hk:env.kindOf "isinstance"=some .globalImplicit)(hs:Z7 e=true)(h:Snd prog c A (envI c old (frs A) env L) (RL c) (Jj L e (Za G L e)) (eval e env))
  (hc:Zdk prog c A env n cv) (hcv:(n="Vector"∧cv=.ref c.vec)∨(n="str"∧cv=.type "str")):
  Snd prog c A (envI c old (frs A) env L) (RV c (frs A)) (Za G L (.Call (.Name "isinstance" np) [e,.Name n cp] [] pos)) (eval (.Call (.Name "isinstance" np) [e,.Name n cp] [] pos) env):=by
 have e0:Za G L (.Call (.Name "isinstance" np) [e,.Name n cp] [] pos)=(Jj L e (Za G L e)>>=fun t=>Zb3 n t):=by
  rw [Zbh (by cases e<;>rfl),evalVs,evalVs,evalVs]
  unfold Jp;rfl
 rw [e0];have ha:Snd prog c A (envI c old (frs A) env L) (fun pre G σ h t vs=>∃v,vs=[v,cv]∧RL c pre G σ h t v) (Jj L e (Za G L e)) (spliced (backTo pos (starEach [e,.Name n cp] env))):=by
  intro Γ σ s P ne;refine wpAny_items_cons (wpAny_mono (h Γ σ s P ne) (fun v s' q=>?_) fun _ _ q=>q) (Zac hs);obtain ⟨a,σ',e,Γ',y1,y2,y3,y4⟩:=q;have P':=P.next y2 y3;refine wpAny_items_cons (hc cp _ _ ⟨old,L,P'.inv⟩ P' ?_) rfl;refine wpAny_items_nil ?_;exact ⟨a,σ',e,Γ',y1,y2,y3,v,rfl,y4⟩
 refine Zdf F (Zd6 F hk (by decide) (fv:=.builtin "isinstance") (by simp [bltTable])) ?_ Zf4 ha fun {Γ σ s pre t vs} P r ne=>?_
 ·intro x hx;simp only [List.mem_cons,List.mem_nil_iff,or_false] at hx;rcases hx with rfl | rfl
  ·exact hs
  ·rfl
 obtain ⟨v,rfl,lk⟩:=r;exact Zru F P lk hcv ne
def GOk (prog:Program)(c:Cx)(A:Around)(G:Calls):Prop:=
 ∀f ts vs Γ σ s,Pre c A (Inv.top _) Γ σ s→RepL c Γ ts vs→G f ts σ≠.stuck→∃fa,c.mg f=some (.ref fa)∧
  wpAny (model prog c.w) A (call (.ref fa) vs) (QOf c A Γ σ s (RV c (frs A)) (G f ts σ)) (EOf c A Γ σ s (G f ts σ)) s
theorem Snd.call_def {old:Heap}{f:Str}{fa:Addr}{np pos:Pos}{as:List Expr}(F:Facts c)(hG:GOk prog c A G)(hk:env.kindOf f=some .globalImplicit)(hd:(f == ("__debug__":Str))=false)(hm:c.mg f=some (.ref fa))(ko:keepIn c.K (.ref fa)=true)
  (h1:f∉builtins) (h2:f≠"isinstance") (h3:¬(f="Null"∨f="Vector"))
  (hs:∀e∈as,Z7 e=true) (hl:Zbw as=true) (ha:∀p,Snd prog c A (envI c old (frs A) env L) (RLs c) (evalEs G L as) (spliced (backTo p (starEach as env)))):
  Snd prog c A (envI c old (frs A) env L) (RV c (frs A)) (Za G L (.Call (.Name f np) as [] pos)) (eval (.Call (.Name f np) as [] pos) env):=by
 have h4:f≠"len":=fun q=>h1 (by subst q;simp [builtins])
 rw [Zbh hl,Zdg h4 h2];refine Zdf F (Zb0 F hk hd hm) hs (Zcy ko) (ha pos) fun {Γ σ s pre ts vs} P r ne=>?_
 obtain ⟨r1,r2⟩:=r;have e0:Z2 G f ts=G f (ts.map (·.1)):=by unfold Z2;rw [if_neg h3,if_neg h1]
 rw [e0] at ne ⊢;obtain ⟨fa',q1,q2⟩:=hG f _ vs Γ σ s ⟨P.st,P.fr,trivial⟩ r1 ne;rw [hm] at q1;cases q1;exact q2
end
def initI? (n:Str):Stmt→Option FnI
 |.ClassDef m _ _ b ..=>if m=n then b.findSome? (fnI? "__init__") else none
 |_=>none
structure InitAt (c:Cx) (I:FnI) (C:Addr) (k:Nat) (binds:Value→List Value→List (Str×Value)):Prop where
 at_:∃fI o fd,findIn c.K (.ref C) "__init__"=some (some (.ref fI))∧typeIn c.K (.ref fI)=some (.type "function")∧c.base.get? fI=some o∧o.data=.func fd∧fd.body=.stmts I.body∧fd.scope=I.scope∧fd.globals=mainGlobals∧fd.closure=[]∧
  fd.builtins=builtinsNs∧c.base.CodeRec fd.code fd.qualname∧∀(s:Shared) (x:Value) (vals:List Value),(∀b o,c.base.get? b=some o→s.heap.get? b=some o)→vals.length=k→BindsTo s fd ⟨x::vals,[]⟩ (binds x vals)
structure InitF (I:FnI) (names:List Str) (as:List (Str×IE)):Prop where
 kind:I.scope.kind=.function
 co:I.scope.isCoroutine=false
 gen:I.scope.isGenerator=false
 cell:∀x∈I.scope.names,x.2≠.cell
 loc:∀x∈names,I.scope.names.lookup x=some .local
 as_:Zef I.body=some as
 nd:(as.map (·.1)).Nodup
 vals:∀p∈as,∀y,p.2=.name y→y∈names
 self:("self":Str)∈names
 few:as.length≤100
section
variable {prog:Program}{c:Cx}{A:Around}{E:Value→Shared→Prop}{s:Shared}{C:Addr}
theorem Znu {I:FnI}{k:Nat}{binds:Value→List Value→List (Str×Value)}{names:List Str}{as:List (Str×IE)}{ns:List Str}{vals:List Value}{x dx fI:Addr}{R:Result→Shared→Prop}(F:Facts c)(kp:∀b o,c.base.get? b=some o→s.heap.get? b=some o)
  (ok:InitF I names as) (st:StF c.K C ns) (hns:∀p∈as,p.1∈ns) (hk:vals.length=k) (bn:(binds (.ref x) vals).map (·.1)=names) (bself:(binds (.ref x) vals).reverse.lookup ("self":Str)=some (.ref x)) (bval:∀y∈names,∃v,(binds (.ref x) vals).reverse.lookup y=some v)
  (hfi:∃o fd,c.base.get? fI=some o∧o.data=.func fd∧fd.body=.stmts I.body∧fd.scope=I.scope∧fd.globals=mainGlobals∧fd.closure=[]∧fd.builtins=builtinsNs∧c.base.CodeRec fd.code fd.qualname∧∀(s:Shared) (x:Value) (vals:List Value),(∀b o,c.base.get? b=some o→s.heap.get? b=some o)→vals.length=k→BindsTo s fd ⟨x::vals,[]⟩ (binds x vals))
  (hx:s.heap.get? x=some (instObj C dx)) (hd:s.heap.get? dx=some (dictOf [] 0)) (hxd:x≠dx) (hK:c.K.lookup dx=none) (room:A.depth < recursionLimit)
  (h:∀h' tk es,h'.get? dx=some (dictOf es as.length)→Ents c.w (fun y=>(binds (.ref x) vals).reverse.lookup y) as es→(∀b o,b≠dx→s.heap.get? b=some o→h'.get? b=some o)→R (.ok (.ret .none)) { s with heap:=h',toks:=tk }):
  codeAny (model prog c.w) A (.call (.ref fI) ⟨.ref x::vals,[]⟩) R s:=by
 obtain ⟨o,fd,h1,h2,h3,h4,h5,h6,h7,h8,h9⟩:=hfi;have X:=F.kin.keeps kp;refine codeAny_call_function room (kp _ _ h1) h2 (by rw [h4];exact ok.co) (by rw [h4];exact ok.gen) h3 (h8.keeps kp) (h9 s (.ref x) vals kp hk _ _ _ _ ?_);rw [h4,h5,h6,h7];refine wpAny_newFunctionEnv ok.cell (fun p hp=>ok.loc _ ?_) (fun h₁ hns₁ hsb₁=>?_) ok.kind
 ·rw [←bn];exact List.mem_map_of_mem hp
 dsimp only at hns₁ hsb₁ ⊢;have k1:∀b o,s.heap.get? b=some o→h₁.get? b=some o:=fun b o e=>by
  rw [hsb₁.2 b (Nat.ne_of_lt (Heap.lt_size e))];exact Z6 _ _ e
 refine ⟨F.nolimit.keeps fun b o e=>k1 _ _ (kp _ _ e),codeAny_func ?_⟩;have ld:s.heap.objs.size≠dx:=(Nat.ne_of_lt (Heap.lt_size hd)).symm;have kOf:∀y,(newEnv I.scope s.heap.objs.size mainGlobals [] (fd.qualname++".<locals>.") (some fI) fd.code none builtinsNs).kindOf y=I.scope.names.lookup y:=fun y=>rfl
 refine wpAny_mono (Zjw (K:=c.K) (ns:=ns) (es:=[]) (n:=0) (s:={ s with heap:=h₁,toks:=s.toks+(binds (.ref x) vals).length }) ok.kind ((kOf _).trans (ok.loc _ ok.self)) bself ld ok.as_ (fun p hp=>⟨hns p hp,fun y hy=>?_⟩) ok.nd (by intro e he;cases he) (by have:=ok.few;simp only [List.length_nil];omega)
  (X.keeps k1) st (k1 _ _ hx) hxd hK (k1 _ _ hd) hns₁) (fun fl s' q=>?_) fun _ _ q=>q
 ·have hy':=ok.vals p hp y hy;exact ⟨(kOf _).trans (ok.loc _ hy'),bval y hy'⟩
 ·obtain ⟨rfl,h',tk,es,rfl,q1,q2,q3⟩:=q;simp only [List.nil_append,Nat.zero_add] at q1;exact h h' tk es q1 q2 fun b o hb e=>by rw [q3 b hb];exact k1 _ _ e
theorem Ziy {I:FnI}{k:Nat}{binds:Value→List Value→List (Str×Value)}{names:List Str}{as:List (Str×IE)}{ns:List Str}{vals:List Value}{Q:Value→Shared→Prop}(F:Facts c)(kp:∀b o,c.base.get? b=some o→s.heap.get? b=some o)
  (hm:makesIn c.K C=true) (X:InitAt c I C k binds) (ok:InitF I names as) (st:StF c.K C ns) (hns:∀p∈as,p.1∈ns) (hk:vals.length=k)
  (bn:∀x,(binds x vals).map (·.1)=names) (bself:∀x,(binds x vals).reverse.lookup ("self":Str)=some x) (bval:∀x,∀y∈names,∃v,(binds x vals).reverse.lookup y=some v) (room:A.depth+1 < recursionLimit)
  (h:∀h' tk es,(∀b o,s.heap.get? b=some o→h'.get? b=some o)→h'.get? (s.heap.objs.size+1)=some (instObj C s.heap.objs.size)→h'.get? s.heap.objs.size=some (dictOf es as.length)→
   Ents c.w (fun y=>(binds (.ref (s.heap.objs.size+1)) vals).reverse.lookup y) as es→Q (.ref (s.heap.objs.size+1)) { s with heap:=h',toks:=tk }):
  wpAny (model prog c.w) A (call (.ref C) vals) Q E s:=by
 obtain ⟨fI,o,fd,x1,x2,x3⟩:=X.at_;obtain ⟨hh,g,d,t,os⟩:=s;have XK:=F.kin.keeps kp;refine wpAny_call (make_core (makes_of XK hm) (looks_findIn XK x1) (fun self=>bind_fn XK self x2) (.inl rfl) ?_);have z1:(hh.push emptyDict).objs.size=hh.objs.size+1:=Heap.size_push ..;have hd1:((hh.push emptyDict).push (instObj C hh.objs.size)).get? hh.objs.size=some (dictOf [] 0):=Heap.get?_push_of_some _ (Heap.get?_push_size _ rfl);have hx1:((hh.push emptyDict).push (instObj C hh.objs.size)).get? (hh.objs.size+1)=some (instObj C hh.objs.size):=by rw [←z1];exact Heap.get?_push_size _ rfl
 have k1:∀b o,hh.get? b=some o→((hh.push emptyDict).push (instObj C hh.objs.size)).get? b=some o:=fun b o e=>Heap.get?_push_of_some _ (Heap.get?_push_of_some _ e)
 have hne:hh.objs.size+1≠hh.objs.size:=Nat.succ_ne_self _;have nn:hh.get? hh.objs.size=none:=Qp hh;refine Znu (s:=⟨(hh.push emptyDict).push (instObj C hh.objs.size),g,d,t,os⟩) F (fun b o e=>k1 _ _ (kp _ _ e)) ok st hns hk (bn _) (bself _) (bval _) ⟨o,fd,x3⟩ hx1 hd1 hne ?_ ?_ ?_
 ·cases q:c.K.lookup hh.objs.size with
  |none=>rfl
  |some o=>have:=XK _ _ q;dsimp only at this;rw [nn] at this;cases this
 ·rw [depth_under_make];exact room
 ·intro h' tk es q1 q2 q3;refine ⟨rfl,?_⟩;refine h h' tk es (fun b o e=>q3 b o (fun q=>by subst q;rw [nn] at e;cases e) (k1 _ _ e)) (q3 _ _ hne hx1) q1 q2
end
abbrev Zlx (x:Value)(vs:List Value):List (Str×Value):=match vs with
 |[a,b]=>[("self",x),("kind",a),("items",b),("attrs",.none)]
 |_=>[]
abbrev Zo0 (x:Value)(_:List Value):List (Str×Value):=[("self",x)]
structure ClsFacts (c:Cx):Prop where
 vecM:makesIn c.K c.vec=true
 nulM:makesIn c.K c.nul=true
 vecS:StF c.K c.vec ["kind","items","attrs","shared","loose"]
 nulS:StF c.K c.nul ["kind","attrs"]
 vecI:∃I,InitAt c I c.vec 2 Zlx∧InitF I ["self","kind","items","attrs"] [("kind",.name "kind"),("items",.name "items"),("attrs",.name "attrs"),("shared",.bool false),("loose",.bool false)]
 nulI:∃I,InitAt c I c.nul 0 Zo0∧InitF I ["self"] [("kind",.str "NULL"),("attrs",.none)]
 nulG:c.mg "Null"=some (.ref c.nul)
 keepV:keepIn c.K (.ref c.vec)=true
 keepN:keepIn c.K (.ref c.nul)=true
section
variable {prog:Program}{c:Cx}{A:Around}{I:Inv (frs A)}{env:PySem.Env}{L:Ev}{G:Calls}
theorem Snd.call_null {old:Heap}{np pos:Pos}(F:Facts c)(N:ClsFacts c)(hk:env.kindOf "Null"=some .globalImplicit)(room:A.depth+1 < recursionLimit):
  Snd prog c A (envI c old (frs A) env L) (RV c (frs A)) (Za G L (.Call (.Name "Null" np) [] [] pos)) (eval (.Call (.Name "Null" np) [] [] pos) env):=by
 rw [Zbh rfl,Zdg (by decide) (by decide)];have ha:Snd prog c A (envI c old (frs A) env L) (RLs c) (evalEs G L []) (spliced (backTo pos (starEach [] env))):=Snd.row (by simp) (by simp);refine Zdf F (Zb0 F hk (by decide) N.nulG) (by simp) (Zcy N.keepN) ha fun {Γ σ s pre ts vs} P r ne=>?_
 obtain ⟨r1,r2⟩:=r;have hts:ts=[]:=by
  cases ts with
  |nil=>rfl
  |cons a b=>
   exact absurd (by unfold Z2;rw [if_pos (.inl rfl)];unfold clsM;rw [if_pos rfl];rfl) ne
 subst hts;unfold RepL at r1;subst r1;have e0:Z2 G "Null" [] σ=.ok (.null,.val) σ:=by unfold Z2;rw [if_pos (.inl rfl)];unfold clsM;rw [if_pos rfl];rfl
 rw [e0];obtain ⟨I,X,ok⟩:=N.nulI;refine Ziy F P.st.kept N.nulM X ok N.nulS (by simp) rfl (fun _=>rfl) (fun _=>rfl) (fun x y hy=>?_) room fun h' tk es kp hx hd he=>?_
 ·simp only [List.mem_cons,List.mem_nil_iff,or_false] at hy;subst hy;exact ⟨x,rfl⟩
 ·obtain ⟨t1,v1,es1,rfl,i1,t2,v2,es2,rfl,i2,he⟩:=he;obtain ⟨t3,rfl⟩:=i1;have i2:v2=.none:=i2;have he:es2=[]:=he;subst i2 he;have S₁:=P.st.keeps kp;have n0:s.heap.get? s.heap.objs.size=none:=Qp _;have n1:s.heap.get? (s.heap.objs.size+1)=none:=Heap.get?_none_of_le (Nat.le_succ _);have l0:=P.st.loose n0;have l1:=P.st.loose n1;have hne:s.heap.objs.size+1≠s.heap.objs.size:=Nat.succ_ne_self _;have S₂:=S₁.add l0 hd;have l1':Loose (Γ.add s.heap.objs.size (dictOf [⟨PyData.keyHash c.w.params "kind",.str "kind" t1,.str "NULL" t3⟩,⟨PyData.keyHash c.w.params "attrs",.str "attrs" t2,.none⟩] 2)) (s.heap.objs.size+1):=l1.add hne;have S₃:=S₂.add l1' hx;refine ⟨_,σ,rfl,_,⟨h',tk,rfl⟩,S₃,((Step.keeps kp P.st).add l0 n0).add l1' n1,Jr ?_⟩;unfold Rep;exact ⟨_,_,_,rfl,Gh.add_at,(Gh.add_ne hne.symm).trans Gh.add_at,t1,t2,t3,2,rfl⟩
theorem Snd.solidRV {m:M (T×Kd)}{X:Sem Value}(h:Snd prog c A I (RV c (frs A)) m X):Snd prog c A I (fun pre G σ h r v=>r.2≠.h∧RV c (frs A) pre G σ h r v) (m>>=Mine.solid) X:=by
 intro Γ σ s P ne;refine wpAny_mono (h Γ σ s P (M.bind_ne ne)) (fun v s₁ q=>?_) fun _ _ q=>q.cast fun m' σ' e=>M.bind_exn e
 obtain ⟨a,σ',e,Γ',y1,y2,y3,y4⟩:=q;rw [M.bind_ok e] at ne ⊢;unfold Mine.solid at ne ⊢
 by_cases k:a.2=.h
 ·rw [if_pos k] at ne;exact absurd rfl ne
 ·rw [if_neg k];exact ⟨a,σ',rfl,Γ',y1,y2,y3,k,y4⟩
def RV2 (c:Cx)(fr:List Addr)(pre:Heap)(G:Gh)(σ:Sg)(h:Heap)(r:(T×Kd)×(T×Kd))(vs:List Value):Prop:=∃v1 v2,vs=[v1,v2]∧(r.1.2≠.h∧Rep c G r.1.1 v1)∧r.2.2≠.h∧RV c fr pre G σ h r.2 v2
theorem Snd.call_vec {old:Heap}{e1 e2:Expr}{np pos:Pos}(F:Facts c)(N:ClsFacts c)(hk:env.kindOf "Vector"=some .globalImplicit)(room:A.depth+1 < recursionLimit)(hs1:Z7 e1=true)(hs2:Z7 e2=true)
  (h1:Snd prog c A (envI c old (frs A) env L) (RV c (frs A)) (Za G L e1) (eval e1 env)) (h2:Snd prog c A (envI c old (frs A) env L) (RV c (frs A)) (Za G L e2) (eval e2 env)):
  Snd prog c A (envI c old (frs A) env L) (RV c (frs A)) (Za G L (.Call (.Name "Vector" np) [e1,e2] [] pos)) (eval (.Call (.Name "Vector" np) [e1,e2] [] pos) env):=by
 have hs:∀e∈[e1,e2],Z7 e=true:=by
  intro e he;simp only [List.mem_cons,List.mem_nil_iff,or_false] at he;rcases he with rfl | rfl<;>assumption
 have e0:Za G L (.Call (.Name "Vector" np) [e1,e2] [] pos)=((do let a ←(Za G L e1>>=Mine.solid);let b ←(Za G L e2>>=Mine.solid);pure (a,b):M ((T×Kd)×(T×Kd)))>>=fun p=>clsM "Vector" [p.1,p.2]):=by
  rw [Zbh (by cases e1<;>rfl),Zdg (by decide) (by decide)]
  rw [evalEs,evalEs,evalEs];simp only [M.assoc];have:∀ts,Z2 G "Vector" ts=clsM "Vector" ts:=fun ts=>by unfold Z2;rw [if_pos (.inr rfl)]
  simp only [this];rfl
 rw [e0];have ha:Snd prog c A (envI c old (frs A) env L) (RV2 c (frs A)) (do let a ←(Za G L e1>>=Mine.solid);let b ←(Za G L e2>>=Mine.solid);pure (a,b):M ((T×Kd)×(T×Kd))) (spliced (backTo pos (starEach [e1,e2] env))):=by
  intro Γ σ s P ne;refine wpAny_items_cons (seq (f:=fun a=>do let b ←(Za G L e2>>=Mine.solid);pure (a,b)) P ne h1.solid (K:=_) ?_) (Zac hs1);intro a σ₁ Γ₁ va s₁ _ y1 y2 P₁ ra ne1 e1;rw [e1];refine wpAny_items_cons (wpAny_mono (seq (f:=fun b=>pure (a,b)) P₁ ne1 h2.solidRV (K:=_) ?_) (fun _ _ q=>q) fun _ _ q=>q.back P y1 y2) (Zac hs2);intro b σ₂ Γ₂ vb s₂ _ z1 z2 P₂ rb ne2 e2;refine wpAny_items_nil ?_;rw [e2];exact ⟨(a,b),σ₂,rfl,Γ₂,y1.trans z1,P₂.st,Step.trans P.st y2 z2,va,vb,rfl,⟨ra.1,Rep.mono z2.le _ _ ra.2⟩,rb.1,Qb _ _ _ _ _ _ _ y2.alive rb.2⟩
 refine Zk6 F (Zb0 F hk (by decide) F.vecG) hs (Zcy N.keepV) ha fun {Γ σ s pre p vs} P r ne al=>?_
 obtain ⟨v1,v2,rfl,⟨k1,r1⟩,k2,r2⟩:=r;obtain ⟨⟨ta,ka⟩,⟨tb,kb⟩⟩:=p;dsimp only at k1 r1 k2 r2 ne ⊢;have hts:∃k ts,ta=.str k∧tb=.list ts:=by
  unfold clsM at ne;rw [if_neg (by decide)] at ne;cases ta<;>first | (exact absurd rfl ne;done) | skip
  cases tb<;>first | (exact absurd rfl ne;done) | exact ⟨_,_,rfl,rfl⟩
 obtain ⟨k,ts,rfl,rfl⟩:=hts;have e1:clsM "Vector" [(.str k,ka),(.list ts,kb)] σ=.ok (.vec k ts .none,if kb=.own then .ownIo else .own) σ:=by unfold clsM;rw [if_neg (by decide)];rfl
 rw [e1];obtain ⟨tk1,rfl⟩:=r1.str_inv;obtain ⟨I,X,ok⟩:=N.vecI;refine Ziy F P.st.kept N.vecM X ok N.vecS (by simp) rfl (fun _=>rfl) (fun _=>rfl) (fun x y hy=>?_) room fun h' tk es kp hx hd he=>?_
 ·simp only [List.mem_cons,List.mem_nil_iff,or_false] at hy;rcases hy with rfl | rfl | rfl | rfl
  ·exact ⟨x,rfl⟩
  ·exact ⟨_,rfl⟩
  ·exact ⟨v2,rfl⟩
  ·exact ⟨.none,rfl⟩
 ·obtain ⟨t1,w1,es1,rfl,i1,t2,w2,es2,rfl,i2,t3,w3,es3,rfl,i3,t4,w4,es4,rfl,i4,t5,w5,es5,rfl,i5,he⟩:=he;have i1:some (Value.str k tk1)=some w1:=i1;have i2:some v2=some w2:=i2;have i3:some Value.none=some w3:=i3;have i4:w4=.bool false:=i4;have i5:w5=.bool false:=i5;have he:es5=[]:=he;cases i1;cases i2;cases i3;subst i4 i5 he;have hID:IDict c h' s.heap.objs.size (.str k tk1,v2,.none):=⟨false,t1,t2,t3,t4,t5,5,hd⟩;have n0:s.heap.get? s.heap.objs.size=none:=Qp _;have n1:s.heap.get? (s.heap.objs.size+1)=none:=Heap.get?_none_of_le (Nat.le_succ _);have l0:=P.st.loose n0;have l1:=P.st.loose n1;have f0:=P.fr.fresh n0;have f1:=P.fr.fresh n1;have hne:s.heap.objs.size+1≠s.heap.objs.size:=Nat.succ_ne_self _;have m0:=Je al n0;have m1:=Je al n1;refine ⟨_,σ,rfl,Γ,⟨h',tk,rfl⟩,P.st.keeps kp,Step.keeps kp P.st,?_⟩;have stp:Step (frs A) Γ σ s.heap Γ σ h':=Step.keeps kp P.st
  cases kb with
  |h=>exact absurd rfl k2
  |ownIo=>obtain ⟨_,q,_⟩:=r2;exact q.elim
  |val=>
   rw [if_neg (by decide)];refine ⟨[s.heap.objs.size+1,s.heap.objs.size],⟨_,_,_,_,_,tk1,rfl,rfl,hne,hx,hID,rfl,r2,Rep.none',l1,l0,f1,f0⟩,fun a ha=>?_⟩;simp at ha;rcases ha with rfl | rfl<;>assumption
  |own=>
   rw [if_pos rfl];obtain ⟨as,q,qn⟩:=r2;obtain ⟨b,ws,n,rfl,rfl,q1,q2,q3,q4,q5⟩:=q;have hb:=Heap.lt_size q1;have b0:s.heap.objs.size≠b:=(Nat.ne_of_lt hb).symm;have b1:s.heap.objs.size+1≠b:=(Nat.ne_of_lt (Nat.lt_succ_of_lt hb)).symm;refine ⟨[s.heap.objs.size+1,s.heap.objs.size,b],⟨_,_,b,_,_,tk1,ws,n,rfl,rfl,hne,b1,b0,hx,hID,rfl,kp _ _ q1,q2,q3,Rep.none',l1,l0,q4,f1,f0,q5⟩,fun a ha=>?_⟩;simp at ha;rcases ha with rfl | rfl | rfl
   ·exact m1
   ·exact m0
   ·exact qn _ (by simp)
end
abbrev Zsn:List Value:=[.type "Exception",.type "BaseException",.type "object"]
structure ExcFacts (c:Cx):Prop where
 cls:∃nm q N bs bm sn sub ab col dd k0 k1 k2 k3 k5 mN fI o fd p1 p2 p3 p4,c.base.get? c.exc=some (excClassObj nm q c.exc N bs bm true sn sub ab col dd k0 k1 k2 k3 k5 "Exception.__new__")∧OwnTail c.base Zsn bm∧bm.contains (.type "BaseException")=true∧
  c.base.Ns N mN∧mN "__init__"=some (.ref fI)∧typeIn c.K (.ref fI)=some (.type "function")∧c.base.get? fI=some o∧o.data=.func fd∧
  fd.body=.stmts [.Assign [.Attribute (.Name "self" p1) "message" p2] (.Name "message" p3) p4]∧fd.scope.kind=.function∧fd.scope.isCoroutine=false∧fd.scope.isGenerator=false∧(∀x∈fd.scope.names,x.2≠.cell)∧
  fd.scope.names.lookup ("self":Str)=some .local∧fd.scope.names.lookup ("message":Str)=some .local∧fd.globals=mainGlobals∧fd.closure=[]∧fd.builtins=builtinsNs∧c.base.CodeRec fd.code fd.qualname∧
  ∀(s:Shared) (x v:Value),BindsTo s fd ⟨[x,v],[]⟩ [("self",x),("message",v)]
 st:StF c.K c.exc ["message"]
 glob:c.mg "Refusal"=some (.ref c.exc)
 keep:keepIn c.K (.ref c.exc)=true
def Zu9 (c:Cx)(h h':Heap)(e:Addr)(m:Str):Prop:=
 ∃tp d t t',(∀b o,h.get? b=some o→h'.get? b=some o)∧h.get? e=none∧h.get? d=none∧e≠d∧h'.get? e=some { cls:=.ref c.exc,dict:=some d,data:=.fields #[.ref tp,.none,.none,.none,.bool false,.none] }∧
  h'.get? d=some (Zn [⟨c.H "message",.str "message" t,.str m t'⟩] 1)
section
variable {prog:Program}{c:Cx}{A:Around}{E:Value→Shared→Prop}{s:Shared}
theorem Zsk {p1 p2 p3 p4:Pos}{fI e tp:Addr}{m:Str}{tm:Tok}{R:Result→Shared→Prop}{o:Obj}{fd:FuncData}(F:Facts c)(X:ExcFacts c)(kp:∀b o,c.base.get? b=some o→s.heap.get? b=some o)
  (h1:c.base.get? fI=some o) (h2:o.data=.func fd) (h3:fd.body=.stmts [.Assign [.Attribute (.Name "self" p1) "message" p2] (.Name "message" p3) p4]) (hk:fd.scope.kind=.function) (hco:fd.scope.isCoroutine=false) (hge:fd.scope.isGenerator=false)
  (hce:∀x∈fd.scope.names,x.2≠.cell) (l1:fd.scope.names.lookup ("self":Str)=some .local) (l2:fd.scope.names.lookup ("message":Str)=some .local) (h5:fd.globals=mainGlobals) (h6:fd.closure=[]) (h7:fd.builtins=builtinsNs) (h8:c.base.CodeRec fd.code fd.qualname)
  (h9:∀(s:Shared) (x v:Value),BindsTo s fd ⟨[x,v],[]⟩ [("self",x),("message",v)])
  (he:s.heap.get? e=some { cls:=.ref c.exc,data:=.fields #[.ref tp,.none,.none,.none,.bool false,.none] }) (room:A.depth < recursionLimit)
  (h:∀h' tk d t,(∀b o,b≠e→s.heap.get? b=some o→h'.get? b=some o)→s.heap.get? d=none→e≠d→h'.get? e=some { cls:=.ref c.exc,dict:=some d,data:=.fields #[.ref tp,.none,.none,.none,.bool false,.none] }→
   h'.get? d=some (Zn [⟨c.H "message",.str "message" t,.str m tm⟩] 1)→R (.ok (.ret .none)) { s with heap:=h',toks:=tk }):
  codeAny (model prog c.w) A (.call (.ref fI) ⟨[.ref e,.str m tm],[]⟩) R s:=by
 refine codeAny_call_function room (kp _ _ h1) h2 hco hge h3 (h8.keeps kp) (h9 s (.ref e) (.str m tm) _ _ _ _ ?_);rw [h5,h6,h7];refine wpAny_newFunctionEnv hce (fun p hp=>?_) (fun h₁ hns₁ hsb₁=>?_) hk
 ·simp only [List.mem_cons,List.mem_nil_iff,or_false] at hp;rcases hp with rfl | rfl<;>assumption
 dsimp only at hns₁ hsb₁ ⊢;have k1:∀b o,s.heap.get? b=some o→h₁.get? b=some o:=fun b o e=>by
  rw [hsb₁.2 b (Nat.ne_of_lt (Heap.lt_size e))];exact Z6 _ _ e
 refine ⟨F.nolimit.keeps fun b o e=>k1 _ _ (kp _ _ e),codeAny_func ?_⟩;refine wpAny_execs_cons (plainObj_wpAny_Assign_Attribute (wpAny_Name (wpAny_loadName_local hk l2 hns₁ rfl (wpAny_Name (wpAny_loadName_local hk l1 hns₁ rfl ?_) (by decide))) (by decide)));have hne:e≠h₁.objs.size:=Nat.ne_of_lt (Heap.lt_size (k1 _ _ he));refine Znj (K:=c.K) ((F.kin.keeps kp).keeps k1) X.st (by simp) (k1 _ _ he) rfl rfl rfl fun h' tk t q1 q2 q3=>?_
 refine wpAny_execs_nil ?_;refine h h' tk h₁.objs.size t (fun b o hb e'=>q3 b o hb (k1 _ _ e')) ?_ hne q1 q2
 cases q:s.heap.get? h₁.objs.size with
 |none=>rfl
 |some o=>exact absurd (Heap.lt_size (k1 _ _ q)) (Nat.lt_irrefl _)
theorem Zsj {m:Str}{tm:Tok}{Q:Value→Shared→Prop}(F:Facts c)(X:ExcFacts c)(kp:∀b o,c.base.get? b=some o→s.heap.get? b=some o)(room:A.depth+1 < recursionLimit)
  (h:∀h' tk e,Zu9 c s.heap h' e m→Q (.ref e) { s with heap:=h',toks:=tk }):wpAny (model prog c.w) A (call (.ref c.exc) [.str m tm]) Q E s:=by
 obtain ⟨nm,q,N,bs,bm,sn,sub,ab,col,dd,k0,k1,k2,k3,k5,mN,fI,o,fd,p1,p2,p3,p4,hC,T,hB,hN,hi,hty,x1,x2,x3,x4,x5,x6,x7,x8,x9,x10,x11,x12,x13,x14⟩:=X.cls;have Fn:=PySem.F.excBase_Exception;obtain ⟨hh,g,d,t,os⟩:=s;have XK:=F.kin.keeps kp;have hC:=kp _ _ hC;have T:=T.keeps kp;have hn:=hN.keeps kp;dsimp only at hC T hn XK;have f1:=tc_lookup;have f2:=tc_bind (.ref c.exc);have hT:(⟨hh,g,d,t,os⟩:Shared).TypeIs (.ref c.exc) "type":=⟨_,hC,rfl⟩;refine wpAny_call (codeAny_of_tree ?_);show wpAny _ _ (callAny (.ref c.exc) _) _ _ _
 repeat (any_goals (first | assumption | with_reducible refine wpAny_loadPart_at hC ?_ | wp_step))
 refine ⟨rfl,?_⟩
 change codeAny _ _ (Code.call (.builtin "type.__call__") ⟨.ref c.exc::[.str m tm],[]⟩) _ _
 refine codeAny_call_builtin_at (Code.quiet_builtin _ (by decide +kernel)) entry_typeCall (wpAny_check_type_call_sub hC ?_)
 repeat (first | with_reducible refine wpAny_loadPart_at hC ?_ | with_reducible refine wpAny_madeBy_exc hC ?_ | wp_step)
 refine codeAny_call_builtin_code (Code.quiet_builtin _ Fn.quiet) (wpAny_check_new_subU Fn (by decide) T hC ?_);refine codeAny_exc_new_subU Fn (by decide) Fn T hC ?_ (show [Value.str m tm].length≤sizeLine from by rw [Z3];simp);show wpAny _ _ _ _ _ _;have hget:((hh.push { cls:=.type "tuple",data:=.seq [Value.str m tm].toArray }).push
   { cls:=.ref c.exc,data:=.fields #[.ref hh.objs.size,.none,.none,.none,.bool false,.none] }).get? (hh.objs.size+1)=some
   { cls:=.ref c.exc,data:=.fields #[.ref hh.objs.size,.none,.none,.none,.bool false,.none] }:=by heap_get
 have kk:∀b o,hh.get? b=some o→((hh.push { cls:=.type "tuple",data:=.seq [Value.str m tm].toArray }).push
   { cls:=.ref c.exc,data:=.fields #[.ref hh.objs.size,.none,.none,.none,.bool false,.none] }).get? b=some o:=fun b o e=>Heap.get?_push_of_some _ (Heap.get?_push_of_some _ e)
 have hC₁:=kk _ _ hC;have hn₁:=hn.keeps kk;have T₁:=T.keeps kk;have hcC:(Value.ref c.exc::bm).contains (.ref c.exc)=true:=by simp
 unfold isInstance
 repeat (first | with_reducible refine wpAny_loadPart_at hget ?_ | (with_reducible refine wpAny_isSubtype_exc hC₁ ?_;rw [hcC]) | wp_step)
 show wpAny _ _ (typeLookup (.ref c.exc) _) _ _ _;refine wpAny_typeLookup_tail hC₁ hn₁ T₁ Fn.mroIs Fn.init.lookup ?_;rw [hi];refine wpAny_holding (wpAny_bind ((bind_fn (M:=model prog c.w) (XK.keeps kk) _ hty).at ?_));refine wpAny_bind (wpAny_call ?_);refine Zsk (s:=⟨_,g,d,t,os⟩) F X (fun b o e=>kk _ _ (kp _ _ e)) x1 x2 x3 x4 x5 x6 x7 x8 x9 x10 x11 x12 x13 x14 hget (by rw [depth_under_make];exact room) fun h' tk d t' q1 q2 q3 q4 q5=>?_
 refine wpAny_pure ?_;show wpAny _ _ (ret (Value.ref (hh.objs.size+1))) _ _ _;refine wpAny_pure (h h' tk (hh.objs.size+1) ⟨hh.objs.size,d,t',tm,fun b o e=>q1 b o (fun q=>?_) (kk _ _ e),Heap.get?_none_of_le (Nat.le_succ _),?_,q3,q4,q5⟩)
 ·subst q;rw [Heap.get?_none_of_le (Nat.le_succ _)] at e;cases e
 ·cases q:hh.get? d with
  |none=>rfl
  |some o=>have:=kk _ _ q;dsimp only at q2;rw [q2] at this;cases this
end
section
variable {prog:Program}{c:Cx}{A:Around}{E:Value→Shared→Prop}{s:Shared}{env:PySem.Env}
theorem Zn9 {x:Sem Value}{Q:Flow→Shared→Prop}(X:ExcFacts c)(hh:A.handled=none)
  (h:wpAny (model prog c.w) A x (fun v s₁=>∃e tp d,v=.ref e∧(∀b o,c.base.get? b=some o→s₁.heap.get? b=some o)∧s₁.heap.get? e=some { cls:=.ref c.exc,dict:=some d,data:=.fields #[.ref tp,.none,.none,.none,.bool false,.none] }∧E (.ref e) s₁) E s):
  wpAny (model prog c.w) A (raiseStmt env (some x) none) Q E s:=by
 obtain ⟨nm,q,N,bs,bm,sn,sub,ab,col,dd,k0,k1,k2,k3,k5,mN,fI,o,fd,p1,p2,p3,p4,hC,T,hB,_⟩:=X.cls;have hcB:(Value.ref c.exc::bm).contains (.type "BaseException")=true:=by rw [List.contains_cons,hB,Bool.or_true]
 unfold raiseStmt;refine wpAny_bind (wpAny_mono h (fun v s₁ h₁=>?_) fun _ _ x=>x);obtain ⟨e,tp,d',rfl,kp,he,hE⟩:=h₁;obtain ⟨hp,g,d,tk,os⟩:=s₁;have hC:=kp _ _ hC;dsimp only at hC he
 repeat (first | with_reducible refine wpAny_loadPart_at he ?_ | with_reducible refine wpAny_loadPart_at hC ?_ | (with_reducible refine wpAny_isSubtype_exc hC ?_;rw [hcB]) | wp_step)
 exact wpAny_raiseNew_none hh hE
end
section
variable {prog:Program}{c:Cx}{A₀ A:Around}{env:PySem.Env}{G:Calls}
theorem SSnd.raise {e:Expr}{np cp pos:Pos}(F:Facts c)(X:ExcFacts c)(hk:env.kindOf "Refusal"=some .globalImplicit)(room:A.depth+1 < recursionLimit)(hs:Z7 e=true)(he:ESnd prog c A env G e):
  SSnd prog c A₀ A env (Zi G (.Raise (some (.Call (.Name "Refusal" np) [e] [] cp)) none pos)) (exec (.Raise (some (.Call (.Name "Refusal" np) [e] [] cp)) none pos) env):=by
 intro L Γ₀ σ₀ s₀ Γ σ s P ne;obtain ⟨Γ',P',le⟩:=P.settle e;have e0:Zi G (.Raise (some (.Call (.Name "Refusal" np) [e] [] cp)) none pos) L=(Za G (settle e L) e>>=fun a=>strM a>>=fun x=>Jc x):=by
  rw [Zi];rfl
 rw [e0] at ne ⊢;rw [arm_exec_Raise];refine wpAny_bind (wpAny_standAt ?_);show wpAny _ _ (raiseStmt env (some (do let v ←eval (.Call (.Name "Refusal" np) [e] [] cp) env;standAt pos;pure v)) none) _ _ s;refine Zn9 X P'.fr.handled (wpAny_bind ?_);rw [arm_eval_Call_Name'];refine wpAny_bind (Zb0 F hk (by decide) X.glob np _ _ ⟨_,_,P'.envr⟩ P'.pre ?_);have hs':∀x∈[e],Z7 x=true:=by simpa using hs
 refine callWith_of (P:=fun h=>c.K.In h) (first:=[]) (by show ((backTo cp (starEach [e] env)).any (·.1)||false)=false;rw [Zbx hs'];rfl) (Zcy X.keep) ?_;refine Snd.args hs' (wpAny_items_cons (sseq P' ne (he _ _).weak (K:=_) ?_) (Zac hs));intro a σ₁ Γ₁ v s₁ h0 P₁ y r ne1 e1;rw [e1];obtain ⟨t,k⟩:=a;have:∃x,t=.str x:=by
  cases t<;>first | (exact absurd rfl ne1;done) | exact ⟨_,rfl⟩
 obtain ⟨x,rfl⟩:=this;obtain ⟨u,rfl⟩:=(r.rep (fun _ q=>by cases q)).str_inv;refine wpAny_items_nil ⟨F.kin.keeps P₁.st.kept,?_⟩;refine Zsj F X P₁.st.kept room fun h' tk e' N=>wpAny_bind (wpAny_standAt (wpAny_pure ?_))
 obtain ⟨tp,d,t1,t2,kp,n1,n2,ne',q1,q2⟩:=N;have le:=P₁.st.loose n1;have ld:=P₁.st.loose n2;have S₁:=P₁.st.keeps kp;have y1:Step (frs A) Γ₁ σ₁ s₁.heap Γ₁ σ₁ h':=Step.keeps kp P₁.st;have y2:=y1.add (o:=Zn [⟨c.H "message",.str "message" t1,.str x t2⟩] 1) ld n2;refine ⟨e',tp,d,rfl,fun b o q=>kp _ _ (P₁.st.kept _ _ q),q1,x,σ₁,_,e',rfl,rfl,P₁.same.trans ⟨h',tk,rfl⟩,S₁.add ld q2,Step.inner P.st₀ P₁.step P.sub P.new y2,P₁.fr.step y2,?_⟩;exact ⟨_,d,_,t1,t2,1,q1,rfl,rfl,rfl,Gh.add_at,le.add ne',P₁.fr.fresh n1,Je P₁.step.alive n1,.inl rfl⟩
end
structure ExcGet (c:Cx):Prop where
 ga:findIn c.K (.ref c.exc) "__getattribute__"=some (some (.builtin "BaseException.__getattribute__"))
 hook:findIn c.K (.ref c.exc) "__getattr__"=some none
 msg:findIn c.K (.ref c.exc) "message"=some none
 cd:∃cd,clsIn c.K c.exc=some cd∧cd.hasDict=true∧cd.mro.isEmpty=false∧cd.mro.contains (.type "BaseException")=true
theorem Zr7 (self:Value):bindSpecial (.builtin "BaseException.__getattribute__") self=pure (.builtin "BaseException.__getattribute__",[self]):=
 (Slot.of (T:="Exception") (name:="__getattribute__") (owner:="BaseException") (n:="__getattribute__") (by rw [typeLookup_type,builtinLookup_eq_fast];kernel_rfl) (by decide +kernel) (by decide +kernel) (by decide +kernel)
  (.inl (by decide +kernel)) (by rw [isSubtype_type];kernel_rfl)).bind self
section
variable {prog:Program}{c:Cx}{A:Around}{E:Value→Shared→Prop}{s:Shared}
theorem Zsl {e d:Addr}{oe:Obj}{vs:Array Value}{t:Tok}{v:Value}{n:Nat}{Q:Value→Shared→Prop}(F:Facts c)(X:ExcGet c)(kp:∀b o,c.base.get? b=some o→s.heap.get? b=some o)
  (he:s.heap.get? e=some oe) (h1:oe.cls=.ref c.exc) (h2:oe.dict=some d) (h3:oe.data=.fields vs) (hd:s.heap.get? d=some (Zn [⟨c.H "message",.str "message" t,v⟩] n)) (hv:handedIn v=true)
  (h:∀tk,Q v { s with toks:=tk }):wpAny (model prog c.w) A (getAttr (.ref e) "message" true) Q E s:=by
 obtain ⟨hh,g,dr,tk,os⟩:=s;have XK:=F.kin.keeps kp;dsimp only at XK he hd;have I:InstAt hh e oe c.exc (some (Zn [⟨c.H "message",.str "message" t,v⟩] n)):=⟨he,h1,by unfold notCls;rw [h3],by rw [h2];exact hd⟩;obtain ⟨cd,c1,c2,c3,c4⟩:=X.cd;have ty:=I.type (M:=model prog c.w);have sub:Looks (model prog c.w) hh (isInstance (.ref e) (.type "BaseException")) true:=ty.andThen (looks_mroIn XK (by unfold mroIn;rw [c1,Option.bind_some,if_neg (by rw [c3];decide),c4]));have fo:findObj c.K c.exc (some (Zn [⟨c.H "message",.str "message" t,v⟩] n)) "message"=some (.value v):=by
  unfold findObj;rw [c1,Option.bind_some,X.msg,Option.bind_some];have:lookIn "message" (Zn [⟨c.H "message",.str "message" t,v⟩] n)=some (some v):=rfl;simp only [Option.bind_some,W.ownOf,c2,if_true,this]
 have fnd:=looks_find (M:=model prog c.w) XK I fo;have ho:handedOut v=pure v:=handedOut_of hv;unfold getAttr getAttrBy;refine wpAny_bind (wpAny_mkText (wpAny_holding (wpAny_bind (ty.at (wpAny_bind ((looks_findIn (M:=model prog c.w) XK X.ga).at ?_))))));have hb:(onTheHeap (.ref c.exc)&&Value.builtin "BaseException.__getattribute__" == Value.builtin "object.__getattribute__")=false:=by
  have:(Value.builtin "BaseException.__getattribute__" == Value.builtin "object.__getattribute__")=false:=by decide +kernel
  rw [this];rfl
 dsimp only;rw [if_neg (by rw [hb];decide)];unfold getAttrByItsOwn;refine wpAny_bind ?_;show wpAny _ _ (typeLookup (.ref c.exc) "__getattr__") _ _ _;refine (looks_findIn (M:=model prog c.w) XK X.hook).at ?_;refine wpAny_bind (wpAny_attempt (wpAny_holding ?_));show wpAny _ _ (boundAndCalled (.builtin "BaseException.__getattribute__") (.ref e) (.str "message" tk)) _ _ _;unfold boundAndCalled;rw [Zr7];refine wpAny_bind (wpAny_pure (wpAny_call ?_));refine codeAny_call_builtin (by decide +kernel) PySem.F.entry_bexc_ga (@check_slot (model prog c.w) _ _ ⟨hh,g,dr,tk+1,os⟩ "BaseException.__getattribute__" "BaseException" "__getattribute__" (.ref e) [.str "message" tk] [] _ (by decide +kernel) (by decide +kernel) sub (PySem.F.args_bexc_ga _ _) ?_);refine wpAny_bind (wpAny_pure (wpAny_bind (wpAny_pure (wpAny_bind (ty.at (wpAny_bind (fnd.at ?_)))))));refine wpAny_pure ?_;show wpAny _ _ (handedOut v) _ _ _;rw [ho];exact wpAny_pure (h _)
end
structure LamFacts (c:Cx):Prop where
 head:CodeHd c.base c.code c.tab
 blt:c.base.BuiltinsAt c.mg c.tab
 ne:mainGlobals≠c.tab
abbrev Jf:Arguments:={ posonlyargs:=[],args:=[],vararg:=none,kwonlyargs:=[],kw_defaults:=[],kwarg:=none,defaults:=[] }
section
variable {prog:Program}{c:Cx}{A:Around}{I:Inv (frs A)}{fr:List Addr}{Γ:Gh}{σ:Sg}{h h':Heap}{s:Shared}{env:PySem.Env}{E:Value→Shared→Prop}
theorem Zme {ps':Array Value}{a:Addr}{o:Obj}{vs:Array Value}{t:Tok}(S:St c Γ σ h)(kp:∀b o,b≠c.tab→h.get? b=some o→h'.get? b=some o)(ht:h'.get? c.tab=some (tabObj ps'))(h1:TriplesOk ps'.toList)
  (l:Loose Γ a) (na:h.get? a=none) (ea:h'.get? a=some o) (h2:codeAmong c.lamPos ps'.toList=some (.ref a)) (h3:o.data=.fields vs) (h4:vs[1]?=some (.str c.lamQual t)):
  St c (Γ.add a o) σ h'∧Step fr Γ σ h (Γ.add a o) σ h':=by
 have le:=Gh.le_add (o:=o) l.1;obtain ⟨⟨m1,mt⟩,ps,m2,_⟩:=S.tab;rw [mt] at m1 m2;obtain ⟨p1,p2,_⟩:=S.apart _ m1;have nd:∀{d:Addr} {o:Obj},h.get? d=some o→o.cls≠.none→d≠c.tab:=fun e hc q=>by subst q;rw [m2] at e;cases e;exact hc rfl
 have id':∀{d y},IDict c h d y→IDict c h' d y:=by
  rintro d y ⟨sh,t1,t2,t3,t4,t5,m,e⟩
  exact ⟨sh,t1,t2,t3,t4,t5,m,kp d _ (nd e (by simp)) e⟩
 have al:∀b o,h.get? b=some o→∃o',h'.get? b=some o':=fun b o e=>by
  by_cases q:b=c.tab
  ·subst q;exact ⟨_,ht⟩
  ·exact ⟨o,kp b o q e⟩
 have stp:Step fr Γ σ h Γ σ h':=by
  refine ⟨.refl _,al,fun b o e hm _ _=>kp b o (fun q=>hm (q▸m1)) e,fun b o _ e l=>⟨o.slots,kp b o (fun q=>l.2.2 (q▸m1)) e⟩,fun _ _ _=>⟨rfl,rfl,id⟩,fun _ e=>.inl e,
   fun v v' e e' _=>⟨by rw [e] at e';exact (Option.some.inj e').symm,fun b hm _ hb=>?_⟩,fun v e=>⟨v,e,Nat.le_refl _⟩⟩
  obtain ⟨_,_,o,e⟩:=S.apart b hm;rw [e];exact kp b o (fun q=>hb (q.trans mt.symm)) e
 refine ⟨⟨fun b o e=>le.obj _ _ (S.base b o e),fun b o' e=>?_,fun d y e=>id' (S.idc d y e),fun b e=>?_,fun b x e=>?_,?_,?_,?_⟩,stp.add l na⟩
 ·by_cases hb:b=a
  ·subst hb;rw [Gh.add_at] at e;cases e;exact ea
  ·rw [Gh.add_ne hb] at e;exact kp b o' (fun q=>by subst q;rw [p1] at e;cases e) (S.obj b o' e)
 ·obtain ⟨q1,q2,o',q3⟩:=S.apart b e;have hb:b≠a:=fun z=>l.2.2 (z▸e)
  exact ⟨(Gh.add_ne hb).trans q1,q2,al b o' q3⟩
 ·have hb:b≠a:=fun z=>by subst z;have:=l.2.1;rw [show Γ.idc b=some x from e] at this;cases this
  rw [Gh.add_ne hb];exact S.apart2 b x e
 ·have q:=S.row
  cases hr:σ.row with
  |none=>rw [hr] at q;exact q
  |some ns=>
   rw [hr] at q;obtain ⟨r,ws,m,a1,a2,a3,a5⟩:=q;exact ⟨r,ws,m,a1,a2,kp _ _ (nd a3 (by simp)) a3,a5⟩
 ·have q:=S.self
  cases hs:σ.self with
  |none=>rw [hs] at q;exact q
  |some v=>
   rw [hs] at q;refine SelfOk.mono ?_ le;obtain ⟨a',d,ik,ii,ia,t,b1,b2,b3,b4,b5,b6,b7⟩:=q;refine ⟨a',d,ik,ii,ia,t,b1,b2,b3,id' b4,b5,b6,?_⟩
   cases ha:v.attrs with
   |none=>rw [ha] at b7;exact b7
   |some es=>
    rw [ha] at b7;obtain ⟨D,ds,m,c1,c2,c3,c4,c5,c6⟩:=b7;exact ⟨D,ds,m,c1,c2,c3,c4,kp D _ (nd c5 (by simp)) c5,c6⟩
 ·have mt':(Γ.add a o).tab=c.tab:=mt;exact ⟨⟨by rw [mt'];exact m1,mt'⟩,ps',by rw [mt'];exact ht,h1,.inr ⟨a,o,vs,t,h2,Gh.add_at,h3,h4⟩⟩
def Zlo (c:Cx)(env:PySem.Env)(b:Expr)(sc:Scope)(cl:List (Str×Addr))(h:Heap)(f:Addr):Prop:=
 ∃cd ctv,h.get? f=some { cls:=.type "function",data:=.func (kla_fn "<lambda>" (env.qual++"<lambda>") Jf b sc cl ((c.mg "__name__").getD .none) cd ctv) }∧h.CodeRec cd (env.qual++"<lambda>")
theorem Zq5 {b:Expr}{sc:Scope}{cl:List (Str×Addr)}{Q:Value→Shared→Prop}(F:Facts c)(X:LamFacts c)(P:Pre c A I Γ σ s)(hg:env.globals=mainGlobals)(hc:env.code=.ref c.code)(hq:env.qual++"<lambda>"=c.lamQual)(hcl:closureFor sc env=pure cl)
  (h:∀f Γ' s',Pre c A I Γ' σ s'→Same s s'→Step (frs A) Γ σ s.heap Γ' σ s'.heap→New A s.heap Γ' f→Zlo c env b sc cl s'.heap f→Q (.ref f) s'):
  wpAny (model prog c.w) A (eval (.Lambda Jf b sc c.lamPos) env) Q E s:=by
 refine kla_eval rfl ?_;have kp:=P.st.kept;have hns:=F.g.keeps kp;obtain ⟨⟨m1,mt⟩,ps,m2,m3,m4⟩:=P.st.tab;rw [mt] at m1 m2;have hb:s.heap.BuiltinsAt c.mg c.tab:=by
  obtain ⟨bm,o,b1,b2,b3,b4,b5,b6⟩:=X.blt;exact ⟨bm,o,b1,b2,b3,b4,kp _ _ b5,b6⟩
 have hd:=X.head.keeps kp;rcases m4 with hn | ⟨a,o,vs,t,ha,ho,h1,h2⟩
 ·refine kla_makeFunction (mg:=c.mg) hcl hg hns hc hd m2 m3 hn X.ne hb fun c' ctv h' tk hx hge hlt hrec htb=>?_
  obtain ⟨c₂,oc,vs,t,e2,hoc,hdc,hv⟩:=hrec;cases e2;have n1:s.heap.get? c'=none:=Heap.get?_none_of_le hge;have l1:=P.st.loose n1;have am:=codeAmong_snoc (c:=.ref c') ps.toList m3 hn;have cmp:∀b o,s.heap.get? b=some o→b≠h'.objs.size:=fun b o e=>by
   by_cases q:b=c.tab
   ·subst q;exact Nat.ne_of_lt (Heap.lt_size htb)
   ·exact Nat.ne_of_lt (Heap.lt_size (hx b o q e))
  obtain ⟨S₁,y₁⟩:=Zme (fr:=frs A) (a:=c') (o:=oc) (vs:=vs) (t:=t) P.st (fun b o hb e=>hx b o hb e) htb (by rw [Array.toList_append];exact TriplesOk_snoc _ _ _ _ m3) l1 n1 hoc (by rw [Array.toList_append];exact am) hdc (by rw [←hq];exact hv);have nf:s.heap.get? h'.objs.size=none:=by
   cases q:s.heap.get? h'.objs.size with
   |none=>rfl
   |some o=>exact absurd rfl (cmp _ _ q)
  have P₁:Pre c A I (Γ.add c' oc) σ { s with heap:=h',toks:=tk }:=P.next S₁ y₁;obtain ⟨P₂,y₂,_⟩:=P₁.push (kla_obj "<lambda>" (env.qual++"<lambda>") Jf b sc cl ((c.mg "__name__").getD .none) c' ctv) tk;refine h h'.objs.size _ _ P₂ ⟨_,tk,rfl⟩ (Step.trans P.st y₁ y₂) ⟨P₁.st.loose (Qp h'),P.fr.fresh nf,nf⟩ ⟨.ref c',ctv,Heap.get?_push_size _ rfl,c',oc,vs,t,rfl,Z6 _ _ hoc,hdc,hv⟩
 ·refine kla_makeFunctionHit (mg:=c.mg) hcl hg hns hc hd m2 m3 ha hb fun ctv h' tk kk hsz=>?_
  have S₁:=P.st.keeps kk;have y₁:Step (frs A) Γ σ s.heap Γ σ h':=Step.keeps kk P.st;have nf:s.heap.get? h'.objs.size=none:=Heap.get?_none_of_le hsz;have P₁:Pre c A I Γ σ { s with heap:=h',toks:=tk }:=P.next S₁ y₁;obtain ⟨P₂,y₂,_⟩:=P₁.push { cls:=.type "function",data:=.func (kla_fn "<lambda>" (env.qual++"<lambda>") Jf b sc cl ((c.mg "__name__").getD .none) (.ref a) ctv) } tk;refine h h'.objs.size _ _ P₂ ⟨_,tk,rfl⟩ (Step.trans P.st y₁ y₂) ⟨P₁.st.loose (Qp h'),P.fr.fresh nf,nf⟩ ⟨.ref a,ctv,Heap.get?_push_size _ rfl,a,o,vs,t,rfl,Z6 _ _ (kk _ _ (P.st.obj _ _ ho)),h1,by rw [hq];exact h2⟩
end
structure KeptAt (c:Cx) (fk:Addr):Prop where
 glob:c.mg "_law_kept"=some (.ref fk)
 keep:keepIn c.K (.ref fk)=true
 at_:∃o fd p1 p2 p3 p4 p5 p6 p7 p8 p9,c.base.get? fk=some o∧o.data=.func fd∧
  fd.body=.stmts [.Try [.Return (some (.Call (.Name "ask" p1) [] [] p2)) p3] [.ExceptHandler (some (.Name "Refusal" p4)) (some "error") [.Return (some (.Attribute (.Name "error" p5) "message" p6)) p7] p8] [] [] p9]∧
  fd.scope.kind=.function∧fd.scope.isCoroutine=false∧fd.scope.isGenerator=false∧(∀x∈fd.scope.names,x.2≠.cell)∧
  fd.scope.names.lookup ("ask":Str)=some .local∧fd.scope.names.lookup ("error":Str)=some .local∧fd.scope.names.lookup ("Refusal":Str)=some .globalImplicit∧
  fd.globals=mainGlobals∧fd.closure=[]∧fd.builtins=builtinsNs∧c.base.CodeRec fd.code fd.qualname∧∀(s:Shared) (v:Value),BindsTo s fd ⟨[v],[]⟩ [("ask",v)]
structure ScL (f:Str→Bool) (sc:Scope):Prop where
 kind:sc.kind=.function
 co:sc.isCoroutine=false
 gen:sc.isGenerator=false
 nodup:(sc.names.map (·.1)).Nodup
 cell:∀p∈sc.names,p.2≠.cell
 free:∀p∈sc.names,p.2=.free→f p.1=true
section
variable {prog:Program}{c:Cx}{A A₀:Around}{fr:List Addr}{Γ Γ₁:Gh}{σ σ₁:Sg}{h h₁:Heap}{s:Shared}{env:PySem.Env}{L:Ev}{G:Calls}{E:Value→Shared→Prop}{g f:Str→Bool}{sc:Scope}{cl:List (Str×Addr)}
theorem EnvS.lam {le:PySem.Env}(S:EnvS g f env)(ok:ScL f sc)(hc:∀y,(y,NameKind.free)∈sc.names→cl.lookup y=env.cells.lookup y)(h1:le.scope=sc)(h2:le.cells=cl):EnvS (isK' sc .globalImplicit) (isK' sc .free) le:=by
 have kOf:∀y,le.kindOf y=sc.names.lookup y:=fun y=>by show le.scope.names.lookup y=_;rw [h1]
 refine ⟨fun y hy=>?_,fun y hy=>?_⟩
 ·rw [kOf];simpa [isK'] using hy
 ·have hy:sc.names.lookup y=some .free:=by simpa [isK'] using hy
  have hm:=J4 hy;obtain ⟨_,ca,q⟩:=S.cell y (ok.free _ hm rfl);exact ⟨.inr ((kOf y).trans hy),ca,by rw [h2];exact (hc y hm).trans q⟩
theorem EnvR.lam {old old':Heap}{m:Str→Option Value}{le:PySem.Env}{fr':List Addr}(E:EnvR c old Γ h fr env L)(S:EnvS g f env)(ok:ScL f sc)(hc:∀y,(y,NameKind.free)∈sc.names→cl.lookup y=env.cells.lookup y)
  (h1:le.scope=sc) (h2:le.cells=cl) (h3:le.globals=mainGlobals) (h4:le.builtins=builtinsNs) (hn:h.Ns le.locals m) (lC:Loose Γ le.locals):EnvR c old' Γ h fr' le { loc:=Qv sc L.loc }:=by
 obtain ⟨e1,e2,e3,m₀,e4,e5,e6,_⟩:=E;have kOf:∀y,le.kindOf y=sc.names.lookup y:=fun y=>by show le.scope.names.lookup y=_;rw [h1]
 have ow:OwnsOk c old' Γ h fr' le m []:=by
  refine ⟨fun _=>[],?_,?_,?_,?_⟩
  ·intro p hp;cases hp
  ·intro p hp;cases hp
  ·exact List.nodup_nil
  ·intro p hp;cases hp
 refine ⟨by rw [h1];exact ok.kind,h3,h4,m,hn,lC,fun y t' hy=>?_,ow⟩;dsimp only at hy;unfold Qv at hy;split at hy
 ·rename_i hk;have hm':=Zjm hk;obtain ⟨w,b,r'⟩:=e6 y t' hy;obtain ⟨k1,ca,k2⟩:=S.cell y (ok.free _ hm' rfl);rcases b with ⟨b1,_⟩ | ⟨k,cb,b1,b2,b3,b4,b5⟩
  ·rcases k1 with k1 | k1<;>rw [b1] at k1<;>cases k1
  ·exact ⟨w,.inr ⟨.free,cb,.inr rfl,(kOf y).trans (Jt ok.nodup hm'),by rw [h2];exact (hc y hm').trans b3,b4,b5⟩,r'⟩
 ·cases hy
theorem FrOk.less {e:PySem.Env}(F:FrOk (A.deeper e) Γ h)(hl:∃l,A.frames=some l):FrOk A Γ h:=by
 obtain ⟨l',hl'⟩:=hl;obtain ⟨⟨l,hl,hF⟩,hh⟩:=F;rw [Around.frames_deeper hl'] at hl;cases hl;exact ⟨⟨l',hl',fun e he=>hF e (by simp [he])⟩,hh⟩
theorem FrOk.more {e:PySem.Env}{F:Addr}{o:Obj}(X:FrOk A Γ h)(hk:e.scope.kind≠.module)(hf:e.frame=some F)(ho:h.get? F=some o)(hd:∀vs,o.data≠.fields vs)(l:Loose Γ F):FrOk (A.deeper e) Γ h:=by
 obtain ⟨⟨l',hl,hF⟩,hh⟩:=X;refine ⟨⟨e::l',Around.frames_deeper hl,fun x hx=>?_⟩,hh⟩;rcases List.mem_cons.mp hx with rfl | hx
 ·exact ⟨hk,F,o,hf,ho,hd,l⟩
 ·exact hF x hx
theorem Zvb {A:Around}{m:Str→Option Value}{a:Addr}(x:Step (frs A) Γ σ h Γ₁ σ₁ h₁)(l:Loose Γ a)(n:h.Ns a m):h₁.Ns a m∧Loose Γ₁ a:=x.ns l n
def Zu7 (c:Cx)(A₀:Around)(Γ₀:Gh)(σ₀:Sg)(s₀:Shared)(Γ:Gh)(σ:Sg)(msg:Str)(fl:Flow)(s':Shared):Prop:=
 ∃t,fl=.ret (.str msg t)∧Same s₀ s'∧St c Γ σ s'.heap∧Step (frs A₀) Γ₀ σ₀ s₀.heap Γ σ s'.heap
theorem Zrf {s₀:Shared}{Γ₀:Gh}{σ₀:Sg}{L1 ea:Addr}{p4 p5 p6 p7 p8:Pos}{kenv:PySem.Env}{m:Str→Option Value}{msg:Str}{x:Value}(F:Facts c)(XE:ExcFacts c)(XG:ExcGet c)(hk:kenv.scope.kind=.function)(hl:kenv.kindOf "error"=some .local)
  (hr:kenv.kindOf "Refusal"=some .globalImplicit) (hgl:kenv.globals=mainGlobals) (hL:kenv.locals=L1) (hL0:s₀.heap.get? L1=none) (hsm:Same s₀ s)
  (X:XB c A A Γ₁ σ₁ h Γ σ s.heap) (T:ExT c A h Γ s.heap ea msg (some x)) (hn:h.Ns L1 m) (lL:Loose Γ₁ L1) (ne:ea≠L1)
  (base:Step (frs A₀) Γ₀ σ₀ s₀.heap Γ₁ σ₁ h) (S₀:St c Γ₀ σ₀ s₀.heap) (sub:∀b∈frs A₀,b∈frs A) (new:∀b∈frs A,b∈frs A₀∨s₀.heap.get? b=none):
  wpAny (model prog c.w) A (handleBy (.ref ea) kenv [.ExceptHandler (some (.Name "Refusal" p4)) (some "error") [.Return (some (.Attribute (.Name "error" p5) "message" p6)) p7] p8]) (Zu7 c A₀ Γ₀ σ₀ s₀ Γ σ msg) E s:=by
 obtain ⟨nm,q,N,bs,bm,sn,sub',ab,col,dd,k0,k1,k2,k3,k5,mN,fI,o,fd,q1,q2,q3,q4,hC,T',hB,_⟩:=XE.cls;have kp:=X.st.kept;obtain ⟨oe,de,vs,t,t',n,a1,a2,a3,a4,a5,a6,a7,a8,a9⟩:=T;have T₀:ExT c A h Γ s.heap ea msg (some x):=⟨oe,de,vs,t,t',n,a1,a2,a3,a4,a5,a6,a7,a8,a9⟩;refine wpAny_handleBy_cons (codeAny_handlers_test (Zfu hk hr (mg:=c.mg) (by rw [hgl];exact F.g.keeps kp) XE.glob (by decide) ?_)) (by intro q;cases q);obtain ⟨hh,gg,dr,tk,os⟩:=s;refine wpAny_excMatches_sub_self (kp _ _ hC) a1 a2 hB (codeAny_handlers_suite_as ?_);refine Zds (s:=⟨hh,gg,dr,tk,os⟩) X T₀ fun h₁ X₁ T₁=>?_
 obtain ⟨oe,de,vs,t,t',n,a1,a2,a3,a4,a5,a6,a7,a8,a9⟩:=T₁;obtain ⟨hn₁,lL₁⟩:=X₁.step.ns lL hn;have y₁:=Step.inner S₀ base sub new X₁.step;subst hL;refine wpAny_storeName_local hl hn₁ (fun h₂ hn₂ sb₂=>?_) (by rw [hk];rfl);obtain ⟨S₂,y₂⟩:=Zar X₁.st y₁ hL0 lL₁ sb₂;have kp₂:=S₂.kept;refine wpAny_execs_cons (wpAny_Return_some (Attribute_any_ (wpAny_Name (wpAny_loadName_local hk hl hn₂ (if_pos rfl) ?_) (by decide)) (by rw [arm_eval_Attribute,Zbl rfl])));refine Zsl (s:={ heap:=h₂,gens:=gg,drawn:=dr,toks:=tk+1,os:=os }) F XG kp₂ ((sb₂.2 ea ne).trans a1) a2 a3 a4 (S₂.obj _ _ a5) rfl fun tk'=>?_
 refine wpAny_nameGoes hl hn₂ (by rw [hk];rfl) fun h₃ m₃ hn₃ sb₃=>?_
 obtain ⟨S₃,y₃⟩:=Zar S₂ y₂ hL0 lL₁ sb₃;exact ⟨t',rfl,hsm.trans ⟨h₃,_,rfl⟩,S₃,y₃⟩
end
section
variable {prog:Program}{c:Cx}{A₀:Around}{Γ:Gh}{σ:Sg}{s:Shared}{env:PySem.Env}{L:Ev}{G:Calls}{E:Value→Shared→Prop}{g f:Str→Bool}{sc:Scope}{cl:List (Str×Addr)}{old:Heap}
theorem Zrg {fk lam:Addr}{b:Expr}(F:Facts c)(XE:ExcFacts c)(XG:ExcGet c)(KF:KeptAt c fk)(P:Pre c A₀ (envI c old (frs A₀) env L) Γ σ s)(ES:EnvS g f env)(ok:ScL f sc)(hc:∀y,(y,NameKind.free)∈sc.names→cl.lookup y=env.cells.lookup y)
  (il:Zlo c env b sc cl s.heap lam) (room:A₀.depth+1 < recursionLimit)
  (hb:∀kenv le,EnvS (isK' sc .globalImplicit) (isK' sc .free) le→ESnd prog c ((A₀.deeper kenv).deeper le) le G b)
  (ne:Q4 (Za G { loc:=Qv sc L.loc } b) σ≠.stuck):
  wpAny (model prog c.w) A₀ (call (.ref fk) [.ref lam]) (QOf c A₀ Γ σ s (RV c (frs A₀)) (Q4 (Za G { loc:=Qv sc L.loc } b) σ)) E s:=by
 obtain ⟨o,fd,p1,p2,p3,p4,p5,p6,p7,p8,p9,x1,x2,x3,x4,x5,x6,x7,x8,x9,x10,x11,x12,x13,x14,x15⟩:=KF.at_;obtain ⟨cd,ctv,l1,l2⟩:=il;have kp:=P.st.kept;have ne1:Za G { loc:=Qv sc L.loc } b σ≠.stuck:=fun q=>ne (by unfold Q4;rw [q])
 obtain ⟨fl,hfl⟩:∃l,A₀.frames=some l:=by obtain ⟨⟨l,hl,_⟩,_⟩:=P.fr;exact ⟨l,hl⟩
 refine wpAny_call (codeAny_call_function (Nat.lt_of_succ_lt room) (kp _ _ x1) x2 x5 x6 x3 (x14.keeps kp) (x15 s (.ref lam) _ _ _ _ ?_));rw [x11,x12,x13];refine wpAny_newFunctionEnv x7 (by intro p hp;simp at hp;subst hp;exact x8) (fun h₁ hns₁ hsb₁=>?_) x4;have k1:∀b o,s.heap.get? b=some o→h₁.get? b=some o:=fun b o e=>by
  rw [hsb₁.2 b (Nat.ne_of_lt (Heap.lt_size e))];exact Z6 _ _ e
 refine ⟨F.nolimit.keeps fun b o e=>k1 _ _ (kp _ _ e),codeAny_func ?_⟩
 generalize hke:newEnv fd.scope s.heap.objs.size mainGlobals [] (fd.qualname++".<locals>.") (some fk) fd.code none builtinsNs=kenv
 have hkL:kenv.locals=s.heap.objs.size:=by rw [←hke];rfl
 have hkS:kenv.scope=fd.scope:=by rw [←hke];rfl
 have hkG:kenv.globals=mainGlobals:=by rw [←hke];rfl
 have hkF:kenv.frame=some kenv.locals:=by rw [←hke];rfl
 have kOf:∀y,kenv.kindOf y=fd.scope.names.lookup y:=fun y=>by show kenv.scope.names.lookup y=_;rw [hkS]
 have hk:kenv.scope.kind=.function:=by rw [hkS];exact x4
 rw [←hkL] at hns₁ hsb₁;have nL:s.heap.get? kenv.locals=none:=by rw [hkL];exact Qp _
 have lL:Loose Γ kenv.locals:=P.st.loose nL;have S₁:=P.st.keeps k1;have base:Step (frs A₀) Γ σ s.heap Γ σ h₁:=Step.keeps k1 P.st;have hA1:(A₀.deeper kenv).frames=some (kenv::fl):=Around.frames_deeper hfl;have fr1:frs (A₀.deeper kenv)=kenv.locals::frs A₀:=Zgc ⟨fl,hfl⟩ hkF;have sub1:∀b∈frs A₀,b∈frs (A₀.deeper kenv):=fun b hb=>by rw [fr1];exact .tail _ hb
 have new1:∀b∈frs (A₀.deeper kenv),b∈frs A₀∨s.heap.get? b=none:=fun b hb=>by
  rw [fr1] at hb;rcases List.mem_cons.mp hb with rfl | hb
  ·exact .inr nL
  ·exact .inl hb
 have FR1:FrOk (A₀.deeper kenv) Γ h₁:=by
  obtain ⟨o',es,ep,q1,q2,_⟩:=hns₁;exact (P.fr.step base).more (by rw [hk];decide) hkF q1 (fun vs q=>by rw [q2] at q;cases q) lL
 refine wpAny_execs_cons (wpAny_Try_except (wpAny_execs_cons (wpAny_Return_some ?_)));rw [arm_eval_Call_Name'];refine wpAny_bind (wpAny_Name (wpAny_loadName_local hk ((kOf _).trans x8) hns₁ rfl ?_) (by decide));refine Calls.callWith_function (o:={ cls:=.type "function",data:=.func (kla_fn "<lambda>" (env.qual++"<lambda>") Jf b sc cl ((c.mg "__name__").getD .none) cd ctv) }) (fd:=kla_fn "<lambda>" (env.qual++"<lambda>") Jf b sc cl ((c.mg "__name__").getD .none) cd ctv) (Snd.args (by simp) (wpAny_items_nil ?_));refine ⟨⟨k1 _ _ l1,rfl⟩,wpAny_call (kla_callFunE (show (A₀.deeper kenv).depth < recursionLimit from by rw [depth_deeper];exact room) (k1 _ _ l1) rfl ok.co ok.gen rfl (l2.keeps k1) ?_)⟩;show wpAny _ _ (bindArgs (kla_fn "<lambda>" (env.qual++"<lambda>") Jf b sc cl ((c.mg "__name__").getD .none) cd ctv) ⟨[],[]⟩) _ _ _;rw [show bindArgs (kla_fn "<lambda>" (env.qual++"<lambda>") Jf b sc cl ((c.mg "__name__").getD .none) cd ctv) ⟨[],[]⟩=pure [] from rfl];refine wpAny_pure (wpAny_newFunctionEnv ok.cell (by intro p hp;cases hp) (fun h₂ hns₂ hsb₂=>?_) ok.kind);dsimp only at hns₂ hsb₂ ⊢;have k2:∀b o,h₁.get? b=some o→h₂.get? b=some o:=fun b o e=>by
  rw [hsb₂.2 b (Nat.ne_of_lt (Heap.lt_size e))];exact Z6 _ _ e
 refine ⟨F.nolimit.keeps fun b o e=>k2 _ _ (k1 _ _ (kp _ _ e)),kla_codeExpr ?_⟩
 generalize hle:newEnv sc h₁.objs.size mainGlobals cl (env.qual++"<lambda>"++".<locals>.") (some lam) cd none builtinsNs=le
 have hlL:le.locals=h₁.objs.size:=by rw [←hle];rfl
 have hlS:le.scope=sc:=by rw [←hle];rfl
 have hlC:le.cells=cl:=by rw [←hle];rfl
 have hlF:le.frame=some le.locals:=by rw [←hle];rfl
 rw [←hlL] at hns₂ hsb₂;have nl:h₁.get? le.locals=none:=by rw [hlL];exact Qp _
 have ll:Loose Γ le.locals:=S₁.loose nl;have S₂:=S₁.keeps k2;have base2:Step (frs (A₀.deeper kenv)) Γ σ h₁ Γ σ h₂:=Step.keeps k2 S₁;have hA2:((A₀.deeper kenv).deeper le).frames=some (le::kenv::fl):=Around.frames_deeper hA1;have fr2:frs ((A₀.deeper kenv).deeper le)=le.locals::frs (A₀.deeper kenv):=Zgc ⟨_,hA1⟩ hlF;have sub2:∀b∈frs (A₀.deeper kenv),b∈frs ((A₀.deeper kenv).deeper le):=fun b hb=>by rw [fr2];exact .tail _ hb
 have new2:∀b∈frs ((A₀.deeper kenv).deeper le),b∈frs (A₀.deeper kenv)∨h₁.get? b=none:=fun b hb=>by
  rw [fr2] at hb;rcases List.mem_cons.mp hb with rfl | hb
  ·exact .inr nl
  ·exact .inl hb
 have FR2:FrOk ((A₀.deeper kenv).deeper le) Γ h₂:=by
  obtain ⟨o',es,ep,q1,q2,_⟩:=hns₂;exact (FR1.step base2).more (by rw [hlS,ok.kind];decide) hlF q1 (fun vs q=>by rw [q2] at q;cases q) ll
 have ER:EnvR c old Γ s.heap (frs A₀) env L:=P.inv;have b02:Step (frs A₀) Γ σ s.heap Γ σ h₂:=Step.keeps (fun b o e=>k2 _ _ (k1 _ _ e)) P.st
 have ER2:EnvR c h₂ Γ h₂ (frs ((A₀.deeper kenv).deeper le)) le { loc:=Qv sc L.loc }:=
  (ER.step b02).lam ES ok hc hlS hlC (by rw [←hle];rfl) (by rw [←hle];rfl) hns₂ ll
 have PP:Pre c ((A₀.deeper kenv).deeper le) (envI c h₂ (frs ((A₀.deeper kenv).deeper le)) le { loc:=Qv sc L.loc }) Γ σ { s with heap:=h₂,toks:=s.toks+[(("ask":Str),Value.ref lam)].length+([]:List (Str×Value)).length }:=⟨S₂,FR2,ER2⟩;refine wpAny_mono ((hb kenv le (ES.lam ok hc hlS hlC) h₂ { loc:=Qv sc L.loc }).toRF Γ σ _ PP ne1) (fun v s' q=>?_) fun e s' q=>?_
 ·obtain ⟨a,σ',e,Γ',y1,y2,y3,y4⟩:=q;show QOf c A₀ Γ σ s (RV c (frs A₀)) (Q4 (Za G { loc:=Qv sc L.loc } b) σ) v s';have e2:Q4 (Za G { loc:=Qv sc L.loc } b) σ=if a.2=.h then .stuck else .ok (a.1,.val) σ':=by unfold Q4;rw [e]
  rw [e2] at ne ⊢;have ha:a.2≠.h:=fun q=>ne (if_pos q)
  rw [if_neg ha];have rv:Rep c Γ' a.1 v:=by
   rcases y4 with ⟨q,_⟩ | ⟨_,q⟩
   ·exact absurd q ha
   ·exact q
  have z1:=Step.inner S₁ base2 sub2 new2 y3;have z0:=Step.inner P.st base sub1 new1 z1;exact ⟨_,σ',rfl,Γ',⟨s'.heap,s'.toks,by obtain ⟨h',t',rfl⟩:=y1;rfl⟩,y2,z0,Jr rv⟩
 ·obtain ⟨msg,σ',e1,Γ',ea,rfl,y1,y2,y3,ex⟩:=q;have e2:Q4 (Za G { loc:=Qv sc L.loc } b) σ=.ok (.str msg,.val) σ':=by unfold Q4;rw [e1]
  have z1:=Step.inner S₁ base2 sub2 new2 y3;have X:XB c (A₀.deeper kenv) ((A₀.deeper kenv).deeper le) Γ σ h₁ Γ' σ' s'.heap:=⟨S₁,y2,z1,FR2.step y3,sub2,new2⟩;obtain ⟨fl',T⟩:=(ex.back (h₀:=h₁) (fun x o q=>⟨o,k2 _ _ q⟩)).t;refine Zje X T hA2 hlF fun h' X' T'=>?_
  have F1:FrOk (A₀.deeper kenv) Γ' h':=X'.fr.less ⟨_,hA1⟩;have X1:XB c (A₀.deeper kenv) (A₀.deeper kenv) Γ σ h₁ Γ' σ' h':=⟨S₁,X'.st,X'.step,F1,fun b hb=>hb,fun b hb=>.inl hb⟩;have less:∀b,b∉frs ((A₀.deeper kenv).deeper le)→b∉frs (A₀.deeper kenv):=fun b q hb=>q (sub2 b hb)
  have T1:ExT c (A₀.deeper kenv) h₁ Γ' h' ea msg (some .none):=by
   obtain ⟨oe,de,vs,t,t',n,a1,a2,a3,a4,a5,a6,a7,a8,T,oT,ts,b1,b2,b3,b4,b5,b6,b7,b8⟩:=T';exact ⟨oe,de,vs,t,t',n,a1,a2,a3,a4,a5,a6,less _ a7,a8,T,oT,ts,b1,b2,b3,b4,b5,b6,less _ b7,b8⟩
  refine Zfp (s:={ s' with heap:=h' }) X1 T1 hA1 hkF fun h3 X3 T3=>?_
  refine Zds (s:={ s' with heap:=h3 }) X3 T3 fun h4 X4 T4=>?_
  have nea:ea≠kenv.locals:=by
   obtain ⟨_,_,_,_,_,_,a1,_,_,_,_,_,a7,_⟩:=T4;intro q;subst q;exact a7 (by rw [fr1];exact .head _)
  have sm:Same s { s' with heap:=h4 }:=by obtain ⟨h'',t',rfl⟩:=y1;exact ⟨h4,t',rfl⟩
  refine wpAny_mono (Zrf (A₀:=A₀) (s₀:=s) (Γ₀:=Γ) (σ₀:=σ) (s:={ s' with heap:=h4 }) F XE XG hk ((kOf _).trans x9) ((kOf _).trans x10) hkG rfl nL sm X4 T4 hns₁ lL nea base P.st sub1 new1) (fun fl s'' q=>?_) fun _ _ q=>q
  ·obtain ⟨t,rfl,q1,q2,q3⟩:=q;show QOf c A₀ Γ σ s (RV c (frs A₀)) (Q4 (Za G { loc:=Qv sc L.loc } b) σ) (.str msg t) s'';rw [e2];exact ⟨_,σ',rfl,Γ',q1,q2,q3,Jr Rep.str⟩
end
section
variable {prog:Program}{c:Cx}{A:Around}{env:PySem.Env}{L:Ev}{G:Calls}{g f:Str→Bool}{sc:Scope}{old:Heap}
structure EnvC (c:Cx) (env:PySem.Env):Prop where
 code:env.code=.ref c.code
 qual:env.qual++"<lambda>"=c.lamQual
theorem Snd.kept {fk:Addr}{b:Expr}{np pos:Pos}(F:Facts c)(XE:ExcFacts c)(XG:ExcGet c)(XL:LamFacts c)(KF:KeptAt c fk)(ES:EnvS g f env)(EC:EnvC c env)(ok:ScL f sc)(hk:env.kindOf "_law_kept"=some .globalImplicit)(room:A.depth+1 < recursionLimit)
  (hb:∀kenv le,EnvS (isK' sc .globalImplicit) (isK' sc .free) le→ESnd prog c ((A.deeper kenv).deeper le) le G b):
  Snd prog c A (envI c old (frs A) env L) (RV c (frs A)) (Za G L (.Call (.Name "_law_kept" np) [.Lambda Jf b sc c.lamPos] [] pos)) (eval (.Call (.Name "_law_kept" np) [.Lambda Jf b sc c.lamPos] [] pos) env):=by
 intro Γ σ s P ne;have e0:Za G L (.Call (.Name "_law_kept" np) [.Lambda Jf b sc c.lamPos] [] pos)=Q4 (Za G { loc:=Qv sc L.loc } b):=by
  rw [Za,if_pos rfl]
 rw [e0] at ne ⊢;rw [arm_eval_Call_Name'];refine wpAny_bind (Zb0 F hk (by decide) KF.glob np _ _ ⟨old,L,P.inv⟩ P ?_);have hs':∀x∈[Expr.Lambda Jf b sc c.lamPos],Z7 x=true:=by intro x hx;simp at hx;subst hx;rfl
 refine callWith_of (P:=fun h=>c.K.In h) (first:=[]) (by show ((backTo pos (starEach [Expr.Lambda Jf b sc c.lamPos] env)).any (·.1)||false)=false;rw [Zbx hs'];rfl) (Zcy KF.keep) ?_;obtain ⟨cl,hcl,hc,_⟩:=Zgy (scope:=sc) (env:=env) fun p hp hk=>(ES.cell p.1 (ok.free p hp hk)).2
 have ER:EnvR c old Γ s.heap (frs A) env L:=P.inv;refine Snd.args hs' (wpAny_items_cons (Zq5 F XL P ER.glob EC.code EC.qual hcl fun lam Γ' s' P' sm y nw il=>?_) rfl);refine wpAny_items_nil ⟨F.kin.keeps P'.st.kept,?_⟩;exact Qn Qb P sm y (Zrg F XE XG KF P' ES ok hc il room hb ne)
end
section
variable {prog:Program}{c:Cx}{A₀ A:Around}{env:PySem.Env}{L L':Ev}{Γ₀ Γ Γ₁:Gh}{σ₀ σ σ₁ σ':Sg}{s₀ s s₁:Shared}{E:Value→Shared→Prop}{G:Calls}
theorem OwnAt.det {h:Heap}{fr:List Addr}{t:T}{k:Kd}{v:Value}{as as':List Addr}(y:OwnAt c Γ h fr t k v as)(y':OwnAt c Γ h fr t k v as'):as=as':=by
 unfold OwnAt at y y';split at y
 ·obtain ⟨a,vs,n,rfl,rfl,_⟩:=y;obtain ⟨a',vs',n',e,rfl,_⟩:=y';cases e;rfl
 ·obtain ⟨a,vs,n,rfl,rfl,_⟩:=y;obtain ⟨a',vs',n',e,rfl,_⟩:=y';cases e;rfl
 ·obtain ⟨a,d,ik,ii,ia,t,rfl,rfl,_,e1,_⟩:=y;obtain ⟨a',d',ik',ii',ia',t',e,rfl,_,e2,_⟩:=y';cases e;rw [e1] at e2;cases e2;rfl
 ·obtain ⟨a,d,b,ik,ia,t,vs,n,rfl,rfl,_,_,_,e1,i1,_⟩:=y;obtain ⟨a',d',b',ik',ia',t',vs',n',e,rfl,_,_,_,e2,i2,_⟩:=y';cases e;rw [e1] at e2;cases e2;have:=i1.inj i2;cases this;rfl
 ·exact y.elim
theorem Ns.det {h:Heap}{a:Addr}{m m':Str→Option Value}(x:h.Ns a m)(y:h.Ns a m'):m=m':=by
 obtain ⟨o,es,ep,q1,q2,q3⟩:=x;obtain ⟨o',es',ep',r1,r2,r3⟩:=y;rw [q1] at r1;cases r1;rw [q2] at r2;cases r2;funext n;rw [←q3.2 n,r3.2 n]
theorem Bnd.det {h:Heap}{m:Str→Option Value}{x:Str}{v w:Value}(b:Bnd Γ h env m x v)(b':Bnd Γ h env m x w):v=w:=by
 rcases b with ⟨h1,h2⟩ | ⟨k,ca,h1,h2,h3,h4,_⟩<;>rcases b' with ⟨g1,g2⟩ | ⟨k',ca',g1,g2,g3,g4,_⟩
 ·rw [h2] at g2;cases g2;rfl
 ·rw [h1] at g2;cases g2;rcases g1 with g1 | g1<;>cases g1
 ·rw [g1] at h2;cases h2;rcases h1 with h1 | h1<;>cases h1
 ·rw [h3] at g3;cases g3;obtain ⟨o,o1,o2⟩:=h4;obtain ⟨o',p1,p2⟩:=g4;rw [o1] at p1;cases p1;rw [o2] at p2;cases p2;rfl
def Apart (c:Cx)(A:Around)(env:PySem.Env)(L:Ev)(pre:Heap)(Γ:Gh)(h:Heap):Prop:=
 ∀as:List Addr,(∀a∈as,pre.get? a=none)→∀(f:Str→List Addr) (m:Str→Option Value),h.Ns env.locals m→(∀p∈L.own,∃v,Bnd Γ h env m p.1 v∧OwnAt c Γ h (frs A) p.2.1 p.2.2 v (f p.1))→∀p∈L.own,∀a∈f p.1,a∉as
theorem Zd0 (P:SPre c A₀ A env L Γ₀ σ₀ s₀ Γ σ s)(y:Step (frs A) Γ σ s.heap Γ₁ σ₁ s₁.heap):Apart c A env L s.heap Γ₁ s₁.heap:=by
 intro as has f m hm hf p hp a ha q;obtain ⟨_,_,_,m₀,e4,e5,e6,f₀,e7,_⟩:=P.envr;obtain ⟨v,b,w⟩:=e7 p hp;have w':=w.step y;have hm0:=(y.ns e5 e4).1;cases Ns.det hm hm0;obtain ⟨v',b',w''⟩:=hf p hp;cases (b.step y).det b';rw [←w'.det w''] at ha;obtain ⟨_,_,o,e⟩:=w.as_loose a ha;rw [has a q] at e;cases e
theorem Zrs {ts:List T}{vs:List Value}{r:List Int}(h:RepL c Γ ts vs)(e:Za3 ts=some r):IntsAre vs r:=by
 induction ts generalizing vs r with
 |nil=>cases e;unfold RepL at h;subst h;exact .nil
 |cons t ts ih=>
  unfold RepL at h;obtain ⟨v,w,rfl,h1,h2⟩:=h;cases t<;>first | (cases e;done) | skip
  obtain ⟨u,rfl⟩:=h1.int_inv;unfold Za3 at e;obtain ⟨r',e1,rfl⟩:=Option.map_eq_some_iff.mp e;exact .cons _ _ (ih h2 e1)
theorem SPre.toRow {a:Addr}{vs:List Value}{n:Nat}{r:List Int}(P:SPre c A₀ A env L Γ₀ σ₀ s₀ Γ σ s)(ha:s.heap.get? a=some (Zt vs n))(l:Loose Γ a)(nf:a∉frs A)(n0:s₀.heap.get? a=none)(hi:IntsAre vs r)(hz:r.length≤100000)(hr:σ.row=none)
  (ap:∀(f:Str→List Addr) (m:Str→Option Value),s.heap.Ns env.locals m→(∀p∈L.own,∃v,Bnd Γ s.heap env m p.1 v∧OwnAt c Γ s.heap (frs A) p.2.1 p.2.2 v (f p.1))→∀p∈L.own,a∉f p.1):
  ∃Γ',SPre c A₀ A env L Γ₀ σ₀ s₀ Γ' { σ with row:=some r } s∧Γ.Le Γ'∧Γ'.row=some a∧∀b,b≠a→Loose Γ b→Loose Γ' b:=by
 have gr:Γ.row=none:=by have:=P.st.row;rw [hr] at this;exact this
 let Γ':Gh:={ Γ with moves:=fun b=>Γ.moves b∨b=a,row:=some a }
 have le:Γ.Le Γ':=⟨fun _ _ e=>e,fun _ _ e=>e,fun _ e=>.inl e,fun b e=>(by rw [gr] at e;cases e),fun _ e=>e,rfl⟩;have lo:∀b,b≠a→Loose Γ b→Loose Γ' b:=fun b hb l=>⟨l.1,l.2.1,fun q=>q.elim l.2.2 hb⟩
 have S:=P.st;have st:St c Γ' { σ with row:=some r } s.heap:=by
  refine ⟨S.base,S.obj,S.idc,fun b e=>?_,S.apart2,⟨a,vs,n,rfl,.inr rfl,ha,hi,hz⟩,?_,S.tab.mono le⟩
  ·rcases e with e | rfl
   ·exact S.apart b e
   ·exact ⟨l.1,l.2.1,_,ha⟩
  ·have q:=S.self
   cases hs:σ.self with
   |none=>rw [hs] at q;exact q
   |some v=>rw [hs] at q;exact SelfOk.mono q le
 have stp:Step (frs A₀) Γ₀ σ₀ s₀.heap Γ' { σ with row:=some r } s.heap:=by
  have y:=P.step;refine ⟨y.le.trans le,y.alive,y.keep,y.frames,fun b o e=>?_,fun b e=>?_,y.still,y.mono⟩
  ·obtain ⟨q1,q2,q3⟩:=y.old b o e;refine ⟨q1,q2,fun q=>q.elim q3 ?_⟩
   rintro rfl;rw [n0] at e;cases e
  ·cases e;exact .inr n0
 refine ⟨Γ',⟨P.st₀,P.same,st,P.fr.mono fun b hb l=>lo b (fun q=>nf (q▸hb)) l,?_,stp,P.inf,P.top,P.frame,P.sub,P.new,P.fresh,fun y ca e=>?_,P.apart,P.kinds,P.nofree⟩,le,rfl,lo⟩
 ·obtain ⟨e1,e2,e3,m,e4,e5,e6,f,e7,e8,e9,e10⟩:=P.envr;have bnd:∀{y w},Bnd Γ s.heap env m y w→Bnd Γ' s.heap env m y w:=by
   intro y w b;rcases b with b | ⟨k',ca,h1,h2,h3,h4,h5⟩
   ·exact .inl b
   ·refine .inr ⟨k',ca,h1,h2,h3,h4,lo ca (fun q=>?_) h5⟩;obtain ⟨o,q1,q2⟩:=h4;rw [q,ha] at q1;cases q1;cases q2
  refine ⟨e1,e2,e3,m,e4,lo _ (fun q=>nf (q▸P.inf)) e5,fun y t hy=>?_,f,fun p hp=>?_,e8,e9,e10⟩
  ·obtain ⟨w,q1,q2⟩:=e6 y t hy;exact ⟨w,bnd q1,Rep.mono le _ _ q2⟩
  ·obtain ⟨w,q1,q2⟩:=e7 p hp;exact ⟨w,bnd q1,q2.mono le fun b hb l=>lo b (fun q=>ap f m e4 e7 p hp (q▸hb)) l⟩
 ·obtain ⟨c1,c2,w,c3⟩:=P.cells y ca e;refine ⟨c1,lo ca (fun q=>?_) c2,w,c3⟩;obtain ⟨o,q1,q2⟩:=c3;rw [q,ha] at q1;cases q1;cases q2
end
section
variable {prog:Program}{c:Cx}{A₀ A:Around}{env:PySem.Env}{L L':Ev}{Γ₀ Γ Γ₁ Γ':Gh}{σ₀ σ σ₁ σ':Sg}{s₀ s s₁:Shared}{E:Value→Shared→Prop}{G:Calls}
theorem SPre.regh {a:Addr}{o:Obj}(P:SPre c A₀ A env L Γ₀ σ₀ s₀ Γ σ s)(le:Γ.Le Γ')(st:St c Γ' σ' s.heap)(stp:Step (frs A₀) Γ₀ σ₀ s₀.heap Γ' σ' s.heap)(lo:∀b,b≠a→Loose Γ b→Loose Γ' b)(ha:s.heap.get? a=some o)(nc:∀v,o.data≠.cell v)(nf:a∉frs A)
  (ap:∀(f:Str→List Addr) (m:Str→Option Value),s.heap.Ns env.locals m→(∀p∈L.own,∃v,Bnd Γ s.heap env m p.1 v∧OwnAt c Γ s.heap (frs A) p.2.1 p.2.2 v (f p.1))→∀p∈L.own,a∉f p.1):
  SPre c A₀ A env L Γ₀ σ₀ s₀ Γ' σ' s:=by
 refine ⟨P.st₀,P.same,st,P.fr.mono fun b hb l=>lo b (fun q=>nf (q▸hb)) l,?_,stp,P.inf,P.top,P.frame,P.sub,P.new,P.fresh,fun y ca e=>?_,P.apart,P.kinds,P.nofree⟩
 ·obtain ⟨e1,e2,e3,m,e4,e5,e6,f,e7,e8,e9,e10⟩:=P.envr;have bnd:∀{y w},Bnd Γ s.heap env m y w→Bnd Γ' s.heap env m y w:=by
   intro y w b;rcases b with b | ⟨k',ca,h1,h2,h3,h4,h5⟩
   ·exact .inl b
   ·refine .inr ⟨k',ca,h1,h2,h3,h4,lo ca (fun q=>?_) h5⟩;obtain ⟨o,q1,q2⟩:=h4;rw [q,ha] at q1;cases q1;exact nc _ q2
  refine ⟨e1,e2,e3,m,e4,lo _ (fun q=>nf (q▸P.inf)) e5,fun y t hy=>?_,f,fun p hp=>?_,e8,e9,e10⟩
  ·obtain ⟨w,q1,q2⟩:=e6 y t hy;exact ⟨w,bnd q1,Rep.mono le _ _ q2⟩
  ·obtain ⟨w,q1,q2⟩:=e7 p hp;exact ⟨w,bnd q1,q2.mono le fun b hb l=>lo b (fun q=>ap f m e4 e7 p hp (q▸hb)) l⟩
 ·obtain ⟨c1,c2,w,c3⟩:=P.cells y ca e;refine ⟨c1,lo ca (fun q=>?_) c2,w,c3⟩;obtain ⟨o,q1,q2⟩:=c3;rw [q,ha] at q1;cases q1;exact nc _ q2
theorem SPre.add {a:Addr}{o:Obj}(P:SPre c A₀ A env L Γ₀ σ₀ s₀ Γ σ s)(ha:s.heap.get? a=some o)(l:Loose Γ a)(n0:s₀.heap.get? a=none)(nc:∀v,o.data≠.cell v)(nf:a∉frs A)
  (ap:∀(f:Str→List Addr) (m:Str→Option Value),s.heap.Ns env.locals m→(∀p∈L.own,∃v,Bnd Γ s.heap env m p.1 v∧OwnAt c Γ s.heap (frs A) p.2.1 p.2.2 v (f p.1))→∀p∈L.own,a∉f p.1):
  SPre c A₀ A env L Γ₀ σ₀ s₀ (Γ.add a o) σ s:=
 P.regh (Gh.le_add l.1) (P.st.add l ha) (P.step.add l n0) (fun b hb lb=>lb.add hb) ha nc nf ap
theorem Apart.le {pre:Heap}{h:Heap}(x:Apart c A env L pre Γ h)(le:Γ.Le Γ')(lo:∀b,Loose Γ' b→Loose Γ b)(rep:∀p∈L.own,∀v as,OwnAt c Γ' h (frs A) p.2.1 p.2.2 v as→OwnAt c Γ h (frs A) p.2.1 p.2.2 v as):Apart c A env L pre Γ' h:=by
 intro as has f m hm hf p hp a ha q;refine x as has f m hm (fun p hp=>?_) p hp a ha q;obtain ⟨v,b,w⟩:=hf p hp;refine ⟨v,?_,rep p hp v _ w⟩;rcases b with b | ⟨k,ca,h1,h2,h3,h4,h5⟩
 ·exact .inl b
 ·exact .inr ⟨k,ca,h1,h2,h3,h4,lo _ h5⟩
end
def OwnShape (h:Heap)(t:T)(k:Kd)(v:Value)(as:List Addr):Prop:=match k,t with
 |.own,.list _=>∃a,v=.ref a∧as=[a]
 |.own,.dict _=>∃a,v=.ref a∧as=[a]
 |.own,.vec ..=>∃a d C,v=.ref a∧as=[a,d]∧h.get? a=some (instObj C d)
 |.ownIo,.vec ..=>∃a d b C c ik ia,v=.ref a∧as=[a,d,b]∧h.get? a=some (instObj C d)∧IDict c h d (ik,.ref b,ia)
 |_,_=>False
theorem OwnAt.shape {c:Cx}{Γ:Gh}{h:Heap}{fr:List Addr}{t:T}{k:Kd}{v:Value}{as:List Addr}(y:OwnAt c Γ h fr t k v as):OwnShape h t k v as:=by
 unfold OwnAt at y;unfold OwnShape;split at y
 ·obtain ⟨a,vs,n,rfl,rfl,_⟩:=y;exact ⟨a,rfl,rfl⟩
 ·obtain ⟨a,vs,n,rfl,rfl,_⟩:=y;exact ⟨a,rfl,rfl⟩
 ·obtain ⟨a,d,ik,ii,ia,t,rfl,rfl,_,e1,_⟩:=y;exact ⟨a,d,_,rfl,rfl,e1⟩
 ·obtain ⟨a,d,b,ik,ia,t,vs,n,rfl,rfl,_,_,_,e1,i1,_⟩:=y;exact ⟨a,d,b,_,c,_,_,rfl,rfl,e1,i1⟩
 ·exact y.elim
theorem IDict.inj2 {c c':Cx}{h:Heap}{d:Addr}{x y:Value×Value×Value}(p:IDict c h d x)(q:IDict c' h d y):x=y:=by
 obtain ⟨_,_,_,_,_,_,_,p⟩:=p;obtain ⟨_,_,_,_,_,_,_,q⟩:=q;rw [p] at q;have q:=congrArg Obj.data (Option.some.inj q);unfold Za5 at q;injection q with q _;have q:_=_:=congrArg Array.toList q;simp at q;exact Prod.ext q.1.2.2 (Prod.ext q.2.1.2.2 q.2.2.1.2.2)
theorem OwnShape.det {h:Heap}{t:T}{k:Kd}{v:Value}{as as':List Addr}(y:OwnShape h t k v as)(y':OwnShape h t k v as'):as=as':=by
 unfold OwnShape at y y';split at y
 ·obtain ⟨a,rfl,rfl⟩:=y;obtain ⟨a',e,rfl⟩:=y';cases e;rfl
 ·obtain ⟨a,rfl,rfl⟩:=y;obtain ⟨a',e,rfl⟩:=y';cases e;rfl
 ·obtain ⟨a,d,C,rfl,rfl,e1⟩:=y;obtain ⟨a',d',C',e,rfl,e2⟩:=y';cases e;rw [e1] at e2;cases e2;rfl
 ·obtain ⟨a,d,b,C,c,ik,ia,rfl,rfl,e1,i1⟩:=y;obtain ⟨a',d',b',C',c',ik',ia',e,rfl,e2,i2⟩:=y';cases e;rw [e1] at e2;cases e2;have:=i1.inj2 i2;cases this;rfl
 ·exact y.elim
section
variable {prog:Program}{c:Cx}{A₀ A:Around}{env:PySem.Env}{L L':Ev}{Γ₀ Γ Γ₁ Γ':Gh}{σ₀ σ σ₁ σ':Sg}{s₀ s s₁:Shared}{E:Value→Shared→Prop}{G:Calls}
theorem Apart.any {pre h:Heap}(x:Apart c A env L pre Γ h)(ex:∃(f:Str→List Addr) (m:Str→Option Value),h.Ns env.locals m∧∀p∈L.own,∃v,Bnd Γ h env m p.1 v∧OwnAt c Γ h (frs A) p.2.1 p.2.2 v (f p.1)):Apart c A env L pre Γ' h:=by
 intro as has f m hm hf p hp a ha q;obtain ⟨f₀,m₀,hm₀,h₀⟩:=ex;cases Ns.det hm hm₀;obtain ⟨v,b,w⟩:=hf p hp;obtain ⟨v₀,b₀,w₀⟩:=h₀ p hp;have:v=v₀:=by
  rcases b with ⟨h1,h2⟩ | ⟨k,ca,h1,h2,h3,h4,_⟩<;>rcases b₀ with ⟨g1,g2⟩ | ⟨k',ca',g1,g2,g3,g4,_⟩
  ·rw [h2] at g2;cases g2;rfl
  ·rw [h1] at g2;cases g2;rcases g1 with g1 | g1<;>cases g1
  ·rw [g1] at h2;cases h2;rcases h1 with h1 | h1<;>cases h1
  ·rw [h3] at g3;cases g3;obtain ⟨o,o1,o2⟩:=h4;obtain ⟨o',p1,p2⟩:=g4;rw [o1] at p1;cases p1;rw [o2] at p2;cases p2;rfl
 subst this;rw [w.shape.det w₀.shape] at ha;exact x as has f₀ m hm h₀ p hp a ha q
theorem SPre.anyApart {pre:Heap}(P:SPre c A₀ A env L Γ₀ σ₀ s₀ Γ σ s)(x:Apart c A env L pre Γ s.heap):Apart c A env L pre Γ' s.heap:=by
 obtain ⟨_,_,_,m,e4,_,_,f,e7,_⟩:=P.envr;exact x.any ⟨f,m,e4,e7⟩
theorem SPre.toSelf {pre:Heap}{k:Str}{its:List T}{v:Value}{kd:Kd}{as:List Addr}(P:SPre c A₀ A env L Γ₀ σ₀ s₀ Γ σ s)(y:OwnAt c Γ s.heap (frs A) (.vec k its .none) kd v as)(has:∀a∈as,pre.get? a=none)(hp0:∀a,pre.get? a=none→s₀.heap.get? a=none)
  (ap:Apart c A env L pre Γ s.heap) (hs:σ.self=none):
  ∃Γ',SPre c A₀ A env L Γ₀ σ₀ s₀ Γ' { σ with self:=some ⟨k,its,none,0⟩ } s∧Rep c Γ' .self v∧∀b,b∉as→Loose Γ b→Loose Γ' b:=by
 have one:∃Γ₁ a d ik ii t,SPre c A₀ A env L Γ₀ σ₀ s₀ Γ₁ σ s∧v=.ref a∧a≠d∧s.heap.get? a=some (instObj c.vec d)∧IDict c s.heap d (ik,ii,.none)∧ik=.str k t∧Rep c Γ₁ (.list its) ii∧Loose Γ₁ a∧Loose Γ₁ d∧a∉frs A∧d∉frs A∧pre.get? a=none∧pre.get? d=none∧a∈as∧d∈as∧∀b,b∉as→Loose Γ b→Loose Γ₁ b:=by
  cases kd with
  |val=>exact y.elim
  |h=>exact y.elim
  |own=>
   obtain ⟨a,d,ik,ii,ia,t,rfl,rfl,hne,e1,i1,e2,r1,r2,l1,l2,f1,f2⟩:=y;have:=r2.none_inv;subst this;exact ⟨Γ,a,d,ik,ii,t,P,rfl,hne,e1,i1,e2,r1,l1,l2,f1,f2,has _ (by simp),has _ (by simp),by simp,by simp,fun _ _ l=>l⟩
  |ownIo=>
   obtain ⟨a,d,b,ik,ia,t,vs,n,rfl,rfl,n1,n2,n3,e1,i1,e2,e3,z,r1,r2,l1,l2,l3,f1,f2,f3⟩:=y;have:=r2.none_inv;subst this;have P₁:=P.add e3 l3 (hp0 _ (has b (by simp))) (fun v q=>by cases q) f3 fun f m hm hf p hp q=>ap [b] (by simp [has b]) f m hm hf p hp b q (by simp)
   refine ⟨_,a,d,ik,_,t,P₁,rfl,n1,e1,i1,e2,?_,l1.add n2,l2.add n3,f1,f2,has _ (by simp),has _ (by simp),by simp,by simp,fun x hx lx=>lx.add (fun q=>hx (by simp [q]))⟩;unfold Rep;exact ⟨b,vs,n,rfl,Gh.add_at,z,RepL.mono (Gh.le_add l3.1) _ _ r1⟩
 obtain ⟨Γ₁,a,d,ik,ii,t,P₁,rfl,hne,e1,i1,e2,r1,l1,l2,f1,f2,na,nd,ma,md,lo1⟩:=one;have ap₁:Apart c A env L pre Γ₁ s.heap:=P.anyApart ap;have P₂:=P₁.add e1 l1 (hp0 _ na) (fun v q=>by cases q) f1 fun f m hm hf p hp q=>ap₁ [a] (by simp [na]) f m hm hf p hp a q (by simp)
 have l2':Loose (Γ₁.add a (instObj c.vec d)) d:=l2.add hne.symm;have r1':=Rep.mono (Gh.le_add (o:=instObj c.vec d) l1.1) _ _ r1;have ap₂:Apart c A env L pre (Γ₁.add a (instObj c.vec d)) s.heap:=P.anyApart ap;have lo2:∀b,b∉as→Loose Γ b→Loose (Γ₁.add a (instObj c.vec d)) b:=fun b hb l=>(lo1 b hb l).add (fun q=>hb (q▸ma))
 generalize hΓ:Γ₁.add a (instObj c.vec d)=Γ₂ at P₂ l2' r1' ap₂ lo2
 have oa:Γ₂.obj a=some (instObj c.vec d):=by rw [←hΓ];exact Gh.add_at
 have gs:Γ₂.self=none:=by have:=P₂.st.self;rw [hs] at this;exact this
 obtain ⟨sh,t1,t2,t3,t4,t5,nn,hd⟩:=i1
 let Γ':Gh:={ Γ₂ with moves:=fun b=>Γ₂.moves b∨b=d,self:=some (a,d) }
 have le:Γ₂.Le Γ':=⟨fun _ _ e=>e,fun _ _ e=>e,fun _ e=>.inl e,fun _ e=>e,fun b e=>(by rw [gs] at e;cases e),rfl⟩;have S:=P₂.st;have st:St c Γ' { σ with self:=some ⟨k,its,none,0⟩ } s.heap:=by
  refine ⟨S.base,S.obj,S.idc,fun b e=>?_,S.apart2,?_,⟨a,d,ik,ii,.none,t,rfl,oa,.inr rfl,⟨sh,t1,t2,t3,t4,t5,nn,hd⟩,e2,Rep.mono le _ _ r1',rfl⟩,S.tab.mono le⟩
  ·rcases e with e | rfl
   ·exact S.apart b e
   ·exact ⟨l2'.1,l2'.2.1,_,hd⟩
  ·have q:=S.row
   cases hr:σ.row with
   |none=>rw [hr] at q;exact q
   |some ns=>rw [hr] at q;exact RowOk.mono q le
 have stp:Step (frs A₀) Γ₀ σ₀ s₀.heap Γ' { σ with self:=some ⟨k,its,none,0⟩ } s.heap:=by
  have y:=P₂.step;have none₀:∀v,σ₀.self=some v→False:=fun v e=>by obtain ⟨v',e',_⟩:=y.mono v e;rw [hs] at e';cases e'
  refine ⟨y.le.trans le,y.alive,y.keep,y.frames,fun b o e=>?_,y.rowNew,fun v v' e=>(none₀ v e).elim,fun v e=>(none₀ v e).elim⟩;obtain ⟨q1,q2,q3⟩:=y.old b o e;refine ⟨q1,q2,fun q=>q.elim q3 ?_⟩
  rintro rfl;rw [hp0 _ nd] at e;cases e
 refine ⟨Γ',P₂.regh le st stp (fun b hb l=>⟨l.1,l.2.1,fun q=>q.elim l.2.2 hb⟩) hd (fun v q=>by cases q) f2 (fun f m hm hf p hp q=>ap₂ [d] (by simp [nd]) f m hm hf p hp d q (by simp)),?_,fun b hb l=>⟨(lo2 b hb l).1,(lo2 b hb l).2.1,fun q=>q.elim (lo2 b hb l).2.2 (fun e=>hb (e▸md))⟩⟩;unfold Rep;exact ⟨a,d,rfl,rfl⟩
theorem Zey {a:Addr}{h:Heap}(ex:∃(f:Str→List Addr) (m:Str→Option Value),h.Ns env.locals m∧(∀p∈L.own,∃v,Bnd Γ h env m p.1 v∧OwnAt c Γ h (frs A) p.2.1 p.2.2 v (f p.1))∧∀p∈L.own,a∉f p.1):
  ∀(f:Str→List Addr) (m:Str→Option Value),h.Ns env.locals m→(∀p∈L.own,∃v,Bnd Γ' h env m p.1 v∧OwnAt c Γ' h (frs A) p.2.1 p.2.2 v (f p.1))→∀p∈L.own,a∉f p.1:=by
 intro f m hm hf p hp ha;obtain ⟨f₀,m₀,hm₀,h₀,hx⟩:=ex;cases Ns.det hm hm₀;obtain ⟨v,b,w⟩:=hf p hp;obtain ⟨v₀,b₀,w₀⟩:=h₀ p hp;have:v=v₀:=by
  rcases b with ⟨h1,h2⟩ | ⟨k,ca,h1,h2,h3,h4,_⟩<;>rcases b₀ with ⟨g1,g2⟩ | ⟨k',ca',g1,g2,g3,g4,_⟩
  ·rw [h2] at g2;cases g2;rfl
  ·rw [h1] at g2;cases g2;rcases g1 with g1 | g1<;>cases g1
  ·rw [g1] at h2;cases h2;rcases h1 with h1 | h1<;>cases h1
  ·rw [h3] at g3;cases g3;obtain ⟨o,o1,o2⟩:=h4;obtain ⟨o',p1,p2⟩:=g4;rw [o1] at p1;cases p1;rw [o2] at p2;cases p2;rfl
 subst this;rw [w.shape.det w₀.shape] at ha;exact hx p hp ha
end
section
variable {prog:Program}{c:Cx}{A₀ A:Around}{env:PySem.Env}{L L':Ev}{Γ₀ Γ Γ₁ Γ':Gh}{σ₀ σ σ₁ σ':Sg}{s₀ s s₁:Shared}{E:Value→Shared→Prop}{G:Calls}
theorem SPre.addI {d:Addr}{x:Value×Value×Value}(P:SPre c A₀ A env L Γ₀ σ₀ s₀ Γ σ s)(hd:IDict c s.heap d x)(l:Loose Γ d)(n0:s₀.heap.get? d=none)(nf:d∉frs A)
  (ap:∀(f:Str→List Addr) (m:Str→Option Value),s.heap.Ns env.locals m→(∀p∈L.own,∃v,Bnd Γ s.heap env m p.1 v∧OwnAt c Γ s.heap (frs A) p.2.1 p.2.2 v (f p.1))→∀p∈L.own,d∉f p.1):
  SPre c A₀ A env L Γ₀ σ₀ s₀ (Γ.addI d x) σ s:=by
 have hd':=hd;obtain ⟨_,_,_,_,_,_,_,e⟩:=hd';exact P.regh (Gh.le_addI l.2.1) (P.st.addI l hd) (P.step.addI l n0) (fun b hb lb=>lb.addI hb) e (fun v q=>by cases q) nf ap
theorem SPre.freezeV {pre:Heap}{t:T}{k:Kd}{v:Value}{as:List Addr}(P:SPre c A₀ A env L Γ₀ σ₀ s₀ Γ σ s)(y:OwnAt c Γ s.heap (frs A) t k v as)(has:∀a∈as,pre.get? a=none)(hp0:∀a,pre.get? a=none→s₀.heap.get? a=none)
  (ap:Apart c A env L pre Γ s.heap):∃Γ',SPre c A₀ A env L Γ₀ σ₀ s₀ Γ' σ s∧Rep c Γ' t v∧Γ.Le Γ'∧∀b,b∉as→Loose Γ b→Loose Γ' b:=by
 have ap1:∀{Γ:Gh} {a:Addr},pre.get? a=none→∀(f:Str→List Addr) (m:Str→Option Value),s.heap.Ns env.locals m→(∀p∈L.own,∃v,Bnd Γ s.heap env m p.1 v∧OwnAt c Γ s.heap (frs A) p.2.1 p.2.2 v (f p.1))→∀p∈L.own,a∉f p.1:=
  fun {Γ a} na f m hm hf p hp q=>(P.anyApart (Γ':=Γ) ap) [a] (by simp [na]) f m hm hf p hp a q (by simp)
 unfold OwnAt at y;split at y
 ·obtain ⟨a,vs,n,rfl,rfl,e,z,r,l,f⟩:=y;have na:=has a (by simp);refine ⟨_,P.add e l (hp0 _ na) (fun v q=>by cases q) f (ap1 na),?_,Gh.le_add l.1,fun b hb lb=>lb.add (fun q=>hb (by simp [q]))⟩;unfold Rep;exact ⟨a,vs,n,rfl,Gh.add_at,z,RepL.mono (Gh.le_add l.1) _ _ r⟩
 ·obtain ⟨a,ds,n,rfl,rfl,nm,e,z,nd,r,l,f⟩:=y;have na:=has a (by simp);refine ⟨_,P.add e l (hp0 _ na) (fun v q=>by cases q) f (ap1 na),?_,Gh.le_add l.1,fun b hb lb=>lb.add (fun q=>hb (by simp [q]))⟩;unfold Rep;exact ⟨a,ds,n,rfl,nm,Gh.add_at,z,nd,RepD.mono (Gh.le_add l.1) _ _ r⟩
 ·obtain ⟨a,d,ik,ii,ia,t,rfl,rfl,hne,e,i,hik,r1,r2,l1,l2,f1,f2⟩:=y;have na:=has a (by simp);have nd:=has d (by simp);have le1:=Gh.le_add (o:=instObj c.vec d) l1.1;have P₁:=P.add e l1 (hp0 _ na) (fun v q=>by cases q) f1 (ap1 na);have l2':Loose (Γ.add a (instObj c.vec d)) d:=l2.add hne.symm;have le2:=Gh.le_addI (x:=(ik,ii,ia)) l2'.2.1;have P₂:=P₁.addI i l2' (hp0 _ nd) f2 (ap1 nd);refine ⟨_,P₂,?_,le1.trans le2,fun b hb lb=>(lb.add (fun q=>hb (by simp [q]))).addI (fun q=>hb (by simp [q]))⟩;have r1':=Rep.mono (le1.trans le2) _ _ r1;have r2':=Rep.mono (le1.trans le2) _ _ r2;unfold Rep at r1';obtain ⟨b,vs,n,rfl,q2,q5,q6⟩:=r1';unfold Rep;exact ⟨a,d,_,_,ia,b,vs,n,rfl,le2.obj _ _ Gh.add_at,Gh.addI_at,⟨t,hik⟩,⟨rfl,q2,q5,q6⟩,r2'⟩
 ·obtain ⟨a,d,b,ik,ia,t,vs,n,rfl,rfl,ne1,ne2,ne3,e,i,hik,e2,z,r1,r2,l1,l2,l3,f1,f2,f3⟩:=y;have na:=has a (by simp);have nd:=has d (by simp);have nb:=has b (by simp);have le1:=Gh.le_add (o:=instObj c.vec d) l1.1;have P₁:=P.add e l1 (hp0 _ na) (fun v q=>by cases q) f1 (ap1 na);have l3':Loose (Γ.add a (instObj c.vec d)) b:=l3.add ne2.symm;have le2:=Gh.le_add (o:=Zt vs n) l3'.1;have P₂:=P₁.add e2 l3' (hp0 _ nb) (fun v q=>by cases q) f3 (ap1 nb);have l2':Loose ((Γ.add a (instObj c.vec d)).add b (Zt vs n)) d:=(l2.add ne1.symm).add ne3;have le3:=Gh.le_addI (x:=(ik,Value.ref b,ia)) l2'.2.1;have P₃:=P₂.addI i l2' (hp0 _ nd) f2 (ap1 nd);have le:=le1.trans (le2.trans le3);refine ⟨_,P₃,?_,le,fun y hb lb=>((lb.add (fun q=>hb (by simp [q]))).add (fun q=>hb (by simp [q]))).addI (fun q=>hb (by simp [q]))⟩;unfold Rep;exact ⟨a,d,_,_,ia,b,vs,n,rfl,le3.obj _ _ (le2.obj _ _ Gh.add_at),Gh.addI_at,⟨t,hik⟩,⟨rfl,le3.obj _ _ Gh.add_at,z,RepL.mono le _ _ r1⟩,Rep.mono le _ _ r2⟩
 ·exact y.elim
theorem SPre.bindM {pre:Heap}{x:Str}{t:T×Kd}{v:Value}(P:SPre c A₀ A env L Γ₀ σ₀ s₀ Γ σ s)(rv:RV c (frs A) pre Γ σ s.heap t v)(hn:t.2≠.h)(hp0:∀a,pre.get? a=none→s₀.heap.get? a=none)(ap:Apart c A env L pre Γ s.heap)
  (hk:env.kindOf x=some .local∨env.kindOf x=some .cell) (ne:Mine.bindM L x t σ≠.stuck):
  wpAny (model prog c.w) A (storeName env x v) (fun _ s'=>∃L' σ' Γ',Mine.bindM L x t σ=.ok L' σ'∧SPre c A₀ A env L' Γ₀ σ₀ s₀ Γ' σ' s'∧(∃Γ'',Zg8 c A env L L' Γ'' s.heap s'.heap x v)∧∀b,(∀as,OwnAt c Γ s.heap (frs A) t.1 t.2 v as→b∉as)→Loose Γ b→Loose Γ' b) E s:=by
 obtain ⟨t,k⟩:=t;dsimp only at hn;have asVal:∃Γ',SPre c A₀ A env L Γ₀ σ₀ s₀ Γ' σ s∧Rep c Γ' t v∧∀b,(∀as,OwnAt c Γ s.heap (frs A) t k v as→b∉as)→Loose Γ b→Loose Γ' b:=by
  cases k with
  |val=>exact ⟨Γ,P,rv,fun _ _ l=>l⟩
  |h=>exact absurd rfl hn
  |own=>obtain ⟨as,y,has⟩:=rv;obtain ⟨Γ',q1,q2,_,q4⟩:=P.freezeV y has hp0 ap;exact ⟨Γ',q1,q2,fun b hb l=>q4 b (hb as y) l⟩
  |ownIo=>obtain ⟨as,y,has⟩:=rv;obtain ⟨Γ',q1,q2,_,q4⟩:=P.freezeV y has hp0 ap;exact ⟨Γ',q1,q2,fun b hb l=>q4 b (hb as y) l⟩
 have valRoad:∀{L':Ev},L'=L.bindVal x t→Mine.bindM L x (t,k) σ=.ok L' σ→
   wpAny (model prog c.w) A (storeName env x v) (fun _ s'=>∃L' σ' Γ',Mine.bindM L x (t,k) σ=.ok L' σ'∧SPre c A₀ A env L' Γ₀ σ₀ s₀ Γ' σ' s'∧(∃Γ'',Zg8 c A env L L' Γ'' s.heap s'.heap x v)∧∀b,(∀as,OwnAt c Γ s.heap (frs A) t k v as→b∉as)→Loose Γ b→Loose Γ' b) E s:=by
  intro L' hL e;obtain ⟨Γ',P',r,lo⟩:=asVal;exact P'.store hk (.inl ⟨t,hL,r⟩) fun h' tk P'' st=>⟨L',σ,Γ',e,P'',⟨_,st⟩,lo⟩
 unfold Mine.bindM at ne ⊢
 by_cases h1:(L.hot&&(x="row":Bool))=true
 ·rw [if_pos h1] at ne;simp only [if_pos h1];split at ne
  ·rename_i ts heq;cases heq;split at ne
   ·rename_i r hr;split at ne
    ·rename_i hc;obtain ⟨as,y,has⟩:=rv;have y':=y;obtain ⟨a,vs,n,rfl,rfl,e,z,rr,l,nf⟩:=y;have na:=has a (by simp);obtain ⟨Γ',P',le,hrow,lo⟩:=P.toRow (r:=r) e l nf (hp0 _ na) (Zrs rr hr) (by have:=hc.2;unfold Zc at this;omega) (by simpa using hc.1) fun f m hm hf p hp q=>ap [a] (by simp [na]) f m hm hf p hp a q (by simp)
     refine P'.store (L':=L.bindVal x .row) hk (.inl ⟨.row,rfl,by unfold Rep;exact ⟨a,rfl,hrow⟩⟩) fun h' tk P'' st=>⟨L.bindVal x .row,{ σ with row:=some r },Γ',?_,P'',⟨_,st⟩,fun b hb l=>lo b (fun q=>hb _ y' (by simp [q])) l⟩
     simp only [hr,if_pos hc]
    ·exact absurd rfl ne
   ·exact absurd rfl ne
  ·exact absurd rfl ne
 ·rw [if_neg h1] at ne;simp only [if_neg h1]
  by_cases h2:(L.hot&&(x="v":Bool))=true
  ·rw [if_pos h2] at ne;simp only [if_pos h2];split at ne
   ·rename_i kk its heq;cases heq;split at ne
    ·rename_i hs;obtain ⟨as,y,has⟩:=rv;obtain ⟨Γ',P',r,lo⟩:=P.toSelf y has hp0 ap (by simpa using hs);refine P'.store (L':=L.bindVal x .self) hk (.inl ⟨.self,rfl,r⟩) fun h' tk P'' st=>⟨L.bindVal x .self,{ σ with self:=some ⟨kk,its,none,0⟩ },Γ',?_,P'',⟨_,st⟩,fun b hb l=>lo b (hb as y) l⟩
     simp only [if_pos hs]
    ·exact absurd rfl ne
   ·rename_i kk its heq;cases heq;split at ne
    ·rename_i hs;obtain ⟨as,y,has⟩:=rv;obtain ⟨Γ',P',r,lo⟩:=P.toSelf y has hp0 ap (by simpa using hs);refine P'.store (L':=L.bindVal x .self) hk (.inl ⟨.self,rfl,r⟩) fun h' tk P'' st=>⟨L.bindVal x .self,{ σ with self:=some ⟨kk,its,none,0⟩ },Γ',?_,P'',⟨_,st⟩,fun b hb l=>lo b (hb as y) l⟩
     simp only [if_pos hs]
    ·exact absurd rfl ne
   ·rename_i q1 heq;cases heq;obtain ⟨Γ',P',r,lo⟩:=asVal;refine P'.store (L':=L.bindVal x .null) hk (.inl ⟨_,rfl,r⟩) fun h' tk P'' st=>⟨L.bindVal x .null,σ,Γ',rfl,P'',⟨_,st⟩,lo⟩
   ·exact absurd rfl ne
  ·rw [if_neg h2] at ne;simp only [if_neg h2]
   by_cases h3:k≠.val∧x∈L.mv
   ·rw [if_pos h3];have own:∃as,OwnAt c Γ s.heap (frs A) t k v as∧∀a∈as,pre.get? a=none:=by
     cases k with
     |val=>exact absurd rfl h3.1
     |h=>exact absurd rfl hn
     |own=>exact rv
     |ownIo=>exact rv
    obtain ⟨as,y,has⟩:=own;refine P.store (L':=L.bindOwn x t k) hk (.inr ⟨t,k,as,rfl,y,fun a ha=>hp0 _ (has a ha),ap as has⟩) fun h' tk P'' st=>⟨L.bindOwn x t k,σ,Γ,rfl,P'',⟨_,st⟩,fun _ _ l=>l⟩
   ·rw [if_neg h3];obtain ⟨Γ',P',r,lo⟩:=asVal;refine P'.store (L':=L.bindVal x t) hk (.inl ⟨t,rfl,r⟩) fun h' tk P'' st=>⟨L.bindVal x t,σ,Γ',rfl,P'',⟨_,st⟩,lo⟩
end
section
variable {prog:Program}{c:Cx}{A₀ A:Around}{env:PySem.Env}{L L':Ev}{Γ₀ Γ Γ₁ Γ':Gh}{σ₀ σ σ₁ σ':Sg}{s₀ s s₁:Shared}{E:Value→Shared→Prop}{G:Calls}{g f:Str→Bool}
theorem SPre.turnA {a:Addr}{h':Heap}{tk:Nat}(P:SPre c A₀ A env L Γ₀ σ₀ s₀ Γ σ s)(la:Loose Γ a)(na:s₀.heap.get? a=none)(nf:a∉frs A)(nc:∀y ca,env.cells.lookup y=some ca→ca≠a)
  (no:∀(f:Str→List Addr) (m:Str→Option Value),s.heap.Ns env.locals m→(∀p∈L.own,∃v,Bnd Γ s.heap env m p.1 v∧OwnAt c Γ s.heap (frs A) p.2.1 p.2.2 v (f p.1))→∀p∈L.own,a∉f p.1) (sb:Heap.SameBut a s.heap h'):SPre c A₀ A env L Γ₀ σ₀ s₀ Γ σ { s with heap:=h',toks:=tk }:=by
 obtain ⟨S',x'⟩:=Zar P.st P.step na la sb;obtain ⟨e1,e2,e3,m,e4,e5,e6,f,e7,e8,e9,e10⟩:=P.envr;have hL:env.locals≠a:=fun q=>nf (q▸P.inf)
 have bnd:∀{y w},Bnd Γ s.heap env m y w→Bnd Γ h' env m y w:=by
  intro y w b;rcases b with b | ⟨k',ca,h1,h2,h3,h4,h5⟩
  ·exact .inl b
  ·exact .inr ⟨k',ca,h1,h2,h3,h4.sameBut sb (nc _ _ h3),h5⟩
 refine ⟨P.st₀,P.same.trans ⟨h',tk,rfl⟩,S',P.fr.turn nf sb,⟨e1,e2,e3,m,e4.sameBut sb hL,e5,fun y t hy=>?_,f,fun p hp=>?_,e8,e9,e10⟩,x',P.inf,P.top,P.frame,P.sub,P.new,P.fresh,fun y ca e=>?_,P.apart,P.kinds,P.nofree⟩
 ·obtain ⟨w,q1,q2⟩:=e6 y t hy;exact ⟨w,bnd q1,q2⟩
 ·obtain ⟨w,q1,q2⟩:=e7 p hp;exact ⟨w,bnd q1,q2.apart sb (no f m e4 e7 p hp)⟩
 ·obtain ⟨c1,c2,w,c3⟩:=P.cells y ca e;exact ⟨c1,c2,w,c3.sameBut sb (nc _ _ e)⟩
theorem Zgg {x:Str}{px pos:Pos}{v:Expr}:Zi G (.Assign [.Name x px] v pos) L=((Za G (settle v L) v>>=Mine.solid)>>=fun t=>Mine.bindM (settle v L) x t>>=fun L'=>(pure (Out.next,L'):M (Out×Ev))):=by
 rw [Zi,M.assoc]
theorem SSnd.assign {x:Str}{px pos:Pos}{v:Expr}(hk:env.kindOf x=some .local∨env.kindOf x=some .cell)(hs:swapsWith v (some (.Name x px)) pos.line env=pure false)(he:ESnd prog c A env G v):
  SSnd prog c A₀ A env (Zi G (.Assign [.Name x px] v pos)) (exec (.Assign [.Name x px] v pos) env):=by
 intro L Γ₀ σ₀ s₀ Γ σ s P ne;obtain ⟨Γ',P',le⟩:=P.settle v;rw [Zgg] at ne ⊢;refine wpAny_Assign_Name (sseq P' ne (he _ _).solidRV ?_) hs;intro t σ₁ Γ₁ w s₁ _ P₁ y r ne1 e1;have ne2:=M.bind_ne ne1;rw [e1];refine wpAny_mono (P₁.bindM r.2 r.1 (fun a h=>Je P'.step.alive h) (Zd0 P' y) hk ne2) (fun _ s' q=>?_) fun _ _ q=>q
 obtain ⟨L',σ',Γ'',e2,P'',_,_⟩:=q;rw [M.bind_ok e2];exact ⟨.next,L',σ',Γ'',rfl,P'',rfl⟩
theorem Zhn {x:Str}{px:Pos}{t:T×Kd}{C D:Addr}{v:Value}{res:Res (Out×Ev)}(P:SPre c A₀ A env L Γ₀ σ₀ s₀ Γ σ s)(X:LE c A Γ σ s C D Γ₁ σ₁ s₁)(r:RV c (frs A) s.heap Γ₁ σ₁ s₁.heap t v)(hn:t.2≠.h)(hC:∀as,OwnAt c Γ₁ s₁.heap (frs A) t.1 t.2 v as→C∉as)
  (hv:∀(Γ:Gh) t' k' as,OwnAt c Γ s₁.heap (frs A) t' k' v as→C∉as)
  (hk:env.kindOf x=some .local∨env.kindOf x=some .cell) (hd:∃oC,s₁.heap.get? C=some oC∧∀w,oC.data≠.cell w)
  (ne:Mine.bindM L x t σ₁≠.stuck) (hres:∀L' σ',Mine.bindM L x t σ₁=.ok L' σ'→res=.ok (.next,L') σ') {E:Value→Shared→Prop}:
  compPost (model prog c.w) A E (some (PySem.assign (.Name x px) env)) (fun _ s'=>SQ c A₀ A env Γ₀ σ₀ s₀ res .next s') v C (.ok .next) s₁:=by
 have P₁:=P.next X.same X.st X.step;show wpAny _ _ (PySem.assign (.Name x px) env v) _ _ _;refine wpAny_assign_Name ?_;have ap:=Zd0 P X.step;refine wpAny_mono (P₁.bindM r hn (fun a h=>Je P.step.alive h) ap hk ne) (fun _ s' q=>?_) fun _ _ q=>q
 obtain ⟨L',σ',Γ'',e2,P'',⟨Γ3,⟨a,ha,sb⟩,av⟩,lo⟩:=q;obtain ⟨m,hm⟩:=X.ns;have hCa:C≠a:=by
  rcases ha with rfl | ha
  ·intro q;exact X.nc.nf (q▸P.inf)
  ·obtain ⟨oC,q1,q2⟩:=hd;obtain ⟨_,_,w,o,q3,q4⟩:=P₁.cells x a ha
   rintro rfl;rw [q1] at q3;cases q3;exact q2 _ q4
 have hns:=hm.sameBut sb hCa;refine ⟨m,hns,fun h' sb'=>?_⟩;refine ⟨.next,L',σ',Γ'',hres _ _ e2,?_,rfl⟩;have av':=av C (fun f m hm hf p hp q=>(P₁.anyApart (Γ':=Γ3) ap) [C] (by simpa using X.nc.new) f m hm hf p hp C q (by simp)) (fun t' k' as y=>hv Γ3 t' k' as y);have lC:Loose Γ'' C:=lo C hC X.nc.loose;obtain ⟨oC,d1,d2⟩:=hd;refine P''.turnA lC (Je P.step.alive X.nc.new) X.nc.nf (fun y ca e q=>?_) (Zey av') sb';obtain ⟨_,_,w,o,q3,q4⟩:=P₁.cells y ca e;rw [q,d1] at q3;cases q3;exact d2 _ q4
theorem Zir {h:Heap}{a:Addr}{m:Str→Option Value}(x:h.Ns a m):∃o,h.get? a=some o∧∀w,o.data≠.cell w:=by
 obtain ⟨o,es,ep,h1,h2,_⟩:=x;exact ⟨o,h1,fun w q=>by rw [h2] at q;cases q⟩
theorem Zdz {Γ:Gh}{h:Heap}{D C:Addr}{o:Obj}{t:T}{k:Kd}{as:List Addr}(hD:h.get? D=some o)(ho:∀C d,o≠instObj C d)(ne:C≠D)(y:OwnAt c Γ h (frs A) t k (.ref D) as):C∉as:=by
 unfold OwnAt at y;split at y
 ·obtain ⟨a,vs,n,e,rfl,_⟩:=y;cases e;simpa using ne
 ·obtain ⟨a,vs,n,e,rfl,_⟩:=y;cases e;simpa using ne
 ·obtain ⟨a,d,ik,ii,ia,t,e,rfl,_,e1,_⟩:=y;cases e;rw [hD] at e1;cases e1;exact absurd rfl (ho _ _)
 ·obtain ⟨a,d,b,ik,ia,t,vs,n,e,rfl,_,_,_,e1,_⟩:=y;cases e;rw [hD] at e1;cases e1;exact absurd rfl (ho _ _)
 ·exact y.elim
theorem SSnd.assign_list {x y:Str}{px py pos spos:Pos}{elt iter:Expr}{ifs:List Expr}{sc:Scope}(ES:EnvS g f env)(ok:ScF f sc y)(hk:env.kindOf x=some .local∨env.kindOf x=some .cell)
  (hs:swapsWith (.ListComp elt [⟨.Name y py,iter,ifs,0⟩] sc pos) (some (.Name x px)) spos.line env=pure true)
  (hi:ESnd prog c A env G iter) (hT:∀cl C,(EnvS (isK' sc .globalImplicit) (isK' sc .free) (compEnvC sc cl C env))→∀e∈ifs,TSnd prog c A (compEnvC sc cl C env) G e)
  (hE:∀cl C,(EnvS (isK' sc .globalImplicit) (isK' sc .free) (compEnvC sc cl C env))→ESnd prog c A (compEnvC sc cl C env) G elt)
  (hf:∀v,foldedSetIterable iter env v=pure v):
  SSnd prog c A₀ A env (Zi G (.Assign [.Name x px] (.ListComp elt [⟨.Name y py,iter,ifs,0⟩] sc pos) spos)) (exec (.Assign [.Name x px] (.ListComp elt [⟨.Name y py,iter,ifs,0⟩] sc pos) spos) env):=by
 intro L Γ₀ σ₀ s₀ Γ σ s P ne;obtain ⟨Γ',P',le⟩:=P.settle (.ListComp elt [⟨.Name y py,iter,ifs,0⟩] sc pos);rw [Zgg] at ne ⊢;have ne1:=M.bind_ne (M.bind_ne ne);rw [exec_Assign_Name_used _ _ _ _ hs];refine wpAny_bind (wpAny_standAt (wpAny_bind ?_));show wpAny _ A (do let _ ←comprehension (.ListComp elt [⟨.Name y py,iter,ifs,0⟩] sc pos) sc env _ (newList []) false (eval iter env) (some (PySem.assign (.Name x px) env))) _ _ s;refine wpAny_bind (wpAny_mono (Zi9 (Q:=fun _ s'=>SQ c A₀ A env Γ₀ σ₀ s₀ (((Za G (settle (.ListComp elt [⟨.Name y py,iter,ifs,0⟩] sc pos) L) (.ListComp elt [⟨.Name y py,iter,ifs,0⟩] sc pos)>>=Mine.solid)>>=fun t=>Mine.bindM (settle (.ListComp elt [⟨.Name y py,iter,ifs,0⟩] sc pos) L) x t>>=fun L'=>(pure (Out.next,L'):M (Out×Ev))) σ) .next s')
  P'.pre ES ok (hi _ _) hT hE hf ne1 (fun v s' q=>(q.toSE P').cast fun m' σ' e=>M.bind_exn (M.bind_exn e)) ?_) (fun _ s' q=>wpAny_pure (wpAny_pure q)) fun _ _ q=>q)
 intro Γ₁ σ₁ s₁ acc vs m C D X hd rl hz e;have e1:(Za G (settle (.ListComp elt [⟨.Name y py,iter,ifs,0⟩] sc pos) L) (.ListComp elt [⟨.Name y py,iter,ifs,0⟩] sc pos)>>=Mine.solid) σ=.ok (.list acc,.own) σ₁:=by rw [M.bind_ok e];rfl
 rw [M.bind_ok e1] at ne ⊢;have ne2:=M.bind_ne ne;have oo:∀C d,Zt vs m≠instObj C d:=fun C d q=>by cases q
 refine Zhn P' X (t:=(.list acc,.own)) ⟨[D],⟨D,vs,m,rfl,rfl,hd,hz,rl,X.nd.loose,X.nd.nf⟩,by simpa using X.nd.new⟩ (by simp) (fun as y=>Zdz hd oo X.cd y) (fun Γ t' k' as y=>Zdz hd oo X.cd y) hk ?_ ne2 (fun L' σ' e2=>(M.bind_ok (f:=fun L'=>(pure (Out.next,L'):M (Out×Ev))) e2).trans rfl);obtain ⟨m',hm'⟩:=X.ns;exact Zir hm'
theorem SSnd.assign_dict {x y:Str}{px py pos spos:Pos}{kx vx iter:Expr}{ifs:List Expr}{sc:Scope}(fa:Facts c)(ES:EnvS g f env)(ok:ScF f sc y)(hk:env.kindOf x=some .local∨env.kindOf x=some .cell)
  (hs:swapsWith (.DictComp kx vx [⟨.Name y py,iter,ifs,0⟩] sc pos) (some (.Name x px)) spos.line env=pure true)
  (hi:ESnd prog c A env G iter) (hT:∀cl C,(EnvS (isK' sc .globalImplicit) (isK' sc .free) (compEnvC sc cl C env))→∀e∈ifs,TSnd prog c A (compEnvC sc cl C env) G e)
  (hK:∀cl C,(EnvS (isK' sc .globalImplicit) (isK' sc .free) (compEnvC sc cl C env))→ESnd prog c A (compEnvC sc cl C env) G kx)
  (hE:∀cl C,(EnvS (isK' sc .globalImplicit) (isK' sc .free) (compEnvC sc cl C env))→ESnd prog c A (compEnvC sc cl C env) G vx)
  (hf:∀v,foldedSetIterable iter env v=pure v):
  SSnd prog c A₀ A env (Zi G (.Assign [.Name x px] (.DictComp kx vx [⟨.Name y py,iter,ifs,0⟩] sc pos) spos)) (exec (.Assign [.Name x px] (.DictComp kx vx [⟨.Name y py,iter,ifs,0⟩] sc pos) spos) env):=by
 intro L Γ₀ σ₀ s₀ Γ σ s P ne;obtain ⟨Γ',P',le⟩:=P.settle (.DictComp kx vx [⟨.Name y py,iter,ifs,0⟩] sc pos);rw [Zgg] at ne ⊢;have ne1:=M.bind_ne (M.bind_ne ne);rw [exec_Assign_Name_used _ _ _ _ hs];refine wpAny_bind (wpAny_standAt (wpAny_bind ?_));show wpAny _ A (do let _ ←comprehension (.DictComp kx vx [⟨.Name y py,iter,ifs,0⟩] sc pos) sc env _ newDict false (eval iter env) (some (PySem.assign (.Name x px) env))) _ _ s;refine wpAny_bind (wpAny_mono (Zks (Q:=fun _ s'=>SQ c A₀ A env Γ₀ σ₀ s₀ (((Za G (settle (.DictComp kx vx [⟨.Name y py,iter,ifs,0⟩] sc pos) L) (.DictComp kx vx [⟨.Name y py,iter,ifs,0⟩] sc pos)>>=Mine.solid)>>=fun t=>Mine.bindM (settle (.DictComp kx vx [⟨.Name y py,iter,ifs,0⟩] sc pos) L) x t>>=fun L'=>(pure (Out.next,L'):M (Out×Ev))) σ) .next s')
  P'.pre ES ok (hi _ _) hT hK hE hf ne1 (fun v s' q=>(q.toSE P').cast fun m' σ' e=>M.bind_exn (M.bind_exn e)) ?_ fa) (fun _ s' q=>wpAny_pure (wpAny_pure q)) fun _ _ q=>q)
 intro Γ₁ σ₁ s₁ acc ds m C D X nm hd rl nd hz e;have e1:(Za G (settle (.DictComp kx vx [⟨.Name y py,iter,ifs,0⟩] sc pos) L) (.DictComp kx vx [⟨.Name y py,iter,ifs,0⟩] sc pos)>>=Mine.solid) σ=.ok (.dict acc,.own) σ₁:=by rw [M.bind_ok e];rfl
 rw [M.bind_ok e1] at ne ⊢;have ne2:=M.bind_ne ne;have oo:∀C d,Zn ds m≠instObj C d:=fun C d q=>by cases q
 refine Zhn P' X (t:=(.dict acc,.own)) ⟨[D],⟨D,ds,m,rfl,rfl,nm,hd,hz,nd,rl,X.nd.loose,X.nd.nf⟩,by simpa using X.nd.new⟩ (by simp) (fun as y=>Zdz hd oo X.cd y) (fun Γ t' k' as y=>Zdz hd oo X.cd y) hk ?_ ne2 (fun L' σ' e2=>(M.bind_ok (f:=fun L'=>(pure (Out.next,L'):M (Out×Ev))) e2).trans rfl);obtain ⟨m',hm'⟩:=X.ns;exact Zir hm'
end
open Classical in
noncomputable def cutH (S:Addr→Prop) (h:Heap):Heap:={ h with objs:=h.objs.mapIdx fun i o=>if S i then { o with data:=.freed } else o }
theorem Zbk {S:Addr→Prop}{h:Heap}{a:Addr}(x:S a):(cutH S h).get? a=none:=by
 unfold cutH Heap.get?;simp only [Array.getElem?_mapIdx]
 cases h.objs[a]? with
 |none=>rfl
 |some o=>simp only [Option.map_some,if_pos x]
theorem Za8 {S:Addr→Prop}{h:Heap}{a:Addr}(x:¬S a):(cutH S h).get? a=h.get? a:=by
 unfold cutH Heap.get?;simp only [Array.getElem?_mapIdx]
 cases h.objs[a]? with
 |none=>rfl
 |some o=>simp only [Option.map_some,if_neg x]
section
variable {prog:Program}{c:Cx}{A₀ A:Around}{env:PySem.Env}{L L':Ev}{Γ₀ Γ Γ₁ Γ':Gh}{σ₀ σ σ₁ σ':Sg}{s₀ s s₁ s₂:Shared}{E:Value→Shared→Prop}{G:Calls}
theorem SPre.rebase (P:SPre c A₀ A env L Γ₀ σ₀ s₀ Γ σ s):∃s₁:Shared,SPre c A₀ A env L Γ σ s₁ Γ σ s∧Step (frs A₀) Γ₀ σ₀ s₀.heap Γ σ s₁.heap∧Same s₀ s₁∧
  (∀b o,s₁.heap.get? b=some o→s.heap.get? b=some o)∧
  ∀b o,s.heap.get? b=some o→b∉frs A→(∀y ca,env.cells.lookup y=some ca→ca≠b)→
   (∀(f:Str→List Addr) (m:Str→Option Value),s.heap.Ns env.locals m→(∀p∈L.own,∃v,Bnd Γ s.heap env m p.1 v∧OwnAt c Γ s.heap (frs A) p.2.1 p.2.2 v (f p.1))→∀p∈L.own,b∉f p.1)→s₁.heap.get? b=some o:=by
 obtain ⟨e1,e2,e3,m,e4,e5,e6,f,e7,e8,e9,e10⟩:=P.envr
 let S:Addr→Prop:=fun b=>(b∈frs A∧(b∉frs A₀∨b=env.locals))∨(∃y,env.cells.lookup y=some b)∨∃p∈L.own,b∈f p.1
 have old:∀{b o},s₀.heap.get? b=some o→¬S b:=by
  rintro b o e (⟨h1,h2⟩ | ⟨y,h⟩ | ⟨p,hp,hb⟩)
  ·rcases h2 with h2 | rfl
   ·rcases P.new b h1 with q | q
    ·exact h2 q
    ·rw [q] at e;cases e
   ·rw [P.fresh] at e;cases e
  ·have:=(P.cells y b h).1;rw [this] at e;cases e
  ·have:=e10 p hp b hb;rw [this] at e;cases e
 have lo:∀{b},S b→Loose Γ b:=by
  rintro b (⟨h1,_⟩ | ⟨y,h⟩ | ⟨p,hp,hb⟩)
  ·obtain ⟨_,_,_,l⟩:=P.fr.alive h1;exact l
  ·exact (P.cells y b h).2.1
  ·obtain ⟨v,_,q⟩:=e7 p hp;exact (q.as_loose b hb).1
 have kobj:∀{b o},Γ.obj b=some o→¬S b:=fun e q=>by rw [(lo q).1] at e;cases e
 have kidc:∀{b x},Γ.idc b=some x→¬S b:=fun e q=>by rw [(lo q).2.1] at e;cases e
 have kmov:∀{b},Γ.moves b→¬S b:=fun e q=>(lo q).2.2 e
 obtain ⟨hh,ht,hsame⟩:=P.same
 let h₁:=cutH S s.heap
 have g:∀{b o},s.heap.get? b=some o→¬S b→h₁.get? b=some o:=fun e n=>(Za8 n).trans e
 have back:∀b o,h₁.get? b=some o→s.heap.get? b=some o:=by
  intro b o e
  by_cases q:S b
  ·rw [show h₁.get? b=none from Zbk q] at e;cases e
  ·rwa [show h₁.get? b=s.heap.get? b from Za8 q] at e
 have St1:St c Γ σ h₁:=by
  have T:=P.st;refine ⟨T.base,fun b o e=>g (T.obj b o e) (kobj e),fun d x e=>?_,fun b e=>?_,T.apart2,?_,?_,?_⟩
  ·obtain ⟨sh,t1,t2,t3,t4,t5,n,q⟩:=T.idc d x e;exact ⟨sh,t1,t2,t3,t4,t5,n,g q (kidc e)⟩
  ·obtain ⟨q1,q2,o,q3⟩:=T.apart b e;exact ⟨q1,q2,o,g q3 (kmov e)⟩
  ·have q:=T.row
   cases hr:σ.row with
   |none=>rw [hr] at q;exact q
   |some ns=>
    rw [hr] at q;obtain ⟨r,vs,m,a1,a2,a3,a5⟩:=q;exact ⟨r,vs,m,a1,a2,g a3 (kmov a2),a5⟩
  ·have q:=T.self
   cases hs:σ.self with
   |none=>rw [hs] at q;exact q
   |some v=>
    rw [hs] at q;obtain ⟨a',d,ik,ii,ia,t,b1,b2,b3,⟨sh,t1,t2,t3,t4,t5,n,b4⟩,b5,b6,b7⟩:=q;refine ⟨a',d,ik,ii,ia,t,b1,b2,b3,⟨sh,t1,t2,t3,t4,t5,n,g b4 (kmov b3)⟩,b5,b6,?_⟩
    cases ha:v.attrs with
    |none=>rw [ha] at b7;exact b7
    |some es=>
     rw [ha] at b7;obtain ⟨D,ds,m,c1,c2,c3,c4,c5,c6⟩:=b7;exact ⟨D,ds,m,c1,c2,c3,c4,g c5 (kmov c3),c6⟩
  ·obtain ⟨m1,ps,m2,m3⟩:=T.tab;exact ⟨m1,ps,g m2 (kmov m1.1),m3⟩
 have y:=P.step;refine ⟨{ s₀ with heap:=h₁ },⟨St1,?_,P.st,P.fr,⟨e1,e2,e3,m,e4,e5,e6,f,e7,e8,e9,fun p hp b hb=>Zbk (.inr (.inr ⟨p,hp,hb⟩))⟩,Step.keeps back St1,P.inf,P.top,P.frame,P.sub,fun b hb=>?_,?_,fun x ca e=>?_,P.apart,P.kinds,P.nofree⟩,?_,⟨h₁,s₀.toks,rfl⟩,back,?_⟩
 ·exact ⟨hh,ht,hsame⟩
 ·by_cases q:b∈frs A₀
  ·exact .inl q
  ·exact .inr (Zbk (.inl ⟨hb,.inl q⟩))
 ·exact Zbk (.inl ⟨P.inf,.inr rfl⟩)
 ·obtain ⟨_,q1,q2⟩:=P.cells x ca e;exact ⟨Zbk (.inr (.inl ⟨x,e⟩)),q1,q2⟩
 ·refine ⟨y.le,fun b o e=>?_,fun b o e hm hi hf=>g (y.keep b o e hm hi hf) (old e),fun b o hb e l=>?_,y.old,y.rowNew,fun v v' e e' q=>?_,y.mono⟩
  ·obtain ⟨o',e'⟩:=y.alive b o e;exact ⟨o',g e' (old e)⟩
  ·obtain ⟨sl,e'⟩:=y.frames b o hb e l;exact ⟨sl,g e' (old e)⟩
  ·obtain ⟨q1,q2⟩:=y.still v v' e e' q;exact ⟨q1,fun b hm hr ht=>(Za8 (kmov (y.le.moves b hm))).trans (q2 b hm hr ht)⟩
 ·rintro b o e nf nc no
  refine g e ?_
  rintro (⟨h1,_⟩ | ⟨y,h⟩ | ⟨p,hp,hb⟩)
  ·exact nf h1
  ·exact nc y b h rfl
  ·exact no f m e4 e7 p hp hb
theorem SPre.unbase {Γ₂:Gh}{σ₂:Sg}(P:SPre c A₀ A env L Γ₀ σ₀ s₀ Γ σ s)(y:Step (frs A₀) Γ₀ σ₀ s₀.heap Γ σ s₁.heap)(sm:Same s₀ s₁)(Q:SPre c A₀ A env L' Γ σ s₁ Γ₂ σ₂ s₂):SPre c A₀ A env L' Γ₀ σ₀ s₀ Γ₂ σ₂ s₂:=by
 obtain ⟨e1,e2,e3,m,e4,e5,e6,f,e7,e8,e9,e10⟩:=Q.envr
 exact ⟨P.st₀,sm.trans Q.same,Q.st,Q.fr,⟨e1,e2,e3,m,e4,e5,e6,f,e7,e8,e9,fun p hp b hb=>Je y.alive (e10 p hp b hb)⟩,Step.trans P.st₀ y Q.step,Q.inf,P.top,P.frame,P.sub,P.new,P.fresh,
  fun x ca e=>⟨(P.cells x ca e).1,(Q.cells x ca e).2⟩,P.apart,P.kinds,P.nofree⟩
theorem RV.unbase {fr:List Addr}{h₀ h₁ h:Heap}{t:T×Kd}{v:Value}(k:∀x o,h₀.get? x=some o→∃o',h₁.get? x=some o')(r:RV c fr h₁ Γ σ h t v):RV c fr h₀ Γ σ h t v:=Qb _ _ _ _ _ _ _ k r
theorem FlowR.unbase {o:Out}{fl:Flow}{h:Heap}(k:∀x o,s₀.heap.get? x=some o→∃o',s₁.heap.get? x=some o')(r:FlowR c A₀ s₁ Γ σ h o fl):FlowR c A₀ s₀ Γ σ h o fl:=by
 cases o with
 |next=>exact r
 |cont=>exact r
 |ret t k'=>
  obtain ⟨v,e,r⟩:=r;exact ⟨v,e,RV.unbase k r⟩
theorem SQ.unbase {res:Res (Out×Ev)}{fl:Flow}(P:SPre c A₀ A env L Γ₀ σ₀ s₀ Γ σ s)(y:Step (frs A₀) Γ₀ σ₀ s₀.heap Γ σ s₁.heap)(sm:Same s₀ s₁)(q:SQ c A₀ A env Γ σ s₁ res fl s₂):SQ c A₀ A env Γ₀ σ₀ s₀ res fl s₂:=by
 obtain ⟨o,L',σ',Γ',e,Q,r⟩:=q;exact ⟨o,L',σ',Γ',e,P.unbase y sm Q,FlowR.unbase y.alive r⟩
theorem SE.unbase {α:Type}{res:Res α}{e:Value}(P:SPre c A₀ A env L Γ₀ σ₀ s₀ Γ σ s)(y:Step (frs A₀) Γ₀ σ₀ s₀.heap Γ σ s₁.heap)(sm:Same s₀ s₁)(q:SE c A₀ A Γ σ s₁ res e s₂):SE c A₀ A Γ₀ σ₀ s₀ res e s₂:=by
 obtain ⟨m,σ',Γ',ea,h1,h2,h3,h4,h5,h6,h7⟩:=q;exact ⟨m,σ',Γ',ea,h1,h2,sm.trans h3,h4,Step.trans P.st₀ y h5,h6,h7.back y.alive⟩
end
section
variable {prog:Program}{c:Cx}{A₀ A:Around}{env:PySem.Env}{L L':Ev}{Γ₀ Γ Γ₁ Γ':Gh}{σ₀ σ σ₁ σ':Sg}{s₀ s s₁ s₂:Shared}{E:Value→Shared→Prop}{G:Calls}{h h':Heap}
abbrev Sd (prog:Program)(c:Cx)(A₀ A:Around)(env:PySem.Env)(G:Calls)(st:Stmt):Prop:=SSnd prog c A₀ A env (Zi G st) (exec st env)
abbrev Sds (prog:Program)(c:Cx)(A₀ A:Around)(env:PySem.Env)(G:Calls)(b:List Stmt):Prop:=SSnd prog c A₀ A env (fun L=>execSs G b L) (execs b env)
theorem SSnd.never {m:Ev→M (Out×Ev)}{X:Sem Flow}(h:∀L σ,m L σ=.stuck):SSnd prog c A₀ A env m X:=fun L _ _ _ _ σ _ _ ne=>absurd (h L σ) ne
theorem Sd.pass {pos:Pos}:Sd prog c A₀ A env G (.Pass pos):=by
 intro L Γ₀ σ₀ s₀ Γ σ s P ne;exact wpAny_Pass ⟨.next,L,σ,Γ,by rw [Zi];rfl,P,rfl⟩
theorem Sd.continue_ {pos:Pos}:Sd prog c A₀ A env G (.Continue pos):=by
 intro L Γ₀ σ₀ s₀ Γ σ s P ne;exact wpAny_Continue ⟨.cont,L,σ,Γ,by rw [Zi];rfl,P,rfl⟩
theorem Sd.ret0 {pos:Pos}:Sd prog c A₀ A env G (.Return none pos):=by
 intro L Γ₀ σ₀ s₀ Γ σ s P ne;exact wpAny_Return_none ⟨.ret .none .val,L,σ,Γ,by rw [Zi];rfl,P,.none,rfl,Jr Rep.none'⟩
theorem OwnAt.less {fr fr':List Addr}{t:T}{k:Kd}{v:Value}{as:List Addr}(y:OwnAt c Γ h fr t k v as)(sub:∀b∈fr',b∈fr):OwnAt c Γ h fr' t k v as:=by
 have nn:∀{b},b∉fr→b∉fr':=fun n q=>n (sub _ q)
 unfold OwnAt at y ⊢;split at y
 ·obtain ⟨a,vs,n,rfl,rfl,e,z,r,l,f⟩:=y;exact ⟨a,vs,n,rfl,rfl,e,z,r,l,nn f⟩
 ·obtain ⟨a,ds,n,rfl,rfl,nm,e,z,nd,r,l,f⟩:=y;exact ⟨a,ds,n,rfl,rfl,nm,e,z,nd,r,l,nn f⟩
 ·obtain ⟨a,d,ik,ii,ia,t,rfl,rfl,hne,e,ei,hik,r1,r2,l1,l2,f1,f2⟩:=y;exact ⟨a,d,ik,ii,ia,t,rfl,rfl,hne,e,ei,hik,r1,r2,l1,l2,nn f1,nn f2⟩
 ·obtain ⟨a,d,b,ik,ia,t,vs,n,rfl,rfl,ne1,ne2,ne3,e,ei,hik,e2,z,r1,r2,l1,l2,l3,f1,f2,f3⟩:=y;exact ⟨a,d,b,ik,ia,t,vs,n,rfl,rfl,ne1,ne2,ne3,e,ei,hik,e2,z,r1,r2,l1,l2,l3,nn f1,nn f2,nn f3⟩
 ·exact y.elim
theorem RV.less {fr fr':List Addr}{pre:Heap}{t:T×Kd}{v:Value}(r:RV c fr pre Γ σ h t v)(sub:∀b∈fr',b∈fr):RV c fr' pre Γ σ h t v:=by
 unfold RV at r ⊢;split at r
 ·exact r
 ·exact r
 ·obtain ⟨as,y,n⟩:=r;exact ⟨as,y.less sub,n⟩
theorem SPre.own {x:Str}{t:T}{k:Kd}(P:SPre c A₀ A env L Γ₀ σ₀ s₀ Γ σ s)(hx:L.own.lookup x=some (t,k)):
  ∃(f:Str→List Addr) (m:Str→Option Value) (v:Value),s.heap.Ns env.locals m∧Bnd Γ s.heap env m x v∧OwnAt c Γ s.heap (frs A) t k v (f x)∧(∀a∈f x,s₀.heap.get? a=none)∧
   (∀p∈L.own,∃v,Bnd Γ s.heap env m p.1 v∧OwnAt c Γ s.heap (frs A) p.2.1 p.2.2 v (f p.1))∧(∀p∈L.own,p.1≠x→∀a∈f p.1,a∉f x):=by
 obtain ⟨e1,e2,e3,m,e4,e5,e6,f,e7,e8,e9,e10⟩:=P.envr;have hm:(x,t,k)∈L.own:=J4 hx;obtain ⟨v,b,q⟩:=e7 _ hm;exact ⟨f,m,v,e4,b,q,e10 _ hm,e7,fun p hp hne a ha=>e8 p hp _ hm hne a ha⟩
theorem Sd.ret {e:Expr}{pos:Pos}(hd:∀x p,e=.Name x p→(x == ("__debug__":Str))=false∧(x == ("__classdict__":Str))=false)(he:ESnd prog c A env G e):Sd prog c A₀ A env G (.Return (some e) pos):=by
 intro L Γ₀ σ₀ s₀ Γ σ s P ne;have plain:∀{L₁:Ev} {Γ₁:Gh} {res:Res (Out×Ev)},SPre c A₀ A env L₁ Γ₀ σ₀ s₀ Γ₁ σ s→res=((Za G L₁ e>>=Mine.solid)>>=fun t=>(pure (Out.ret t.1 t.2,L₁):M (Out×Ev))) σ→res≠.stuck→
   wpAny (model prog c.w) A (exec (.Return (some e) pos) env) (SQ c A₀ A env Γ₀ σ₀ s₀ res) (SE c A₀ A Γ₀ σ₀ s₀ res) s:=by
  intro L₁ Γ₁ res P₁ hr ne;subst hr;refine wpAny_Return_some (sseq P₁ ne (he _ _).solidRV ?_);intro t σ₁ Γ₂ w s₁ _ P₂ y r ne1 e1;rw [e1];exact ⟨.ret t.1 t.2,L₁,σ₁,Γ₂,rfl,P₂,w,rfl,RV.unbase P₁.step.alive (r.2.less P.sub)⟩
 by_cases hn:∃x p,e=.Name x p
 ·obtain ⟨x,p,rfl⟩:=hn;obtain ⟨d1,d2⟩:=hd x p rfl
  cases hx:L.own.lookup x with
  |some tk=>
   obtain ⟨t,k⟩:=tk;obtain ⟨f,m,v,hm,b,q,nn,_⟩:=P.own hx;have ev:Zi G (.Return (some (.Name x p)) pos) L=pure (.ret t k,L):=by rw [Zi,hx]
   rw [ev] at ne ⊢;refine wpAny_Return_some (Js P.envr.kind hm b d1 d2 ?_);refine ⟨.ret t k,L,σ,Γ,rfl,P,v,rfl,?_⟩;have q':=q.less P.sub
   cases k with
   |val=>exact q.elim
   |h=>exact q.elim
   |own=>exact ⟨_,q',nn⟩
   |ownIo=>exact ⟨_,q',nn⟩
  |none=>
   have ev:Zi G (.Return (some (.Name x p)) pos) L=(Za G L (.Name x p)>>=fun t=>pure (Out.ret t.1 t.2,L)):=by rw [Zi,hx]
   refine plain P ?_ ne;rw [ev,M.assoc];have e1:Za G L (.Name x p)=(do val (←Zl (Zbz L x))):=by simp only [Za]
   rw [e1];cases Zbz L x<;>rfl
 ·obtain ⟨Γ',P',le⟩:=P.settle e;refine plain P' ?_ ne;rw [Zi,M.assoc];intro x p q;exact hn ⟨x,p,q⟩
theorem Sd.if_ {t:Expr}{b o:List Stmt}{pos:Pos}(ht:TSnd prog c A env G t)(hb:Sds prog c A₀ A env G b)(ho:Sds prog c A₀ A env G o):Sd prog c A₀ A env G (.If t b o pos):=by
 intro L Γ₀ σ₀ s₀ Γ σ s P ne;obtain ⟨Γ',P',le⟩:=P.settle t;rw [Zi] at ne ⊢;refine wpAny_If (sseq P' ne (ht _ _) ?_);intro b₁ σ₁ Γ₁ b' s₁ e P₁ y r ne1 e1;cases r;rw [e1]
 cases b₁ with
 |true=>exact hb _ _ _ _ _ _ _ P₁ ne1
 |false=>exact ho _ _ _ _ _ _ _ P₁ ne1
theorem Sds.nil:Sds prog c A₀ A env G []:=by
 intro L Γ₀ σ₀ s₀ Γ σ s P ne;exact wpAny_execs_nil ⟨.next,L,σ,Γ,by dsimp only;rw [execSs];rfl,P,rfl⟩
theorem Sds.cons {st:Stmt}{r:List Stmt}(h:Sd prog c A₀ A env G st)(hr:Sds prog c A₀ A env G r):Sds prog c A₀ A env G (st::r):=by
 intro L Γ₀ σ₀ s₀ Γ σ s P ne;dsimp only at ne ⊢;rw [execSs] at ne ⊢;have ne0:=M.bind_ne ne;refine wpAny_execs_cons (wpAny_mono (h L _ _ _ _ _ _ P ne0) (fun f s' q=>?_) fun e s' q=>q.cast fun m σ' e=>M.bind_exn e);obtain ⟨o,L',σ',Γ',e,P',fl⟩:=q;rw [M.bind_ok e] at ne ⊢
 cases o with
 |next=>
  cases (show f=.next from fl);exact hr L' _ _ _ _ _ _ P' ne
 |cont=>
  cases (show f=.cont from fl);exact ⟨.cont,L',σ',Γ',rfl,P',rfl⟩
 |ret t k=>
  obtain ⟨v,rfl,r⟩:=fl;exact ⟨.ret t k,L',σ',Γ',rfl,P',v,rfl,r⟩
theorem Sd.while_ {t:Expr}{b:List Stmt}{pos:Pos}(ht:TSnd prog c A env G t)(hb:Sds prog c A₀ A env G b):Sd prog c A₀ A env G (.While t b [] pos):=by
 intro L Γ₀ σ₀ s₀ Γ σ s P ne;have ev:Zi G (.While t b [] pos) L=J0 t (fun L=>evalT G L t (Za G L t)) (fun L=>execSs G b L) Zbo L:=by rw [Zi]
 rw [ev] at ne ⊢
 generalize hres:J0 t (fun L=>evalT G L t (Za G L t)) (fun L=>execSs G b L) Zbo L σ=res at ne ⊢
 have pass:=SE.passes (prog:=prog) (res:=res) P;refine wpAny_While (codeAny_whileLoop (fun n s₁=>∃L₁ Γ₁ σ₁,SPre c A₀ A env L₁ Γ₀ σ₀ s₀ Γ₁ σ₁ s₁∧J0 t (fun L=>evalT G L t (Za G L t)) (fun L=>execSs G b L) n L₁ σ₁=res) ?_ Zbo ⟨L,Γ,σ,P,hres⟩)
 rintro n s₁ ⟨L₁,Γ₁,σ₁,P₁,e⟩
 obtain ⟨Γ₁',P₁',le⟩:=P₁.settle t
 cases n with
 |zero=>rw [J0] at e;exact absurd e.symm ne
 |succ n=>
  rw [J0] at e;have ne':=ne;rw [←e] at ne';refine wpAny_mono (sseq P₁' ne' (ht _ _) ?_) (fun _ _ q=>q) fun e' s' q=>pass e' s' (by rw [←e];exact q)
  intro b₁ σ₂ Γ₂ b' s₂ eb P₂ y r ne1 e1;cases r;rw [e1] at e
  cases b₁ with
  |false=>
   refine wpAny_execs_nil ?_;exact ⟨.next,settle t L₁,σ₂,Γ₂,e.symm,P₂,rfl⟩
  |true=>
   have e:(execSs G b (settle t L₁)>>=fun r=>match r with
    |(.ret t k,L')=>pure (.ret t k,L')
    |(_,L')=>J0 t (fun L=>evalT G L t (Za G L t)) (fun L=>execSs G b L) n L') σ₂=res:=e
   have ne2:execSs G b (settle t L₁) σ₂≠.stuck:=M.bind_ne (f:=_) (by rw [e];exact ne);refine wpAny_mono (hb _ _ _ _ _ _ _ P₂ ne2) (fun f s₃ q=>?_) fun e' s' q=>pass e' s' (q.cast fun m σ' e''=>by rw [←e];exact M.bind_exn e'')
   obtain ⟨o,L',σ₃,Γ₃,e3,P₃,fl⟩:=q;rw [M.bind_ok e3] at e
   cases o with
   |next=>cases (show f=.next from fl);exact ⟨n,Nat.lt_succ_self n,L',Γ₃,σ₃,P₃,e⟩
   |cont=>cases (show f=.cont from fl);exact ⟨n,Nat.lt_succ_self n,L',Γ₃,σ₃,P₃,e⟩
   |ret t' k=>
    obtain ⟨v,rfl,r⟩:=fl;exact ⟨.ret t' k,L',σ₃,Γ₃,e.symm,P₃,v,rfl,r⟩
end
section
variable {prog:Program}{c:Cx}{A₀ A:Around}{env:PySem.Env}{L L':Ev}{Γ₀ Γ Γ₁ Γ':Gh}{σ₀ σ σ₁ σ':Sg}{s₀ s s₁ s₂:Shared}{E:Value→Shared→Prop}{G:Calls}{h h':Heap}{it:Addr}{k:Kd}
theorem ItAt.over {rest:List T}(x:ItAt prog c A k it rest Γ σ h)(hk:k≠.h)(hi:∀o,h.get? it=some o→h'.get? it=some o)(S:∀b o,Γ.obj b=some o→h.get? b=some o)(S':∀b o,Γ.obj b=some o→h'.get? b=some o)(le:Γ.Le Γ₁):ItAt prog c A k it rest Γ₁ σ₁ h':=by
 obtain ⟨fp,n,P,Q,i,W,q,hn,hf,hv,ha⟩:=x;refine ⟨fp,n,P,Q,i,W,W.frame _ _ _ q fun b hb o e=>?_,hn,fun b hb=>?_,fun j v hj hp=>?_,ha⟩
 ·rcases hf b hb with rfl | ⟨o',r⟩
  ·exact hi o e
  ·rcases r with r | r
   ·rw [S _ _ r] at e;cases e;exact S' _ _ r
   ·exact absurd r.1 hk
 ·rcases hf b hb with rfl | ⟨o',r⟩
  ·exact .inl rfl
  ·rcases r with r | r
   ·exact .inr ⟨o',.inl (le.obj _ _ r)⟩
   ·exact absurd r.1 hk
 ·obtain ⟨t,h1,h2⟩:=hv j v hj hp;exact ⟨t,h1,Rep.mono le _ _ h2⟩
theorem Rep.notLoose {t:T}{a:Addr}(S:St c Γ σ h)(r:Rep c Γ t (.ref a))(l:Loose Γ a):False:=by
 cases t with
 |none=>cases r.none_inv
 |bool b=>cases r.bool_inv
 |int i=>obtain ⟨_,e⟩:=r.int_inv;cases e
 |str x=>obtain ⟨_,e⟩:=r.str_inv;cases e
 |tup ts=>obtain ⟨_,_,_,e,q,_⟩:=r.tup_inv;cases e;rw [l.1] at q;cases q
 |list ts=>obtain ⟨_,_,_,e,q,_⟩:=r.list_inv;cases e;rw [l.1] at q;cases q
 |dict es=>obtain ⟨_,_,_,e,_,q,_⟩:=r.dict_inv;cases e;rw [l.1] at q;cases q
 |vec k its at'=>unfold Rep at r;obtain ⟨_,_,_,_,_,_,_,_,e,q,_⟩:=r;cases e;rw [l.1] at q;cases q
 |null=>unfold Rep at r;obtain ⟨_,_,_,e,q,_⟩:=r;cases e;rw [l.1] at q;cases q
 |range x y=>unfold Rep at r;obtain ⟨_,_,e,q,_⟩:=r;cases e;rw [l.1] at q;cases q
 |row=>
  unfold Rep at r;obtain ⟨_,e,q⟩:=r;cases e;have R:=S.row
  cases hr:σ.row with
  |none=>rw [hr] at R;rw [show Γ.row=none from R] at q;cases q
  |some ns=>
   rw [hr] at R;obtain ⟨r,vs,m,a1,a2,_⟩:=R;rw [q] at a1;cases a1;exact l.2.2 a2
 |self=>
  unfold Rep at r;obtain ⟨_,d,e,q⟩:=r;cases e;have R:=S.self
  cases hr:σ.self with
  |none=>rw [hr] at R;rw [show Γ.self=none from R] at q;cases q
  |some ns=>
   rw [hr] at R;obtain ⟨a',d',ik,ii,ia,t,b1,b2,_⟩:=R;rw [q] at b1;cases b1;rw [l.1] at b2;cases b2
theorem OwnAt.root {t:T}{v:Value}{as fr:List Addr}(y:OwnAt c Γ h fr t k v as):∃a,v=.ref a∧Loose Γ a∧a∈as:=by
 unfold OwnAt at y;split at y
 ·obtain ⟨a,vs,n,rfl,rfl,e,z,r,l,f⟩:=y;exact ⟨a,rfl,l,by simp⟩
 ·obtain ⟨a,ds,n,rfl,rfl,nm,e,z,nd,r,l,f⟩:=y;exact ⟨a,rfl,l,by simp⟩
 ·obtain ⟨a,d,ik,ii,ia,t,rfl,rfl,hne,e,ei,hik,r1,r2,l1,l2,f1,f2⟩:=y;exact ⟨a,rfl,l1,by simp⟩
 ·obtain ⟨a,d,b,ik,ia,t,vs,n,rfl,rfl,ne1,ne2,ne3,e,ei,hik,e2,z,r1,r2,l1,l2,l3,f1,f2,f3⟩:=y;exact ⟨a,rfl,l1,by simp⟩
 ·exact y.elim
theorem Zn5 {t t':T}{k':Kd}{v:Value}{as fr:List Addr}(S:St c Γ σ h)(r:Rep c Γ t v)(y:OwnAt c Γ h fr t' k' v as):False:=by
 obtain ⟨a,rfl,l,_⟩:=y.root;exact r.notLoose S l
theorem OwnAt.apartK {t:T}{v:Value}{as:List Addr}{fr:List Addr}{a:Addr}(y:OwnAt c Γ h fr t k v as)(kp:∀b o,b≠a→h.get? b=some o→h'.get? b=some o)(n:a∉as):OwnAt c Γ h' fr t k v as:=by
 have kp:∀{b o},b≠a→h.get? b=some o→h'.get? b=some o:=fun hb e=>kp _ _ hb e
 unfold OwnAt at y ⊢;split at y
 ·obtain ⟨a',vs,n',rfl,rfl,e,z,r,l,f⟩:=y;exact ⟨a',vs,n',rfl,rfl,kp (fun q=>n (by simp [q])) e,z,r,l,f⟩
 ·obtain ⟨a',ds,n',rfl,rfl,nm,e,z,nd,r,l,f⟩:=y;exact ⟨a',ds,n',rfl,rfl,nm,kp (fun q=>n (by simp [q])) e,z,nd,r,l,f⟩
 ·obtain ⟨a',d,ik,ii,ia,t,rfl,rfl,hne,e,⟨sh,t1,t2,t3,t4,t5,m,ei⟩,r⟩:=y;exact ⟨a',d,ik,ii,ia,t,rfl,rfl,hne,kp (fun q=>n (by simp [q])) e,⟨sh,t1,t2,t3,t4,t5,m,kp (fun q=>n (by simp [q])) ei⟩,r⟩
 ·obtain ⟨a',d,b,ik,ia,t,vs,n',rfl,rfl,ne1,ne2,ne3,e,⟨sh,t1,t2,t3,t4,t5,m,ei⟩,hik,e2,r⟩:=y;exact ⟨a',d,b,ik,ia,t,vs,n',rfl,rfl,ne1,ne2,ne3,kp (fun q=>n (by simp [q])) e,⟨sh,t1,t2,t3,t4,t5,m,kp (fun q=>n (by simp [q])) ei⟩,hik,kp (fun q=>n (by simp [q])) e2,r⟩
 ·exact y.elim
def Ze4 (c:Cx)(A:Around)(env:PySem.Env)(L:Ev)(Γ:Gh)(h:Heap)(a:Addr):Prop:=
 ∀(f:Str→List Addr) (m:Str→Option Value),h.Ns env.locals m→(∀p∈L.own,∃v,Bnd Γ h env m p.1 v∧OwnAt c Γ h (frs A) p.2.1 p.2.2 v (f p.1))→∀p∈L.own,a∉f p.1
theorem SPre.turnK {a:Addr}{h':Heap}{tk:Nat}(P:SPre c A₀ A env L Γ₀ σ₀ s₀ Γ σ s)(la:Loose Γ a)(na:s₀.heap.get? a=none)(nf:a∉frs A)(nc:∀y ca,env.cells.lookup y=some ca→ca≠a)
  (no:Ze4 c A env L Γ s.heap a) (kp:∀b o,b≠a→s.heap.get? b=some o→h'.get? b=some o):SPre c A₀ A env L Γ₀ σ₀ s₀ Γ σ { s with heap:=h',toks:=tk }∧Ze4 c A env L Γ h' a:=by
 obtain ⟨S',x'⟩:=Zcm P.st P.step na la kp;obtain ⟨e1,e2,e3,m,e4,e5,e6,f,e7,e8,e9,e10⟩:=P.envr;have hL:env.locals≠a:=fun q=>nf (q▸P.inf)
 have cell:∀{ca v},ca≠a→s.heap.IsCell ca v→h'.IsCell ca v:=by
  rintro ca v hne ⟨o,q1,q2⟩
  exact ⟨o,kp _ _ hne q1,q2⟩
 have bnd:∀{y w},Bnd Γ s.heap env m y w→Bnd Γ h' env m y w:=by
  intro y w b;rcases b with b | ⟨k',ca,h1,h2,h3,h4,h5⟩
  ·exact .inl b
  ·exact .inr ⟨k',ca,h1,h2,h3,cell (nc _ _ h3) h4,h5⟩
 have hns:h'.Ns env.locals m:=by
  obtain ⟨o,es,ep,q1,q2,q3⟩:=e4;exact ⟨o,es,ep,kp _ _ hL q1,q2,q3⟩
 have own:∀p∈L.own,∃v,Bnd Γ h' env m p.1 v∧OwnAt c Γ h' (frs A) p.2.1 p.2.2 v (f p.1):=fun p hp=>by
  obtain ⟨w,q1,q2⟩:=e7 p hp;exact ⟨w,bnd q1,q2.apartK kp (no f m e4 e7 p hp)⟩
 refine ⟨⟨P.st₀,P.same.trans ⟨h',tk,rfl⟩,S',?_,⟨e1,e2,e3,m,hns,e5,fun y t hy=>?_,f,own,e8,e9,e10⟩,x',P.inf,P.top,P.frame,P.sub,P.new,P.fresh,fun y ca e=>?_,P.apart,P.kinds,P.nofree⟩,?_⟩
 ·obtain ⟨⟨l,hl,hF⟩,hh⟩:=P.fr;refine ⟨⟨l,hl,fun e he=>?_⟩,hh⟩;obtain ⟨h1,F,o,h2,h3,h4,h5⟩:=hF e he;exact ⟨h1,F,o,h2,kp _ _ (fun q=>nf (by rw [←q];unfold frs;rw [hl];exact List.mem_filterMap.mpr ⟨e,he,h2⟩)) h3,h4,h5⟩
 ·obtain ⟨w,q1,q2⟩:=e6 y t hy;exact ⟨w,bnd q1,q2⟩
 ·obtain ⟨c1,c2,w,c3⟩:=P.cells y ca e;exact ⟨c1,c2,w,cell (nc _ _ e) c3⟩
 ·exact Zey ⟨f,m,hns,own,no f m e4 e7⟩
structure ForI (prog:Program) (c:Cx) (A₀ A:Around) (env:PySem.Env) (Γ₀:Gh) (σ₀:Sg) (s₀:Shared) (k:Kd) (it:Addr) (rest:List T) (L:Ev) (Γ:Gh) (σ:Sg) (s:Shared):Prop where
 P:SPre c A₀ A env L Γ₀ σ₀ s₀ Γ σ s
 itr:ItAt prog c A k it rest Γ σ s.heap
 lo:Loose Γ it
 nf:it∉frs A
 n0:s₀.heap.get? it=none
 nc:∀y ca,env.cells.lookup y=some ca→ca≠it
 no:Ze4 c A env L Γ s.heap it
def finF (r:Out×Ev):M (Out×Ev):=match r with
 |(.cont,L')=>pure (.next,L')
 |r=>pure r
theorem Sd.for_ {x:Str}{px pos:Pos}{e:Expr}{b:List Stmt}(hk:env.kindOf x=some .local∨env.kindOf x=some .cell)(hf:∀v,foldedSetIterable e env v=pure v)(he:ESnd prog c A env G e)(hb:Sds prog c A₀ A env G b):
  Sd prog c A₀ A env G (.For (.Name x px) e b [] pos):=by
 intro L Γ₀ σ₀ s₀ Γ σ s P ne;obtain ⟨Γ',P',le⟩:=P.settle e;have ev:Zi G (.For (.Name x px) e b [] pos) L=(Za G (settle e L) e>>=fun s=>Zd4 s.2>>=fun _=>Qm s.1>>=fun l=>forL x (fun L=>execSs G b L) l (settle e L)>>=finF):=by
  rw [Zi];rfl
 rw [ev] at ne ⊢;refine wpAny_For (sseq P' ne (he _ _).toRF ?_) hf
 rintro ⟨t,k⟩ σ₁ Γ₁ w s₁ _ P₁ y r ne1 e1
 rw [e1];dsimp only at ne1 ⊢;have hkh:k≠.h:=by
  rintro rfl
  exact ne1 rfl
 have en:Zd4 k=pure ():=if_neg hkh;rw [en,show (pure ()>>=fun _=>Qm t>>=fun l=>forL x (fun L=>execSs G b L) l (settle e L)>>=finF:M (Out×Ev))=(Qm t>>=fun l=>forL x (fun L=>execSs G b L) l (settle e L)>>=finF) from rfl] at ne1 ⊢;unfold Qm at ne1 ⊢
 cases hl:Za1 t with
 |none=>rw [hl] at ne1;exact absurd rfl ne1
 |some l=>
  rw [hl] at ne1;rw [show (Zl (some l)>>=fun l=>forL x (fun L=>execSs G b L) l (settle e L)>>=finF:M (Out×Ev))=(forL x (fun L=>execSs G b L) l (settle e L)>>=finF) from rfl] at ne1 ⊢
  generalize hres:(forL x (fun L=>execSs G b L) l (settle e L)>>=finF) σ₁=res at ne1 ⊢
  have pass:=SE.passes (prog:=prog) (res:=res) P₁;refine Zf5 P₁.pre r hl fun o itr=>?_
  have hn:=Qp s₁.heap;have stp:Step (frs A) Γ₁ σ₁ s₁.heap Γ₁ σ₁ (s₁.heap.push o):=Step.keeps Z6 P₁.st;have P₂:SPre c A₀ A env (settle e L) Γ₀ σ₀ s₀ Γ₁ σ₁ { s₁ with heap:=s₁.heap.push o }:=P₁.next (Same.mk' s₁ _ _) (P₁.st.keeps Z6) stp;have I₀:ForI prog c A₀ A env Γ₀ σ₀ s₀ k s₁.heap.objs.size l (settle e L) Γ₁ σ₁ { s₁ with heap:=s₁.heap.push o }:=by
   refine ⟨P₂,itr,P₁.st.loose hn,P₁.fr.fresh hn,Je P₁.step.alive hn,fun y ca e q=>?_,fun f m hm hf p hp q=>Zd0 P₁ stp [s₁.heap.objs.size] (by simpa using hn) f m hm hf p hp _ q (by simp)⟩;obtain ⟨_,_,w,o',q1,_⟩:=P₁.cells y ca e;rw [q,hn] at q1;cases q1
  generalize s₁.heap.objs.size=it at I₀ ⊢
  refine codeAny_forLoop (fun n s₂=>∃rest L₂ Γ₂ σ₂,n=rest.length∧ForI prog c A₀ A env Γ₀ σ₀ s₀ k it rest L₂ Γ₂ σ₂ s₂∧(forL x (fun L=>execSs G b L) rest L₂>>=finF) σ₂=res) ?_ l.length ⟨l,settle e L,Γ₁,σ₁,rfl,I₀,hres⟩
  rintro n s₂ ⟨rest,L₂,Γ₂,σ₂,rfl,X,eq⟩
  cases rest with
  |nil=>
   refine ItAt.done X.itr fun h' tk kp=>?_
   refine wpAny_execs_nil ?_;exact ⟨.next,L₂,σ₂,Γ₂,eq.symm,(X.P.turnK X.lo X.n0 X.nf X.nc X.no kp).1,rfl⟩
  |cons t r=>
   refine ItAt.item X.itr X.lo fun v h₁ tk₁ rv itr kp=>?_
   obtain ⟨P₃,no₃⟩:=X.P.turnK (tk:=tk₁) X.lo X.n0 X.nf X.nc X.no kp;refine wpAny_assign_Name (P₃.store (L':=L₂.bindVal x t) hk (.inl ⟨t,rfl,rv⟩) fun h₂ tk₂ P₄ st=>?_);obtain ⟨⟨a,ha,sb⟩,av⟩:=st;have hne:it≠a:=by
    rcases ha with rfl | ha
    ·exact fun q=>X.nf (q▸P.inf)
    ·exact fun q=>X.nc _ _ ha q.symm
   have hit:∀o,h₁.get? it=some o→h₂.get? it=some o:=fun o e=>(sb.2 it hne).trans e
   have av':=Zey (Γ':=Γ₂) (av it no₃ (fun t' k' as y=>(Zn5 P₃.st rv y).elim));obtain ⟨s₄,Q₄,y₄,sm,back,has⟩:=P₄.rebase;have hs₄:∀o,h₂.get? it=some o→s₄.heap.get? it=some o:=fun o e=>has it o e X.nf X.nc av'
   have eq':(execSs G b (L₂.bindVal x t)>>=fun q=>(match q with
    |(.ret t k,L')=>pure (.ret t k,L')
    |(_,L')=>forL x (fun L=>execSs G b L) r L')>>=finF) σ₂=res:=by rw [←eq,forL,M.assoc]<;>rfl
   have ne2:execSs G b (L₂.bindVal x t) σ₂≠.stuck:=M.bind_ne (f:=_) (by rw [eq'];exact ne1);refine wpAny_mono (hb _ _ _ _ _ _ _ Q₄ ne2) (fun fl s₅ q=>?_) fun e' s' q=>pass e' s' (SE.unbase P₄ y₄ sm (q.cast fun m σ' e''=>by rw [←eq'];exact M.bind_exn e''))
   obtain ⟨o,L',σ₃,Γ₃,e3,P₅,fl'⟩:=q;rw [M.bind_ok e3] at eq';have P₆:=P₄.unbase y₄ sm P₅;obtain ⟨oi,hoi⟩:=itr.alive;have hoi₄:=hs₄ _ (hit _ hoi);have nxt:ForI prog c A₀ A env Γ₀ σ₀ s₀ k it r L' Γ₃ σ₃ s₅:=by
    have hkeep:=P₅.step.keep it oi hoi₄ X.lo.2.2 X.lo.2.1 (fun q=>X.nf (P.sub _ q));refine ⟨P₆,?_,X.lo.old P₅.step hoi₄,X.nf,X.n0,X.nc,?_⟩
    ·exact itr.over hkh (fun o e=>by rw [hoi] at e;cases e;exact hkeep) (fun b o e=>P₃.st.obj b o e) (fun b o e=>P₅.st.obj b o (P₅.step.le.obj b o e)) P₅.step.le
    ·obtain ⟨_,_,_,m,e4,_,_,f,e7,_,_,e10⟩:=P₅.envr;refine Zey ⟨f,m,e4,e7,fun p hp q=>?_⟩;rw [e10 p hp it q] at hoi₄;cases hoi₄
   cases o with
   |next=>cases (show fl=.next from fl');exact ⟨r.length,by simp,r,L',Γ₃,σ₃,rfl,nxt,eq'⟩
   |cont=>cases (show fl=.cont from fl');exact ⟨r.length,by simp,r,L',Γ₃,σ₃,rfl,nxt,eq'⟩
   |ret t' k'=>
    obtain ⟨v',rfl,r'⟩:=fl';exact ⟨.ret t' k',L',σ₃,Γ₃,eq'.symm,P₆,v',rfl,RV.unbase y₄.alive r'⟩
end
section
variable {prog:Program}{c:Cx}{A₀ A:Around}{env:PySem.Env}{L L':Ev}{Γ₀ Γ Γ₁ Γ':Gh}{σ₀ σ σ₁ σ':Sg}{s₀ s s₁ s₂:Shared}{E:Value→Shared→Prop}{G:Calls}{h h':Heap}{k:Kd}
theorem Zqf {M:Model}{m:Str→Option Value}{x:Str}{v:Value}{Q:Value→Shared→Prop}(hk:env.scope.kind=.function)(hn:s.heap.Ns env.locals m)(b:Bnd Γ s.heap env m x v)
  (hc:(x == ("__classdict__":Str))=false) (h:Q v s):wpAny M A (loadName env x) Q E s:=by
 rcases b with ⟨h1,h2⟩ | ⟨k,ca,h1,h2,h3,h4,h5⟩
 ·exact wpAny_loadName_local hk h1 hn h2 h
 ·rcases h1 with rfl | rfl
  ·exact wpAny_loadName_cell hk h2 h3 h4 h
  ·exact wpAny_loadName_free hk h2 h3 h4 h hc
theorem SPre.toks (P:SPre c A₀ A env L Γ₀ σ₀ s₀ Γ σ s)(tk:Nat):SPre c A₀ A env L Γ₀ σ₀ s₀ Γ σ { s with toks:=tk }:=
 P.next (s₁:={ s with toks:=tk }) ⟨s.heap,tk,rfl⟩ P.st (Step.refl ..)
theorem RF.rep {pre:Heap}{t:T×Kd}{v:Value}(r:RF c pre Γ σ h t v)(n:∀es,t.1≠.dict es):Rep c Γ t.1 v:=by
 rcases r with ⟨_,es,_,_,_,_,_,e,_⟩ | ⟨_,r⟩
 ·exact absurd e (n es)
 ·exact r
theorem Sd.aug {x:Str}{px pos:Pos}{op:Operator}{v:Expr}(hk:env.kindOf x=some .local∨env.kindOf x=some .cell)(hc:(x == ("__classdict__":Str))=false)(he:ESnd prog c A env G v):
  Sd prog c A₀ A env G (.AugAssign (.Name x px) op v pos):=by
 intro L Γ₀ σ₀ s₀ Γ σ s P ne;obtain ⟨Γ',P',le⟩:=P.settle v;have ev:Zi G (.AugAssign (.Name x px) op v pos) L=(Zl (L.loc x)>>=fun a=>Za G (settle v L) v>>=fun b=>Zl (augT op a b.1)>>=fun c=>pure (Out.next,(settle v L).bindVal x c)):=by rw [Zi]
 rw [ev] at ne ⊢
 cases hx:L.loc x with
 |none=>rw [hx] at ne;exact absurd rfl ne
 |some a=>
  rw [hx] at ne;rw [show (Zl (some a)>>=fun a=>Za G (settle v L) v>>=fun b=>Zl (augT op a b.1)>>=fun c=>pure (Out.next,(settle v L).bindVal x c):M (Out×Ev))=(Za G (settle v L) v>>=fun b=>Zl (augT op a b.1)>>=fun c=>pure (Out.next,(settle v L).bindVal x c)) from rfl] at ne ⊢;obtain ⟨e1,e2,e3,m,e4,e5,e6,_⟩:=P.envr;obtain ⟨w,bw,rw'⟩:=e6 x a hx;refine wpAny_AugAssign_Name (Zqf e1 e4 bw hc (sseq P' ne (he _ _).toRF ?_));intro b σ₁ Γ₁ u s₁ _ P₁ y r ne1 e1;rw [e1];have ra:=Rep.mono (le.trans y.le) _ _ rw'
  cases hc:augT op a b.1 with
  |none=>rw [hc] at ne1;exact absurd rfl ne1
  |some cc=>
   have fin:∀{i:Int} {tk:Nat} {t:Tok},cc=.int i→wpAny (model prog c.w) A (storeName env x (.int i t)) (fun _=>SQ c A₀ A env Γ₀ σ₀ s₀ ((Zl (some cc)>>=fun c=>pure (Out.next,(settle v L).bindVal x c):M (Out×Ev)) σ₁) .next) (SE c A₀ A Γ₀ σ₀ s₀ ((Zl (some cc)>>=fun c=>pure (Out.next,(settle v L).bindVal x c):M (Out×Ev)) σ₁)) { s₁ with toks:=tk }:=by
    rintro i tk t rfl
    exact (P₁.toks tk).store hk (.inl ⟨.int i,rfl,Rep.int⟩) fun h' tk' P₂ _=>⟨.next,_,σ₁,Γ₁,rfl,P₂,rfl⟩
   obtain ⟨b,kb⟩:=b;dsimp only at hc;unfold augT at hc;split at hc
   ·cases hc;obtain ⟨ta,rfl⟩:=ra.int_inv;obtain ⟨tb,rfl⟩:=(r.rep (fun es q=>by cases q)).int_inv;exact iadd_int (fin rfl)
   ·cases hc;obtain ⟨ta,rfl⟩:=ra.int_inv;obtain ⟨tb,rfl⟩:=(r.rep (fun es q=>by cases q)).int_inv;exact isub_int (fin rfl)
   ·cases hc
theorem Zu0 {elts:List Expr}:∀{xs:List Str},Zaj elts=some xs→(assignEach elts env).length=xs.length∧(assignEach elts env).findIdx? (·.1)=none:=by
 induction elts with
 |nil=>intro xs h;cases h;exact ⟨rfl,rfl⟩
 |cons e r ih=>
  intro xs h;cases e<;>first | (cases h;done) | skip
  rename_i x p;unfold Zaj at h;obtain ⟨ys,h1,rfl⟩:=Option.map_eq_some_iff.mp h;obtain ⟨i1,i2⟩:=ih h1;refine ⟨by show (assignEach r env).length+1=_;rw [i1];rfl,?_⟩;show List.findIdx? _ ((false,assign (.Name x p) env)::assignEach r env)=none;rw [List.findIdx?_cons,i2];rfl
theorem Zuy {elts:List Expr}{Q:Unit→Shared→Prop}:∀{xs:List Str} {ts:List T} {vs:List Value} {L:Ev} {s:Shared},Zaj elts=some xs→(∀x∈xs,env.kindOf x=some .local∨env.kindOf x=some .cell)→RepL c Γ ts vs→SPre c A₀ A env L Γ₀ σ₀ s₀ Γ σ s→ts.length=xs.length→
  (∀s',SPre c A₀ A env (Zba L xs ts) Γ₀ σ₀ s₀ Γ σ s'→Q () s')→wpAny (model prog c.w) A (assignInOrder ((assignEach elts env).map (·.2)) vs) Q E s:=by
 induction elts with
 |nil=>
  intro xs ts vs L s h hx r P hl q;cases h
  cases ts with
  |nil=>unfold RepL at r;subst r;exact wpAny_pure (q s P)
  |cons _ _=>cases hl
 |cons e r ih=>
  intro xs ts vs L s h hx rl P hl q;cases e<;>first | (cases h;done) | skip
  rename_i x p;unfold Zaj at h;obtain ⟨ys,h1,rfl⟩:=Option.map_eq_some_iff.mp h
  cases ts with
  |nil=>cases hl
  |cons t ts=>
   unfold RepL at rl;obtain ⟨v,vs,rfl,r1,r2⟩:=rl;show wpAny _ A (assignInOrder (assign (.Name x p) env::(assignEach r env).map (·.2)) (v::vs)) Q E s;unfold assignInOrder;refine wpAny_bind (wpAny_holding (wpAny_assign_Name (P.store (L':=L.bindVal x t) (hx x (by simp)) (.inl ⟨t,rfl,r1⟩) fun h' tk P₁ _=>?_)));exact ih h1 (fun y hy=>hx y (by simp [hy])) r2 P₁ (by simpa using hl) q
theorem Sd.tuple {elts:List Expr}{kx:_}{tpos pos:Pos}{v:Expr}{xs:List Str}(hx:Zaj elts=some xs)(hk:∀x∈xs,env.kindOf x=some .local∨env.kindOf x=some .cell)
  (hs:swapsWithSole [.Tuple elts kx tpos] v pos.line env=pure false) (hw:swappedStores [.Tuple elts kx tpos] v env=pure none) (he:ESnd prog c A env G v):Sd prog c A₀ A env G (.Assign [.Tuple elts kx tpos] v pos):=by
 intro L Γ₀ σ₀ s₀ Γ σ s P ne;obtain ⟨Γ',P',le⟩:=P.settle v
 have ev:Zi G (.Assign [.Tuple elts kx tpos] v pos) L=(Za G (settle v L) v>>=fun t=>match t with
  |(.tup ts,_)=>if ts.length=xs.length then pure (.next,Zba (settle v L) xs ts) else stuck
  |_=>stuck):=by rw [Zi,hx];rfl
 rw [ev] at ne ⊢;refine Assign_Tuple (sseq P' ne (he _ _).toRF ?_) hs hw
 rintro ⟨t,kt⟩ σ₁ Γ₁ w s₁ _ P₁ y r ne1 e1
 rw [e1];obtain ⟨ts,rfl⟩:∃ts,t=.tup ts:=by
  cases t<;>first | exact ⟨_,rfl⟩ | exact absurd rfl ne1
 dsimp only at ne1 ⊢
 by_cases hl:ts.length=xs.length
 ·rw [if_pos hl];obtain ⟨a,vs,n,rfl,o,z,rl⟩:=(r.rep (fun es q=>by cases q)).tup_inv;have ha:=P₁.st.obj _ _ o;obtain ⟨n1,n2⟩:=Zu0 (env:=env) hx;refine assign_Tuple_tuple (items:=vs.toArray) P₁.fr.handled ⟨_,ha,rfl,n,rfl⟩ (by rw [n1,List.size_toArray,rl.length,hl]) n2 fun h' he=>?_
  have kp:∀b o,s₁.heap.get? b=some o→h'.get? b=some o:=fun b o e=>he b o (Nat.ne_of_lt (Heap.lt_size e)) e
  have P₂:SPre c A₀ A env (settle v L) Γ₀ σ₀ s₀ Γ₁ σ₁ { s₁ with heap:=h' }:=P₁.next (Same.mk' s₁ _ _) (P₁.st.keeps kp) (Step.keeps kp P₁.st);exact Zuy hx hk rl P₂ hl fun s' P₃=>⟨.next,_,σ₁,Γ₁,rfl,P₃,rfl⟩
 ·rw [if_neg hl] at ne1;exact absurd rfl ne1
def Zit:Expr→Bool
 |.Call (.Attribute ..) _ _ _=>false
 |_=>true
theorem Sd.expr {e:Expr}{pos:Pos}(hm:Zit e=true)(hi:interactive env=false)(hs:swapsWith e none pos.line env=pure false)(he:ESnd prog c A env G e):Sd prog c A₀ A env G (.Expr e pos):=by
 intro L Γ₀ σ₀ s₀ Γ σ s P ne;obtain ⟨Γ',P',le⟩:=P.settle e;have ev:Zi G (.Expr e pos) L=(Za G (settle e L) e>>=fun _=>pure (.next,settle e L)):=by
  rw [Zi]<;>(intros;subst_vars;cases hm)
 rw [ev] at ne ⊢;refine wpAny_Expr_any (sseq P' ne (he _ _) ?_) hi hs;intro t σ₁ Γ₁ w s₁ _ P₁ y r ne1 e1;rw [e1];exact ⟨.next,_,σ₁,Γ₁,rfl,P₁,rfl⟩
end
section
variable {prog:Program}{c:Cx}{A₀ A:Around}{I:Inv (frs A)}{env:PySem.Env}{L L':Ev}{Γ₀ Γ Γ₁ Γ':Gh}{σ₀ σ σ₁ σ':Sg}{s₀ s s₁ s₂:Shared}{E:Value→Shared→Prop}{G:Calls}{h h':Heap}{k:Kd}
theorem SPre.mut {x:Str}{t:T}(P:SPre c A₀ A env L Γ₀ σ₀ s₀ Γ σ s)(hx:L.own.lookup x=some (t,k)):
  ∃(v:Value) (as:List Addr) (m:Str→Option Value),s.heap.Ns env.locals m∧Bnd Γ s.heap env m x v∧OwnAt c Γ s.heap (frs A) t k v as∧(∀a∈as,s₀.heap.get? a=none)∧
   ∀a h' tk t',a∈as→Heap.SameBut a s.heap h'→OwnAt c Γ h' (frs A) t' k v as→SPre c A₀ A env (L.putOwn x t') Γ₀ σ₀ s₀ Γ σ { s with heap:=h',toks:=tk }:=by
 obtain ⟨e1,e2,e3,m,e4,e5,e6,f,e7,e8,e9,e10⟩:=P.envr;have hmem:(x,t,k)∈L.own:=J4 hx;obtain ⟨v,b,q⟩:=e7 _ hmem;refine ⟨v,f x,m,e4,b,q,e10 _ hmem,?_⟩;intro a h' tk t' ha sb q';obtain ⟨la,nf,oa,hoa⟩:=q.as_loose a ha;obtain ⟨S',x'⟩:=Zar P.st P.step (e10 _ hmem a ha) la sb;have hL:env.locals≠a:=fun q=>nf (q▸P.inf)
 have nc:∀y ca w,env.cells.lookup y=some ca→s.heap.IsCell ca w→ca≠a:=fun y ca w e ic q'=>q.notCell ic (q'▸ha)
 have bnd:∀{y w},Bnd Γ s.heap env m y w→Bnd Γ h' env m y w:=by
  intro y w b;rcases b with b | ⟨k',ca,h1,h2,h3,h4,h5⟩
  ·exact .inl b
  ·exact .inr ⟨k',ca,h1,h2,h3,h4.sameBut sb (nc _ _ _ h3 h4),h5⟩
 have uniq:∀p∈L.own,p.1=x→p=(x,t,k):=by
  rintro ⟨y,p⟩ hp rfl
  rw [Zfy e9 hp] at hx;cases hx;rfl
 refine ⟨P.st₀,P.same.trans ⟨h',tk,rfl⟩,S',P.fr.turn nf sb,⟨e1,e2,e3,m,e4.sameBut sb hL,e5,fun y u hy=>?_,f,?_,?_,?_,?_⟩,x',P.inf,P.top,P.frame,P.sub,P.new,P.fresh,fun y ca e=>?_,P.apart,P.kinds,P.nofree⟩
 ·obtain ⟨w,q1,q2⟩:=e6 y u hy;exact ⟨w,bnd q1,q2⟩
 ·intro p hp;obtain ⟨p₀,hp₀,rfl⟩:=List.mem_map.mp hp
  by_cases hn:p₀.1=x
  ·have:=uniq p₀ hp₀ hn;subst this;simp only [if_true];exact ⟨v,bnd b,q'⟩
  ·simp only [if_neg hn];obtain ⟨w,q1,q2⟩:=e7 p₀ hp₀;exact ⟨w,bnd q1,q2.apart sb fun ha'=>e8 p₀ hp₀ _ hmem hn a ha' ha⟩
 ·intro p hp q hq hne;obtain ⟨p₀,hp₀,rfl⟩:=List.mem_map.mp hp;obtain ⟨q₀,hq₀,rfl⟩:=List.mem_map.mp hq;have n1:∀p:Str×T×Kd,(if p.1=x then (p.1,t',p.2.2) else p).1=p.1:=fun p=>by split<;>rfl
  rw [n1,n1] at hne ⊢;exact e8 p₀ hp₀ q₀ hq₀ hne
 ·have:(L.putOwn x t').own.map (fun p=>p.1)=L.own.map (fun p=>p.1):=by
   unfold Ev.putOwn;dsimp only;rw [List.map_map];refine List.map_congr_left fun p _=>?_
   show (if p.1=x then (p.1,t',p.2.2) else p).1=p.1;split<;>rfl
  rw [this];exact e9
 ·intro p hp;obtain ⟨p₀,hp₀,rfl⟩:=List.mem_map.mp hp;have n1:∀p:Str×T×Kd,(if p.1=x then (p.1,t',p.2.2) else p).1=p.1:=fun p=>by split<;>rfl
  rw [n1];exact e10 p₀ hp₀
 ·obtain ⟨c1,c2,w,c3⟩:=P.cells y ca e;exact ⟨c1,c2,w,c3.sameBut sb (nc _ _ _ e c3)⟩
inductive MutOf:T→Str→String→String→Prop
 |append (ts):MutOf (.list ts) "append" "list" "list.append"
 |reverse (ts):MutOf (.list ts) "reverse" "list" "list.reverse"
 |pop (es):MutOf (.dict es) "pop" "dict" "dict.pop"
theorem Zpk {t:T}{m:Str}(h:Zb1 t m=true):∃Tn id,MutOf t m Tn id:=by
 unfold Zb1 at h;split at h
 ·rcases of_decide_eq_true h with rfl | rfl
  ·exact ⟨_,_,.append _⟩
  ·exact ⟨_,_,.reverse _⟩
 ·have h:=of_decide_eq_true h;subst h;exact ⟨_,_,.pop _⟩
 ·cases h
theorem Zpj {t:T}{m:Str}{Tn id:String}{v:Value}{as:List Addr}{pos:Pos}{trees:List (Bool×Sem Value)}{Q:Value→Shared→Prop}(x:MutOf t m Tn id)(y:OwnAt c Γ s.heap (frs A) t k v as)
  (h:wpAny (model prog c.w) A (callWith pos (.builtin id) [v] trees []) Q E s):MethodOn prog c.w A m pos v trees Q E s:=by
 have lk:=y.look
 cases x with
 |append ts=>
  obtain ⟨a,vs,n,rfl,e,_⟩:=lk;exact ⟨_,_,F.plainAttrs_list,F.slot_list_append,F.type_list_append,⟨_,e,rfl⟩,fun a e'=>by cases e';exact ⟨_,e,rfl⟩,h⟩
 |reverse ts=>
  obtain ⟨a,vs,n,rfl,e,_⟩:=lk;exact ⟨_,_,F.plainAttrs_list,F.slot_list_reverse,F.type_list_reverse,⟨_,e,rfl⟩,fun a e'=>by cases e';exact ⟨_,e,rfl⟩,h⟩
 |pop es=>
  obtain ⟨a,ds,n,rfl,nm,e,_⟩:=lk;exact ⟨_,_,F.plainAttrs_dict,F.slot_dict_pop,F.type_dict_pop,⟨_,e,rfl⟩,fun a e'=>by cases e';exact ⟨_,e,rfl⟩,h⟩
theorem RepL.reverse:∀{ts:List T} {vs:List Value},RepL c Γ ts vs→RepL c Γ ts.reverse vs.reverse
 |[],_,h=>by unfold RepL at h;subst h;exact RepL.nil
 |t::ts,_,h=>by
  unfold RepL at h;obtain ⟨v,r,rfl,h2,h3⟩:=h;rw [List.reverse_cons,List.reverse_cons];exact RepL.append (RepL.reverse h3) (RepL.one h2)
theorem RepKV.names:∀{es:List (Str×T)} {kvs:List (Str×Value)},RepKV c Γ es kvs→kvs.map (·.1)=es.map (·.1)
 |[],_,h=>by unfold RepKV at h;subst h;rfl
 |(k,t)::es,_,h=>by
  unfold RepKV at h;obtain ⟨v,q,rfl,r1,r2⟩:=h;show k::_=k::_;rw [r2.names]
theorem RepKV.del {key:Str}:∀{es:List (Str×T)} {kvs:List (Str×Value)},RepKV c Γ es kvs→(es.map (·.1)).Nodup→RepKV c Γ (ddel es key) (without kvs key)
 |[],_,h,_=>by unfold RepKV at h;subst h;unfold ddel RepKV;rfl
 |(k,t)::es,_,h,nd=>by
  have h0:=h;unfold RepKV at h;obtain ⟨v,q,rfl,r1,r2⟩:=h;rw [List.map_cons,List.nodup_cons] at nd;unfold ddel
  by_cases hk:k=key
  ·subst hk;rw [if_pos rfl];have:without ((k,v)::q) k=without q k:=by
    unfold without;rw [List.filter_cons_of_neg (by simp)]
   rw [this,without_of_not_mem _ _ (by rw [r2.names];exact nd.1)];exact r2
  ·rw [if_neg hk];have:without ((k,v)::q) key=(k,v)::without q key:=by
    unfold without;rw [List.filter_cons_of_pos (by simpa using hk)]
   rw [this];unfold RepKV;exact ⟨v,_,rfl,r1,r2.del nd.2⟩
theorem Zku {es:List (Str×T)}{key:Str}:(ddel es key).length≤es.length:=by
 induction es with
 |nil=>exact Nat.le_refl _
 |cons p es ih=>
  unfold ddel;split
  ·simp
  ·simp only [List.length_cons];omega
theorem Zjl {es:List (Str×T)}{kvs:List (Str×Value)}{key:Str}(r:RepKV c Γ es kvs):(valueAt kvs key).isSome=(es.lookup key).isSome:=by
 induction es generalizing kvs with
 |nil=>unfold RepKV at r;subst r;rfl
 |cons p es ih=>
  obtain ⟨k,t⟩:=p;unfold RepKV at r;obtain ⟨v,q,rfl,r1,r2⟩:=r;have:=ih r2;unfold valueAt at this ⊢;rw [List.find?_cons]
  by_cases hk:k=key
  ·subst hk;simp [List.lookup_cons]
  ·have h2:(key == k)=false:=by simpa using fun q:key=k=>hk q.symm
   simp only [dF hk,List.lookup_cons,h2];exact this
theorem Ztr {es:List (Str×T)}{key:Str}(this:es.lookup key=none):ddel es key=es:=by
 induction es with
 |nil=>rfl
 |cons p es ih=>
  obtain ⟨k',t'⟩:=p;rw [List.lookup_cons] at this;unfold ddel
  by_cases hk:k'=key
  ·subst hk;simp at this
  ·rw [if_neg hk];have h2:(key == k')=false:=by simpa using fun q:key=k'=>hk q.symm
   rw [h2] at this;rw [ih this]
theorem Zok {t t':T}{m:Str}{Tn id:String}{v:Value}{as:List Addr}{ts:List T}{vs:List Value}(x:MutOf t m Tn id)(y:OwnAt c Γ s.heap (frs A) t k v as)(rl:RepL c Γ ts vs)(e:Zai t m ts=some t'):
  wpAny (model prog c.w) A (call (.builtin id) (v::vs)) (fun _ s'=>∃a h' tk,a∈as∧s'={ s with heap:=h',toks:=tk }∧Heap.SameBut a s.heap h'∧OwnAt c Γ h' (frs A) t' k v as) E s:=by
 cases x with
 |append l=>
  have hts:∃u,ts=[u]∧l.length < 2000∧t'=.list (l++[u]):=by
   unfold Zai at e;split at e
   ·rename_i h1;cases h1;split at e
    ·rename_i h2;cases e;exact ⟨_,rfl,h2.2,rfl⟩
    ·cases e
   ·split at e
    ·rename_i h2;exact absurd h2 (by decide)
    ·cases e
   ·rename_i h1;cases h1
   ·cases e
  obtain ⟨u,rfl,hz,rfl⟩:=hts;obtain ⟨w,rfl,ru⟩:=rl.one_inv;cases k<;>first | exact y.elim | skip
  obtain ⟨a,ws,n,rfl,rfl,ea,z,rl',l1,nf⟩:=y;have hlen:=rl'.length;refine wpAny_list_append_plain ⟨n,ea⟩ (fun h' hp sb=>?_) (by rw [List.size_toArray];exact z);obtain ⟨n',hp⟩:=hp;refine ⟨a,h',s.toks,by simp,rfl,sb,a,ws++[w],n',rfl,rfl,by simpa [Zt] using hp,?_,RepL.append rl' (RepL.one ru),l1,nf⟩;rw [Z3];simp;omega
 |reverse l=>
  have hts:ts=[]∧t'=.list l.reverse:=by
   unfold Zai at e;split at e
   ·rename_i h1;cases h1;split at e
    ·rename_i h2;revert h2;exact fun h2=>absurd h2.1 (by decide)
    ·cases e
   ·rename_i h1;cases h1;split at e
    ·cases e;exact ⟨rfl,rfl⟩
    ·cases e
   ·rename_i h1;cases h1
   ·cases e
  obtain ⟨rfl,rfl⟩:=hts;unfold RepL at rl;subst rl;cases k<;>first | exact y.elim | skip
  obtain ⟨a,ws,n,rfl,rfl,ea,z,rl',l1,nf⟩:=y;refine call_meets F.slot_list_reverse ⟨_,ea,rfl⟩ F.entry_list_reverse (F.args_list_reverse_1 _) (PySem.AutoSeq1.list_reverse_list_0 a ws.toArray n (by rw [List.size_toArray];exact z)) ⟨ea,?_⟩;obtain ⟨n',e1⟩:∃n',Obj.mapSeq (fun x=>x.reverse) (Zt ws n)=Zt ws.reverse n':=by
   refine ⟨if ws.toArray.reverse.size == ws.toArray.size then n else n+1,?_⟩;show ({ cls:=.type "list",dict:=none,data:=.seq ws.toArray.reverse (if ws.toArray.reverse.size == ws.toArray.size then n else n+1),slots:=#[] }:Obj)=_;rw [List.reverse_toArray]
  have e2:(s.heap.update a (Obj.mapSeq fun x=>x.reverse)).get? a=some (Zt ws.reverse n'):=by
   rw [Heap.get?_update_self _ ea (by rw [e1];rfl),e1]
  exact ⟨a,_,s.toks,by simp,rfl,Heap.SameBut.update ..,a,ws.reverse,n',rfl,rfl,e2,by simpa using z,rl'.reverse,l1,nf⟩
 |pop es=>
  have hts:∃key,ts=[.str key,.none]∧t'=.dict (ddel es key):=by
   unfold Zai at e;split at e
   ·rename_i h1;cases h1
   ·rename_i h1;cases h1
   ·rename_i h1;cases h1;split at e
    ·cases e;exact ⟨_,rfl,rfl⟩
    ·cases e
   ·cases e
  obtain ⟨key,rfl,rfl⟩:=hts;unfold RepL at rl;obtain ⟨v1,r1,rfl,q1,rl⟩:=rl;obtain ⟨v2,rfl,q2⟩:=rl.one_inv;obtain ⟨tk,rfl⟩:=q1.str_inv;cases k<;>first | exact y.elim | skip
  obtain ⟨a,ds,n,rfl,rfl,nm,ea,z,nd,rd,l1,nf⟩:=y;have hkv:=Zbg rd;have hl:(Qo es ds).length≤sizeLine:=by rw [←List.length_map (f:=Prod.fst),Jn rd,List.length_map,←rd.length];exact z
  have hdo:=Zao (prog:=prog) ea rd nd;have kis:=strKind_is prog c.w key tk;have hv:=Zjl (key:=key) hkv
  cases hva:valueAt (Qo es ds) key with
  |none=>
   refine call_meetsIn F.slot_dict_pop ⟨_,ea,rfl⟩ F.entry_dict_pop (F.args_dict_pop_3 _ _ _) (meets_dict_pop_default (strKind prog c.w) a kis nm rfl v2) ⟨_,hdo,hva,?_⟩;have hd:ddel es key=es:=by
    rw [hva] at hv;have:es.lookup key=none:=by
     cases q:es.lookup key with
     |none=>rfl
     |some _=>rw [q] at hv;cases hv
    exact Ztr this
   exact ⟨a,s.heap,s.toks+1,by simp,rfl,⟨rfl,fun _ _=>rfl⟩,a,ds,n,rfl,rfl,nm,ea,z,by rw [hd];exact nd,by rw [hd];exact rd,l1,nf⟩
  |some u=>
   refine call_meetsIn F.slot_dict_pop ⟨_,ea,rfl⟩ F.entry_dict_pop (F.args_dict_pop_3 _ _ _) (meets_dict_pop_there (strKind prog c.w) a kis [v2] (.inr ⟨v2,rfl⟩) rfl) ⟨_,u,hdo,hl,hva,fun h' hm' sb=>?_⟩;obtain ⟨ds',n',q1,q2,q3⟩:=Zbf hm' (hkv.del nd);exact ⟨a,h',s.toks+1,by simp,rfl,sb,a,ds',n',rfl,rfl,nm,q1,by rw [q2.length];exact Nat.le_trans Zku (by rw [←rd.length];exact z),q3,q2,l1,nf⟩
end
section
variable {prog:Program}{c:Cx}{A₀ A:Around}{I:Inv (frs A)}{env:PySem.Env}{L L':Ev}{Γ₀ Γ Γ₁ Γ₂ Γ':Gh}{σ₀ σ σ₁ σ₂ σ':Sg}{s₀ s s₁ s₂:Shared}{E:Value→Shared→Prop}{G:Calls}{h h':Heap}{k:Kd}
theorem Snd.solidRep {m:M (T×Kd)}{X:Sem Value}(h:Snd prog c A I (RV c (frs A)) m X):Snd prog c A I (fun _ Γ _ _ r v=>r.2≠.h∧Rep c Γ r.1 v) (m>>=Mine.solid) X:=by
 intro Γ σ s P ne;refine wpAny_mono (h.toRF Γ σ s P (M.bind_ne ne)) (fun v s' q=>?_) fun e s' q=>q.cast fun m' σ' e=>M.bind_exn e
 obtain ⟨t,σ',e,Γ',y1,y2,y3,r⟩:=q;rw [M.bind_ok e] at ne ⊢
 by_cases hk:t.2=.h
 ·refine absurd ?_ ne;unfold Mine.solid;rw [if_pos hk];rfl
 ·rcases r with ⟨q,_⟩ | ⟨_,r⟩
  ·exact absurd q hk
  ·exact ⟨t,σ',by unfold Mine.solid;rw [if_neg hk];rfl,Γ',y1,y2,y3,hk,r⟩
theorem SPre.mut_after {x:Str}{t:T}{v:Value}{m:Str→Option Value}(P:SPre c A₀ A env L Γ₀ σ₀ s₀ Γ σ s)(P₂:SPre c A₀ A env L Γ₀ σ₀ s₀ Γ₂ σ₂ s₂)(hx:L.own.lookup x=some (t,k))(hm:s.heap.Ns env.locals m)(b:Bnd Γ s.heap env m x v)
  (z:Step (frs A) Γ σ s.heap Γ₂ σ₂ s₂.heap):∃as,OwnAt c Γ₂ s₂.heap (frs A) t k v as∧(∀a∈as,s₀.heap.get? a=none)∧
   ∀a h' tk t',a∈as→Heap.SameBut a s₂.heap h'→OwnAt c Γ₂ h' (frs A) t' k v as→SPre c A₀ A env (L.putOwn x t') Γ₀ σ₀ s₀ Γ₂ σ₂ { s₂ with heap:=h',toks:=tk }:=by
 obtain ⟨v₂,as,m₂,h1,h2,h3,h4,h5⟩:=P₂.mut hx;obtain ⟨_,_,_,m₀,e4,e5,_⟩:=P.envr;have q:=(z.ns e5 hm).1;cases Ns.det h1 q;cases h2.det (b.step z);exact ⟨as,h3,h4,h5⟩
theorem Sd.mutm {x m:Str}{px ap p pos:Pos}{as:List Expr}(d1:(x == ("__debug__":Str))=false)(d2:(x == ("__classdict__":Str))=false)(hline:(ap.endLine == p.line)=true)(hl:as.length < 20)(hs:∀e∈as,Z7 e=true)(hi:interactive env=false)
  (h:∀old L q,Snd prog c A (envI c old (frs A) env L) (RLs c) (evalEs G L as) (spliced (backTo q (starEach as env)))):Sd prog c A₀ A env G (.Expr (.Call (.Attribute (.Name x px) m ap) as [] p) pos):=by
 intro L Γ₀ σ₀ s₀ Γ σ s P ne
 have ev:Zi G (.Expr (.Call (.Attribute (.Name x px) m ap) as [] p) pos) L=(match (settle (.Tuple as 0 p) L).own.lookup x with
  |some (t,_)=>if Zb1 t m then (evalEs G (settle (.Tuple as 0 p) L) as>>=fun ts=>Zl (Zai t m (ts.map (·.1)))>>=fun t=>pure (.next,(settle (.Tuple as 0 p) L).putOwn x t)) else stuck
  |none=>stuck):=by rw [Zi]<;>rfl
 obtain ⟨Γ',P',le⟩:=P.settle (.Tuple as 0 p);rw [ev] at ne ⊢
 clear ev
 generalize settle (.Tuple as 0 p) L=L₁ at ne P' ⊢
 cases hx:L₁.own.lookup x with
 |none=>rw [hx] at ne;exact absurd rfl ne
 |some tk=>
  obtain ⟨t,k⟩:=tk;rw [hx] at ne;dsimp only at ne ⊢
  by_cases hm:Zb1 t m=true
  ·rw [if_pos hm] at ne ⊢;obtain ⟨Tn,id,X⟩:=Zpk hm;obtain ⟨v,as',mm,hn,b,y,n0,_⟩:=P'.mut hx;refine wpAny_Expr_any (wpAny_Call_method_late (Zbl rfl) ?_ hline rfl (Js P'.envr.kind hn b d1 d2 (Zpj X y (Calls.callWith_builtin (Zbx hs) (Snd.args hs (sseq P' ne (h _ _ p) ?_)))))) hi rfl
   ·rw [Zfr hs];simp [backToKw,keywordEach];omega
   intro ts σ₂ Γ₂ vs s₂ e2 P₂ z rt ne2 e3;obtain ⟨as₂,y₂,n₂,put⟩:=P'.mut_after P₂ hx hn b z;rw [e3]
   cases ho:Zai t m (ts.map (·.1)) with
   |none=>rw [ho] at ne2;exact absurd rfl ne2
   |some t'=>
    refine wpAny_mono (Zok X y₂ rt.1 ho) (fun _ s' q=>?_) fun _ _ q=>q
    obtain ⟨a,h',tk,ha,rfl,sb,y'⟩:=q;exact ⟨.next,_,σ₂,Γ₂,rfl,put a h' tk t' ha sb y',rfl⟩
  ·rw [if_neg hm] at ne;exact absurd rfl ne
theorem OwnAt.inst {v:Value}{as:List Addr}{fr:List Addr}{kd:Str}{its:List T}{at':T}(y:OwnAt c Γ h fr (.vec kd its at') k v as):
  ∃a d ik ii ia t,v=.ref a∧a∈as∧d∈as∧a≠d∧h.get? a=some (instObj c.vec d)∧IDict c h d (ik,ii,ia)∧ik=.str kd t∧Rep c Γ at' ia:=by
 cases k with
 |val=>exact y.elim
 |h=>exact y.elim
 |own=>obtain ⟨a,d,ik,ii,ia,t,rfl,rfl,hne,e,i,hik,r1,r2,_⟩:=y;exact ⟨a,d,ik,ii,ia,t,rfl,by simp,by simp,hne,e,i,hik,r2⟩
 |ownIo=>obtain ⟨a,d,b,ik,ia,t,vs,n,rfl,rfl,ne1,ne2,ne3,e,i,hik,e2,z,r1,r2,_⟩:=y;exact ⟨a,d,ik,_,ia,t,rfl,by simp,by simp,ne1,e,i,hik,r2⟩
theorem Sd.muti {x a m:Str}{px iap ap p pos:Pos}{as:List Expr}(fa:Facts c)(d1:(x == ("__debug__":Str))=false)(d2:(x == ("__classdict__":Str))=false)(hline:(ap.endLine == p.line)=true)(hl:as.length < 20)(hs:∀e∈as,Z7 e=true)(hi:interactive env=false)
  (h:∀old L q,Snd prog c A (envI c old (frs A) env L) (RLs c) (evalEs G L as) (spliced (backTo q (starEach as env)))):Sd prog c A₀ A env G (.Expr (.Call (.Attribute (.Attribute (.Name x px) a iap) m ap) as [] p) pos):=by
 intro L Γ₀ σ₀ s₀ Γ σ s P ne
 have ev:Zi G (.Expr (.Call (.Attribute (.Attribute (.Name x px) a iap) m ap) as [] p) pos) L=(match (settle (.Tuple as 0 p) L).own.lookup x with
  |some (.vec k its at',.ownIo)=>if a="items"∧m="append"∧its.length < Zc then (evalEs G (settle (.Tuple as 0 p) L) as>>=fun ts=>match ts.map (·.1) with
   |[t]=>pure (.next,(settle (.Tuple as 0 p) L).putOwn x (.vec k (its++[t]) at'))
   |_=>stuck)
   else stuck
  |_=>stuck):=by rw [Zi]<;>rfl
 obtain ⟨Γ',P',le⟩:=P.settle (.Tuple as 0 p);rw [ev] at ne ⊢
 clear ev
 generalize settle (.Tuple as 0 p) L=L₁ at ne P' ⊢
 cases hx:L₁.own.lookup x with
 |none=>rw [hx] at ne;exact absurd rfl ne
 |some tk=>
  obtain ⟨t,k⟩:=tk;rw [hx] at ne;obtain ⟨kd,its,at',rfl,rfl⟩:∃kd its at',t=.vec kd its at'∧k=.ownIo:=by
   cases t<;>cases k<;>first | exact ⟨_,_,_,rfl,rfl⟩ | exact absurd rfl ne
  dsimp only at ne ⊢
  by_cases hm:a="items"∧m="append"∧its.length < Zc
  ·rw [if_pos hm] at ne ⊢;obtain ⟨rfl,rfl,hz⟩:=hm;obtain ⟨v,as',mm,hn,b,y,n0,_⟩:=P'.mut hx;have y0:=y;obtain ⟨va,vd,vb,ik,ia,t,vs,n,rfl,rfl,ne1,ne2,ne3,e,i,hik,e2,z,r1,r2,l1,l2,l3,f1,f2,f3⟩:=y;obtain ⟨sh,t1,t2,t3,t4,t5,nn,ei⟩:=i;refine wpAny_Expr_any (wpAny_Call_method_late (Zbl rfl) ?_ hline rfl ?_) hi rfl
   ·rw [Zfr hs];simp [backToKw,keywordEach];omega
   refine Attribute_any_ (Js P'.envr.kind hn b d1 d2 (J7 fa P'.st fa.vecF (by simp) e ei Zf8 rfl ?_)) (by rw [arm_eval_Attribute,Zbl rfl]);refine ⟨_,_,F.plainAttrs_list,F.slot_list_append,F.type_list_append,⟨_,e2,rfl⟩,fun a e'=>by cases e';exact ⟨_,e2,rfl⟩,?_⟩;refine Calls.callWith_builtin (Zbx hs) (Snd.args hs (sseq (P'.toks _) ne (h _ _ p) ?_));intro ts σ₂ Γ₂ vs₂ s₂ ee2 P₂ z₂ rt ne2' e3;obtain ⟨as₂,y₂,n₂,put⟩:=P'.mut_after P₂ hx hn b z₂;rw [e3];obtain ⟨u,hu⟩:∃u,ts.map (·.1)=[u]:=by
    generalize ts.map (·.1)=l at ne2'
    rcases l with _ | ⟨u,_ | ⟨_,_⟩⟩
    ·exact absurd rfl ne2'
    ·exact ⟨u,rfl⟩
    ·exact absurd rfl ne2'
   rw [hu];obtain ⟨rt1,_⟩:=rt;rw [hu] at rt1;obtain ⟨w,rfl,ru⟩:=rt1.one_inv;obtain ⟨va₂,vd₂,vb₂,ik₂,ia₂,t₂,vs₂,n₂',q,rfl,ne1₂,ne2₂,ne3₂,e₂,i₂,hik₂,e2₂,z₂',r1₂,r2₂,l1₂,l2₂,l3₂,f1₂,f2₂,f3₂⟩:=y₂;cases q;have e':=z₂.keep va _ e l1.2.2 l1.2.1 f1;rw [e₂] at e';cases e';have ei':=z₂.keep vd _ ei l2.2.2 l2.2.1 f2;have ii:=IDict.inj2 (c:=c) (c':=c) (h:=s₂.heap) (d:=vd) i₂ ⟨sh,t1,t2,t3,t4,t5,nn,ei'⟩;cases ii;refine wpAny_list_append_plain ⟨n₂',e2₂⟩ (fun h' hp sb=>?_) (by rw [List.size_toArray];exact z₂');obtain ⟨n',hp⟩:=hp;refine ⟨.next,_,σ₂,Γ₂,rfl,put vb h' s₂.toks _ (by simp) sb ?_,rfl⟩;obtain ⟨sh₂,u1,u2,u3,u4,u5,nn₂,ei₂⟩:=i₂;refine ⟨va,vd,vb,ik,ia,t₂,vs₂++[w],n',rfl,rfl,ne1₂,ne2₂,ne3₂,(sb.2 _ ne2₂).trans e₂,⟨sh₂,u1,u2,u3,u4,u5,nn₂,(sb.2 _ ne3₂).trans ei₂⟩,hik₂,by simpa [Zt] using hp,?_,RepL.append r1₂ (RepL.one ru),r2₂,l1₂,l2₂,l3₂,f1₂,f2₂,f3₂⟩;have:=r1₂.length;rw [Z3];unfold Zc at hz;simp;omega
  ·rw [if_neg hm] at ne;exact absurd rfl ne
end
section
variable {prog:Program}{c:Cx}{A₀ A:Around}{I:Inv (frs A)}{env:PySem.Env}{L L':Ev}{Γ₀ Γ Γ₁ Γ₂ Γ':Gh}{σ₀ σ σ₁ σ₂ σ':Sg}{s₀ s s₁ s₂:Shared}{E:Value→Shared→Prop}{G:Calls}{h h':Heap}{k:Kd}
theorem SPre.asVal {pre:Heap}{t:T×Kd}{v:Value}(P:SPre c A₀ A env L Γ₀ σ₀ s₀ Γ σ s)(rv:RV c (frs A) pre Γ σ s.heap t v)(hn:t.2≠.h)(hp0:∀a,pre.get? a=none→s₀.heap.get? a=none)(ap:Apart c A env L pre Γ s.heap):
  ∃Γ',SPre c A₀ A env L Γ₀ σ₀ s₀ Γ' σ s∧Rep c Γ' t.1 v∧Γ.Le Γ':=by
 obtain ⟨t,k⟩:=t
 cases k with
 |val=>exact ⟨Γ,P,rv,.refl Γ⟩
 |h=>exact absurd rfl hn
 |own=>obtain ⟨as,y,has⟩:=rv;obtain ⟨Γ',q1,q2,q3,_⟩:=P.freezeV y has hp0 ap;exact ⟨Γ',q1,q2,q3⟩
 |ownIo=>obtain ⟨as,y,has⟩:=rv;obtain ⟨Γ',q1,q2,q3,_⟩:=P.freezeV y has hp0 ap;exact ⟨Γ',q1,q2,q3⟩
theorem Sd.setkey {x:Str}{px p0 pos:Pos}{v i:Expr}(d1:(x == ("__debug__":Str))=false)(d2:(x == ("__classdict__":Str))=false)(hs:swapsWith v (some (.Subscript (.Name x px) i p0)) pos.line env=pure false)
  (he:ESnd prog c A env G v) (hie:ESnd prog c A env G i):Sd prog c A₀ A env G (.Assign [.Subscript (.Name x px) i p0] v pos):=by
 intro L Γ₀ σ₀ s₀ Γ σ s P ne
 have ev:Zi G (.Assign [.Subscript (.Name x px) i p0] v pos) L=(match (settle (.Tuple [v,i] 0 pos) L).own.lookup x with
  |some (.dict es,_)=>((Za G (settle (.Tuple [v,i] 0 pos) L) v>>=Mine.solid)>>=fun t=>Za G (settle (.Tuple [v,i] 0 pos) L) i>>=fun k=>Zdp (settle (.Tuple [v,i] 0 pos) L) x es k.1 t.1>>=fun L'=>pure (.next,L'))
  |_=>stuck):=by
  rw [Zi]
  cases (settle (.Tuple [v,i] 0 pos) L).own.lookup x with
  |none=>rfl
  |some q=>obtain ⟨t,k⟩:=q;cases t<;>first | rfl | (rw [M.assoc];rfl) | (dsimp only;rw [M.assoc])
 obtain ⟨Γ',P',le⟩:=P.settle (.Tuple [v,i] 0 pos);rw [ev] at ne ⊢
 clear ev
 generalize settle (.Tuple [v,i] 0 pos) L=L₁ at ne P' ⊢
 cases hx:L₁.own.lookup x with
 |none=>rw [hx] at ne;exact absurd rfl ne
 |some tk=>
  obtain ⟨t,k⟩:=tk;rw [hx] at ne;obtain ⟨es,rfl⟩:∃es,t=.dict es:=by
   cases t<;>first | exact ⟨_,rfl⟩ | exact absurd rfl ne
  dsimp only at ne ⊢;refine wpAny_Assign_Subscript (sseq P' ne (he _ _).solidRep ?_) hs
  rintro ⟨t,kt⟩ σ₁ Γ₁ w s₁ _ P₁ y ⟨_,rw1⟩ ne1 e1
  rw [e1];obtain ⟨vx,as,m,hn,b,y0,n0,_⟩:=P₁.mut hx;refine Js P₁.envr.kind hn b d1 d2 (sseq P₁ ne1 (hie _ _).toRF ?_)
  rintro ⟨ki,kk⟩ σ₂ Γ₂ u s₂ _ P₂ z ri ne2 e2
  rw [e2];obtain ⟨as₂,y₂,n₂,put⟩:=P₁.mut_after P₂ hx hn b z;obtain ⟨key,rfl⟩:∃key,ki=.str key:=by
   cases ki<;>first | exact ⟨_,rfl⟩ | exact absurd rfl ne2
  obtain ⟨tkk,rfl⟩:=(ri.rep (fun es q=>by cases q)).str_inv;unfold Zdp at ne2 ⊢;dsimp only at ne2 ⊢
  by_cases hz:es.length < Zc
  ·rw [if_pos hz];have hz':es.length+1≤sizeLine:=by rw [Z3];unfold Zc at hz;omega
   cases k<;>first | exact y₂.elim | skip
   obtain ⟨D,ds,n,rfl,rfl,nm,ea,zz,nd,rd,l1,nf⟩:=y₂;have hkv:=Zbg rd;have hl:(Qo es ds).length≤sizeLine:=by rw [←List.length_map (f:=Prod.fst),Jn rd,List.length_map,←rd.length];exact zz
   refine wpAny_setItem_pairs (knd:=strKind prog c.w) (strKind_is prog c.w key tkk) (Zao (prog:=prog) ea rd nd) (fun h' hm' sb=>?_) hl;obtain ⟨ds',n',q1,q2,q3⟩:=Zbf hm' (hkv.put nd (Rep.mono z.le _ _ rw1));have e3:(do let L' ←(do pure (L₁.putOwn x (.dict (dput es key t))):M Ev);pure (Out.next,L'):M (Out×Ev)) σ₂=.ok (.next,L₁.putOwn x (.dict (dput es key t))) σ₂:=rfl;refine ⟨.next,_,σ₂,Γ₂,rfl,put D h' _ _ (by simp) sb ⟨D,ds',n',rfl,rfl,nm,q1,?_,q3,q2,l1,nf⟩,rfl⟩;rw [q2.length];exact Nat.le_trans Zgo hz'
  ·rw [if_neg hz] at ne2;exact absurd rfl ne2
theorem SPre.toMoves {D:Addr}{o:Obj}(P:SPre c A₀ A env L Γ₀ σ₀ s₀ Γ σ s)(hD:s.heap.get? D=some o)(l:Loose Γ D)(n0:s₀.heap.get? D=none)(nc:∀v,o.data≠.cell v)(nf:D∉frs A)(ap:Ze4 c A env L Γ s.heap D):
  ∃Γ',SPre c A₀ A env L Γ₀ σ₀ s₀ Γ' σ s∧Γ.Le Γ'∧Γ'.moves D∧Γ'.self=Γ.self∧Γ'.row=Γ.row∧Γ'.tab=Γ.tab:=by
 let Γ':Gh:={ Γ with moves:=fun b=>Γ.moves b∨b=D }
 have le:Γ.Le Γ':=⟨fun _ _ e=>e,fun _ _ e=>e,fun _ e=>.inl e,fun _ e=>e,fun _ e=>e,rfl⟩;have S:=P.st;have st:St c Γ' σ s.heap:=by
  refine ⟨S.base,S.obj,S.idc,fun b e=>?_,S.apart2,?_,?_,S.tab.mono le⟩
  ·rcases e with e | rfl
   ·exact S.apart b e
   ·exact ⟨l.1,l.2.1,_,hD⟩
  ·have q:=S.row
   cases hr:σ.row with
   |none=>rw [hr] at q;exact q
   |some ns=>rw [hr] at q;exact RowOk.mono q le
  ·have q:=S.self
   cases hs:σ.self with
   |none=>rw [hs] at q;exact q
   |some v=>rw [hs] at q;exact SelfOk.mono q le
 have y:=P.step;have stp:Step (frs A₀) Γ₀ σ₀ s₀.heap Γ' σ s.heap:=by
  refine ⟨y.le.trans le,y.alive,y.keep,y.frames,fun b o e=>?_,y.rowNew,y.still,y.mono⟩;obtain ⟨q1,q2,q3⟩:=y.old b o e;refine ⟨q1,q2,fun q=>q.elim q3 ?_⟩
  rintro rfl;rw [n0] at e;cases e
 exact ⟨Γ',P.regh le st stp (fun b hb l=>⟨l.1,l.2.1,fun q=>q.elim l.2.2 hb⟩) hD nc nf ap,le,.inr rfl,rfl,rfl,rfl⟩
theorem SPre.turnSelf {a:Addr}{h':Heap}{v v':SelfSt}{tk:Nat}(P:SPre c A₀ A env L Γ₀ σ₀ s₀ Γ σ s)(hs:σ.self=some v)(hm:Γ.moves a)(hr:Γ.row≠some a)(ht:a≠Γ.tab)(sb:Heap.SameBut a s.heap h')(al:∃o,h'.get? a=some o)(ep:v.ep < v'.ep)(so:SelfOk c Γ h' v'):
  SPre c A₀ A env L Γ₀ σ₀ s₀ Γ { σ with self:=some v' } { s with heap:=h',toks:=tk }:=by
 have S:=P.st;obtain ⟨ma,mi,_⟩:=S.apart a hm;have ne:∀{b},Loose Γ b→b≠a:=fun l q=>l.2.2 (q▸hm)
 have nf:a∉frs A:=fun q=>by obtain ⟨_,_,_,l⟩:=P.fr.alive q;exact ne l rfl
 have kp:∀{b o},b≠a→s.heap.get? b=some o→h'.get? b=some o:=fun hb e=>(sb.2 _ hb).trans e
 have y:=P.step;obtain ⟨e1,e2,e3,m,e4,e5,e6,f,e7,e8,e9,e10⟩:=P.envr;have bnd:∀{z w},Bnd Γ s.heap env m z w→Bnd Γ h' env m z w:=by
  intro z w b;rcases b with b | ⟨k',ca,h1,h2,h3,h4,h5⟩
  ·exact .inl b
  ·exact .inr ⟨k',ca,h1,h2,h3,h4.sameBut sb (ne h5),h5⟩
 refine ⟨P.st₀,P.same.trans ⟨h',tk,rfl⟩,?_,P.fr.turn nf sb,⟨e1,e2,e3,m,e4.sameBut sb (ne e5),e5,fun z t hz=>?_,f,fun p hp=>?_,e8,e9,e10⟩,?_,P.inf,P.top,P.frame,P.sub,P.new,P.fresh,fun z ca e=>?_,P.apart,P.kinds,P.nofree⟩
 ·refine ⟨S.base,fun b o e=>kp (fun q=>by subst q;rw [ma] at e;cases e) (S.obj b o e),fun d x e=>?_,fun b e=>?_,S.apart2,?_,so,?_⟩
  ·obtain ⟨sh,t1,t2,t3,t4,t5,n,q⟩:=S.idc d x e;exact ⟨sh,t1,t2,t3,t4,t5,n,kp (fun q=>by subst q;rw [mi] at e;cases e) q⟩
  ·obtain ⟨q1,q2,o,q3⟩:=S.apart b e;refine ⟨q1,q2,?_⟩
   by_cases q:b=a
   ·subst q;exact al
   ·exact ⟨o,kp q q3⟩
  ·have q:=S.row;show match σ.row with | none=>Γ.row=none | some ns=>RowOk Γ h' ns
   cases hr':σ.row with
   |none=>rw [hr'] at q;exact q
   |some ns=>
    rw [hr'] at q;obtain ⟨r,vs,m,a1,a2,a3,a5⟩:=q;exact ⟨r,vs,m,a1,a2,kp (fun q=>hr (q▸a1)) a3,a5⟩
  ·obtain ⟨m1,ps,m2,m3⟩:=S.tab;exact ⟨m1,ps,kp (fun q=>ht q.symm) m2,m3⟩
 ·obtain ⟨w,q1,q2⟩:=e6 z t hz;exact ⟨w,bnd q1,q2⟩
 ·obtain ⟨w,q1,q2⟩:=e7 p hp;exact ⟨w,bnd q1,q2.apart sb fun ha=>ne (q2.as_loose a ha).1 rfl⟩
 ·refine ⟨y.le,fun b o e=>?_,fun b o e hm' hi hf=>?_,fun b o hb e l=>?_,y.old,y.rowNew,fun w w' e e' q=>?_,fun w e=>?_⟩
  ·obtain ⟨o',e'⟩:=y.alive b o e
   by_cases q:b=a
   ·subst q;exact al
   ·exact ⟨o',kp q e'⟩
  ·refine kp (fun q=>?_) (y.keep b o e hm' hi hf);subst q;exact hm' ((y.old b o e).2.2 hm)
  ·obtain ⟨sl,e'⟩:=y.frames b o hb e l;exact ⟨sl,kp (ne (l.old y e)) e'⟩
  ·cases e';obtain ⟨w2,q1,q2⟩:=y.mono w e;rw [hs] at q1;cases q1;omega
  ·obtain ⟨w2,q1,q2⟩:=y.mono w e;rw [hs] at q1;cases q1;exact ⟨v',rfl,by omega⟩
 ·obtain ⟨c1,c2,w,c3⟩:=P.cells z ca e;exact ⟨c1,c2,w,c3.sameBut sb (ne c2)⟩
end
section
variable {prog:Program}{c:Cx}{A₀ A:Around}{I:Inv (frs A)}{env:PySem.Env}{L L':Ev}{Γ₀ Γ Γ₁ Γ₂ Γ':Gh}{σ₀ σ σ₁ σ₂ σ':Sg}{s₀ s s₁ s₂:Shared}{E:Value→Shared→Prop}{G:Calls}{h h':Heap}{k:Kd}
theorem SPre.turnIdc {a:Addr}{h':Heap}{x:Value×Value×Value}{tk:Nat}(P:SPre c A₀ A env L Γ₀ σ₀ s₀ Γ σ s)(hi:Γ.idc a=some x)(sb:Heap.SameBut a s.heap h')(so:IDict c h' a x):
  SPre c A₀ A env L Γ₀ σ₀ s₀ Γ σ { s with heap:=h',toks:=tk }:=by
 have S:=P.st;have hm:¬Γ.moves a:=fun q=>by rw [(S.apart a q).2.1] at hi;cases hi
 have ma:=S.apart2 a x hi;have al:∃o,h'.get? a=some o:=by obtain ⟨_,_,_,_,_,_,_,e⟩:=so;exact ⟨_,e⟩
 have ne:∀{b},Loose Γ b→b≠a:=fun l q=>by subst q;rw [l.2.1] at hi;cases hi
 have nmv:∀{b},Γ.moves b→b≠a:=fun e q=>hm (q▸e)
 have nf:a∉frs A:=fun q=>by obtain ⟨_,_,_,l⟩:=P.fr.alive q;exact ne l rfl
 have kp:∀{b o},b≠a→s.heap.get? b=some o→h'.get? b=some o:=fun hb e=>(sb.2 _ hb).trans e
 have id':∀{d y},d≠a→IDict c s.heap d y→IDict c h' d y:=by
  rintro d y hd ⟨sh,t1,t2,t3,t4,t5,m,e⟩
  exact ⟨sh,t1,t2,t3,t4,t5,m,kp hd e⟩
 have y:=P.step;obtain ⟨e1,e2,e3,m,e4,e5,e6,f,e7,e8,e9,e10⟩:=P.envr;have bnd:∀{z w},Bnd Γ s.heap env m z w→Bnd Γ h' env m z w:=by
  intro z w b;rcases b with b | ⟨k',ca,h1,h2,h3,h4,h5⟩
  ·exact .inl b
  ·exact .inr ⟨k',ca,h1,h2,h3,h4.sameBut sb (ne h5),h5⟩
 refine ⟨P.st₀,P.same.trans ⟨h',tk,rfl⟩,?_,P.fr.turn nf sb,⟨e1,e2,e3,m,e4.sameBut sb (ne e5),e5,fun z t hz=>?_,f,fun p hp=>?_,e8,e9,e10⟩,?_,P.inf,P.top,P.frame,P.sub,P.new,P.fresh,fun z ca e=>?_,P.apart,P.kinds,P.nofree⟩
 ·refine ⟨S.base,fun b o e=>kp (fun q=>by subst q;rw [ma] at e;cases e) (S.obj b o e),fun d y e=>?_,fun b e=>?_,S.apart2,?_,?_,?_⟩
  ·by_cases q:d=a
   ·subst q;rw [hi] at e;cases e;exact so
   ·exact id' q (S.idc d y e)
  ·obtain ⟨q1,q2,o,q3⟩:=S.apart b e;exact ⟨q1,q2,o,kp (nmv e) q3⟩
  ·have q:=S.row
   cases hr':σ.row with
   |none=>rw [hr'] at q;exact q
   |some ns=>
    rw [hr'] at q;obtain ⟨r,vs,m,a1,a2,a3,a5⟩:=q;exact ⟨r,vs,m,a1,a2,kp (nmv a2) a3,a5⟩
  ·have q:=S.self
   cases hs:σ.self with
   |none=>rw [hs] at q;exact q
   |some v=>
    rw [hs] at q;obtain ⟨a',d,ik,ii,ia,t,b1,b2,b3,b4,b5,b6,b7⟩:=q;refine ⟨a',d,ik,ii,ia,t,b1,b2,b3,id' (nmv b3) b4,b5,b6,?_⟩
    cases ha:v.attrs with
    |none=>rw [ha] at b7;exact b7
    |some es=>
     rw [ha] at b7;obtain ⟨D,ds,m,c1,c2,c3,c4,c5,c6⟩:=b7;exact ⟨D,ds,m,c1,c2,c3,c4,kp (nmv c3) c5,c6⟩
  ·obtain ⟨m1,ps,m2,m3⟩:=S.tab;exact ⟨m1,ps,kp (nmv m1.1) m2,m3⟩
 ·obtain ⟨w,q1,q2⟩:=e6 z t hz;exact ⟨w,bnd q1,q2⟩
 ·obtain ⟨w,q1,q2⟩:=e7 p hp;exact ⟨w,bnd q1,q2.apart sb fun ha=>ne (q2.as_loose a ha).1 rfl⟩
 ·refine ⟨y.le,fun b o e=>?_,fun b o e hm' hi' hf=>?_,fun b o hb e l=>?_,y.old,y.rowNew,fun w w' e e' q=>?_,y.mono⟩
  ·obtain ⟨o',e'⟩:=y.alive b o e
   by_cases q:b=a
   ·subst q;exact al
   ·exact ⟨o',kp q e'⟩
  ·refine kp (fun q=>?_) (y.keep b o e hm' hi' hf);subst q;rw [(y.old b o e).2.1,hi'] at hi;cases hi
  ·obtain ⟨sl,e'⟩:=y.frames b o hb e l;exact ⟨sl,kp (ne (l.old y e)) e'⟩
  ·obtain ⟨q1,q2⟩:=y.still w w' e e' q;exact ⟨q1,fun b hb hr ht=>(sb.2 b (nmv (y.le.moves b hb))).trans (q2 b hb hr ht)⟩
 ·obtain ⟨c1,c2,w,c3⟩:=P.cells z ca e;exact ⟨c1,c2,w,c3.sameBut sb (ne c2)⟩
theorem Zfe {x d:Addr}{ik ii ia v:Value}{Q:Unit→Shared→Prop}(X:c.K.In s.heap)(N:ClsFacts c)(hx:s.heap.get? x=some (instObj c.vec d))(hd:IDict c s.heap d (ik,ii,ia))
  (q:∀h' tk,IDict c h' d (ik,ii,v)→Heap.SameBut d s.heap h'→Q () { s with heap:=h',toks:=tk }):wpAny (model prog c.w) A (setAttr (.ref x) "attrs" v) Q E s:=by
 obtain ⟨sh,t1,t2,t3,t4,t5,n,e⟩:=hd;exact Zff (es:=Za5 c ik ii ia sh t1 t2 t3 t4 t5) X N.vecS (by simp) hx e rfl (by show 5≤1000;decide) fun h' tk t q1 q2=>q h' tk ⟨sh,t1,t2,t3,t4,t5,_,q1⟩ q2
theorem Zm6 {x d:Addr}{ik ii ia:Value}{b:Bool}{Q:Unit→Shared→Prop}(X:c.K.In s.heap)(N:ClsFacts c)(hx:s.heap.get? x=some (instObj c.vec d))(hd:IDict c s.heap d (ik,ii,ia))
  (q:∀h' tk,IDict c h' d (ik,ii,ia)→Heap.SameBut d s.heap h'→Q () { s with heap:=h',toks:=tk }):wpAny (model prog c.w) A (setAttr (.ref x) "shared" (.bool b)) Q E s:=by
 obtain ⟨sh,t1,t2,t3,t4,t5,n,e⟩:=hd;exact Zff (es:=Za5 c ik ii ia sh t1 t2 t3 t4 t5) X N.vecS (by simp) hx e rfl (by show 5≤1000;decide) fun h' tk t q1 q2=>q h' tk ⟨b,t1,t2,t3,t4,t5,_,q1⟩ q2
theorem Sd.setattr {x a:Str}{px p0 pos:Pos}{v:Expr}(F:Facts c)(N:ClsFacts c)(d1:(x == ("__debug__":Str))=false)(d2:(x == ("__classdict__":Str))=false)(hs:swapsWith v (some (.Attribute (.Name x px) a p0)) pos.line env=pure false)
  (he:ESnd prog c A env G v):Sd prog c A₀ A env G (.Assign [.Attribute (.Name x px) a p0] v pos):=by
 intro L Γ₀ σ₀ s₀ Γ σ s P ne;have ev:Zi G (.Assign [.Attribute (.Name x px) a p0] v pos) L=if a="attrs"∨a="shared" then ((Za G (settle v L) v>>=Mine.solid)>>=fun t=>Qh (settle v L) x a t>>=fun L'=>pure (.next,L')) else stuck:=by
  rw [Zi,M.assoc]
 obtain ⟨Γ',P',le⟩:=P.settle v;rw [ev] at ne ⊢
 clear ev
 generalize settle v L=L₁ at ne P' ⊢
 by_cases ha:a="attrs"∨a="shared"
 ·rw [if_pos ha] at ne ⊢;refine plainObj_wpAny_Assign_Attribute (sseq P' ne (he _ _).solidRV ?_) hs;intro t σ₁ Γ₁ w s₁ _ P₁ y ⟨hk,rv⟩ ne1 e1;rw [e1];have ne2:=M.bind_ne ne1;have fin:∀{L':Ev} {σ':Sg} {Γ₂:Gh} {s₂:Shared},Qh L₁ x a t σ₁=.ok L' σ'→SPre c A₀ A env L' Γ₀ σ₀ s₀ Γ₂ σ' s₂→SQ c A₀ A env Γ₀ σ₀ s₀ ((Qh L₁ x a t>>=fun L'=>(pure (Out.next,L'):M (Out×Ev))) σ₁) .next s₂:=by
   intro L' σ' Γ₂ s₂ e Q;rw [M.bind_ok e];exact ⟨.next,L',σ',Γ₂,rfl,Q,rfl⟩
  have hap:=Zd0 P' y;have hp0:∀a,s.heap.get? a=none→s₀.heap.get? a=none:=fun a h=>Je P'.step.alive h
  cases ho:L₁.own.lookup x with
  |some tk=>
   obtain ⟨u,ku⟩:=tk;obtain ⟨kd,its,at0,rfl⟩:∃kd its at0,u=.vec kd its at0:=by
    unfold Qh at ne2;rw [ho] at ne2;cases u<;>first | exact ⟨_,_,_,rfl⟩ | exact absurd rfl ne2
   by_cases haa:a="attrs"
   ·subst haa;have e2:Qh L₁ x "attrs" t σ₁=.ok (L₁.putOwn x (.vec kd its t.1)) σ₁:=by unfold Qh;rw [ho];rfl
    obtain ⟨Γ₂,P₂,rt,le2⟩:=P₁.asVal rv hk hp0 hap;obtain ⟨vx,as,m,hn,b,y0,n0,put⟩:=P₂.mut ho;refine Js P₂.envr.kind hn b d1 d2 ?_;have y1:=y0;obtain ⟨va,vd,ik,ii,ia,tt,rfl,m1,m2,hne,g1,g2,g3,g4⟩:=y0.inst;refine Zfe (kin F P₂.st) N g1 g2 fun h' tk q1 q2=>fin e2 (put vd h' tk _ m2 q2 ?_)
    have kp:∀{b},b≠vd→∀{o},s₁.heap.get? b=some o→h'.get? b=some o:=fun hb _ e=>(q2.2 _ hb).trans e
    cases ku with
    |val=>exact y1.elim
    |h=>exact y1.elim
    |own=>
     obtain ⟨a',d',ik',ii',ia',t',q,rfl,hne',e',i',hik',r1,r2,l1,l2,f1,f2⟩:=y1;cases q;rw [g1] at e';cases e';cases g2.inj2 i';exact ⟨va,_,_,_,_,t',rfl,rfl,hne,(q2.2 _ hne).trans g1,q1,hik',r1,rt,l1,l2,f1,f2⟩
    |ownIo=>
     obtain ⟨a',d',b',ik',ia',t',vs,n,q,rfl,ne1',ne2',ne3',e',i',hik',e2',z,r1,r2,l1,l2,l3,f1,f2,f3⟩:=y1;cases q;rw [g1] at e';cases e';cases g2.inj2 i';exact ⟨va,_,_,_,_,t',vs,n,rfl,rfl,hne,ne2',ne3',(q2.2 _ hne).trans g1,q1,hik',(q2.2 _ ne3'.symm).trans e2',z,r1,rt,l1,l2,l3,f1,f2,f3⟩
   ·unfold Qh at ne2;rw [ho] at ne2;dsimp only at ne2;rw [if_neg haa] at ne2;exact absurd rfl ne2
  |none=>
   obtain ⟨k1,_,_,m,e4,e5,e6,_⟩:=P₁.envr
   cases hl:L₁.loc x with
   |none=>
    unfold Qh at ne2;rw [ho,hl] at ne2;exact absurd rfl ne2
   |some u=>
    obtain ⟨vx,b,rx⟩:=e6 x u hl;have hu:u=.self∨∃kd its at0,u=.vec kd its at0:=by
     unfold Qh at ne2;rw [ho,hl] at ne2;cases u<;>first | exact .inl rfl | exact .inr ⟨_,_,_,rfl⟩ | exact absurd rfl ne2
    rcases hu with rfl | ⟨kd,its,at0,rfl⟩
    ·
     refine Js k1 e4 b d1 d2 ?_;unfold Qh at ne2;rw [ho,hl] at ne2;dsimp only at ne2
     cases hself:σ₁.self with
     |none=>rw [hself] at ne2;exact absurd rfl ne2
     |some v0=>
      rw [hself] at ne2;dsimp only at ne2
      by_cases haa:a="attrs"
      ·subst haa;rw [if_pos rfl] at ne2;have S:=P₁.st.self;rw [hself] at S;have S0:=S;obtain ⟨va,vd,ik,ii,ia,tt,c1,c2,c3,c4,c5,c6,c7⟩:=S;obtain ⟨va',vd',rfl,c1'⟩:∃a d,vx=.ref a∧Γ₁.self=some (a,d):=by unfold Rep at rx;exact rx
       rw [c1] at c1';cases c1';have gx:=P₁.st.obj _ _ c2;have c4':=c4;obtain ⟨_,_,_,_,_,_,_,hdd⟩:=c4';have hrow:Γ₁.row≠some vd:=by
        intro q;have R:=P₁.st.row
        cases hr:σ₁.row with
        |none=>rw [hr] at R;rw [show Γ₁.row=none from R] at q;cases q
        |some ns=>rw [hr] at R;obtain ⟨r,vs,mm,a1,a2,a3,_⟩:=R;rw [q] at a1;cases a1;rw [hdd] at a3;have q':=congrArg Obj.cls (Option.some.inj a3);injection q' with q';revert q';decide
       have htab:vd≠Γ₁.tab:=by
        intro q;obtain ⟨_,ps,q1,_⟩:=P₁.st.tab;rw [←q,hdd] at q1;cases q1
       obtain ⟨t,kt⟩:=t
       cases t with
       |none=>
        have hw:w=.none:=by
         cases kt with
         |val=>exact Rep.none_inv (show Rep c Γ₁ .none w from rv)
         |h=>exact absurd rfl hk
         |own=>obtain ⟨as,y,_⟩:=rv;exact y.elim
         |ownIo=>obtain ⟨as,y,_⟩:=rv;exact y.elim
        subst hw;refine Zfe (kin F P₁.st) N gx c4 fun h' tk q1 q2=>?_
        have e2:Qh L₁ x "attrs" (.none,kt) σ₁=.ok L₁ (Jd σ₁ v0 none):=by unfold Qh;rw [ho,hl];dsimp only;rw [hself];rfl
        refine fin e2 (P₁.turnSelf hself c3 hrow htab q2 ?_ (v':={ v0 with attrs:=none,ep:=v0.ep+1 }) (Nat.lt_succ_self _) ?_)
        ·obtain ⟨_,_,_,_,_,_,_,e⟩:=q1;exact ⟨_,e⟩
        ·exact ⟨va,vd,ik,ii,.none,tt,c1,c2,c3,q1,c5,c6,rfl⟩
       |dict es=>
        cases kt with
        |val=>exact absurd rfl ne2
        |h=>exact absurd rfl hk
        |ownIo=>exact absurd rfl ne2
        |own=>
         obtain ⟨as,yo,has⟩:=rv;obtain ⟨D,ds,n,rfl,rfl,nm,ea,zz,nd,rd,l1,nf⟩:=yo;have nD:=has D (by simp);obtain ⟨Γ₂,P₂,le2,hmD,gs,gr,gt⟩:=P₁.toMoves ea l1 (hp0 _ nD) (fun v q=>by cases q) nf (fun f m hm hf p hp q=>hap [D] (by simpa using nD) f m hm hf p hp D q (by simp));refine Zfe (kin F P₁.st) N gx c4 fun h' tk q1 q2=>?_
         have hDd:D≠vd:=fun q=>l1.2.2 (q▸c3)
         have e2:Qh L₁ x "attrs" (.dict es,.own) σ₁=.ok L₁ (Jd σ₁ v0 (some es)):=by unfold Qh;rw [ho,hl];dsimp only;rw [hself];rfl
         refine fin e2 (P₂.turnSelf hself (le2.moves _ c3) (by rw [gr];exact hrow) (by rw [gt];exact htab) q2 ?_ (v':={ v0 with attrs:=some es,ep:=v0.ep+1 }) (Nat.lt_succ_self _) ?_)
         ·obtain ⟨_,_,_,_,_,_,_,e⟩:=q1;exact ⟨_,e⟩
         ·exact ⟨va,vd,ik,ii,.ref D,tt,gs.trans c1,le2.obj _ _ c2,le2.moves _ c3,q1,c5,Rep.mono le2 _ _ c6,D,ds,n,rfl,nm,hmD,hDd,(q2.2 _ hDd).trans ea,zz,nd,RepD.mono le2 _ _ rd⟩
       |_=>exact absurd rfl ne2
      ·rw [if_neg haa] at ne2;exact absurd rfl ne2
    ·
     refine Js k1 e4 b d1 d2 ?_;unfold Qh at ne2;rw [ho,hl] at ne2;dsimp only at ne2
     by_cases haa:a="shared"∧Zf7 t.1=true
     ·have e2:Qh L₁ x a t σ₁=.ok L₁ σ₁:=by unfold Qh;rw [ho,hl];dsimp only;rw [if_pos haa]
      obtain ⟨rfl,hb⟩:=haa;obtain ⟨Γ₂,P₂,rt,le2⟩:=P₁.asVal rv hk hp0 hap;obtain ⟨bb,hbb⟩:∃b,t.1=.bool b:=by
       generalize t.1=u at hb
       cases u<;>first | exact ⟨_,rfl⟩ | cases hb
      rw [hbb] at rt;have:=rt.bool_inv;subst this;obtain ⟨va,vd,ik,ii,ia,rfl,h1,h2,⟨tt,rfl⟩,h4,h5⟩:=(Rep.mono le2 _ _ rx).vec_inv;exact Zm6 (kin F P₂.st) N (P₂.st.obj _ _ h1) (P₂.st.idc _ _ h2) fun h' tk q1 q2=>fin e2 (P₂.turnIdc h2 q2 q1)
     ·rw [if_neg haa] at ne2;exact absurd rfl ne2
 ·rw [if_neg ha] at ne;exact absurd rfl ne
end
section
variable {prog:Program}{c:Cx}{A₀ A:Around}{I:Inv (frs A)}{env:PySem.Env}{L L':Ev}{Γ₀ Γ Γ₁ Γ₂ Γ':Gh}{σ₀ σ σ₁ σ₂ σ':Sg}{s₀ s s₁ s₂:Shared}{E:Value→Shared→Prop}{G:Calls}{h h':Heap}{k:Kd}
theorem Bnd.at_ {m:Str→Option Value}{x:Str}{v:Value}(P:SPre c A₀ A env L Γ₀ σ₀ s₀ Γ' σ s)(b:Bnd Γ s.heap env m x v):Bnd Γ' s.heap env m x v:=by
 rcases b with b | ⟨k,ca,h1,h2,h3,h4,_⟩
 ·exact .inl b
 ·exact .inr ⟨k,ca,h1,h2,h3,h4,(P.cells x ca h3).2.1⟩
theorem St.dict_ne {D:Addr}{ds:List DictEntry}{n:Nat}(S:St c Γ σ h)(hd:h.get? D=some (Zn ds n)):Γ.row≠some D∧D≠Γ.tab:=by
 constructor
 ·intro q;have R:=S.row
  cases hr:σ.row with
  |none=>rw [hr] at R;rw [show Γ.row=none from R] at q;cases q
  |some ns=>rw [hr] at R;obtain ⟨r,vs,mm,a1,a2,a3,_⟩:=R;rw [q] at a1;cases a1;rw [hd] at a3;have q':=congrArg Obj.cls (Option.some.inj a3);injection q' with q';revert q';decide
 ·intro q;obtain ⟨_,ps,q1,_⟩:=S.tab;rw [←q,hd] at q1;cases q1
theorem Zh0 {vx:Value}{m:Str→Option Value}{x:Str}{px ap:Pos}{Q:Value→Shared→Prop}(F:Facts c)(P:SPre c A₀ A env L Γ₀ σ₀ s₀ Γ σ s)(d1:(x == ("__debug__":Str))=false)(d2:(x == ("__classdict__":Str))=false)
  (hn:s.heap.Ns env.locals m) (b:Bnd Γ s.heap env m x vx) (rx:Rep c Γ .self vx) (ha:Jw σ≠.stuck)
  (q:∀w Γ₁ s₁,Jw σ=.ok () σ→SPre c A₀ A env L Γ₀ σ₀ s₀ Γ₁ σ s₁→Γ.Le Γ₁→(∃es,Now c Γ₁ σ s₁.heap (.dict es) w)→Q w s₁):wpAny (model prog c.w) A (eval (.Attribute (.Name x px) "attrs" ap) env) Q E s:=by
 have h1:∃v es,σ.self=some v∧v.attrs=some es:=by
  unfold Jw at ha
  cases hs:σ.self with
  |none=>rw [hs] at ha;exact absurd rfl ha
  |some v=>
   rw [hs] at ha;dsimp only at ha
   cases hv:v.attrs with
   |none=>rw [hv] at ha;exact absurd rfl ha
   |some es=>exact ⟨v,es,rfl,hv⟩
 obtain ⟨v,es,hs,hv⟩:=h1;have h2:Jw σ=.ok () σ:=by unfold Jw;rw [hs];dsimp only;rw [hv]
 have h3:Zbb .self "attrs" σ=.ok (.dict es,.h) σ:=by
  unfold Zbb;rw [hs];dsimp only;rw [if_neg (by decide),if_neg (by decide),if_pos rfl,hv]
 refine Attribute_any_ (Js P.envr.kind hn b d1 d2 ?_) (by rw [arm_eval_Attribute,Zbl rfl]);refine wpAny_mono (Zlg F P.pre rx (by rw [h3];exact fun q=>by cases q)) (fun w s₁ y=>?_) (fun _ _ q=>q);obtain ⟨a,σ',e,Γ₁,y1,y2,y3,r⟩:=y;rw [h3] at e;cases e;exact q w Γ₁ s₁ h2 (P.next y1 y2 y3) y3.le ⟨es,r⟩
theorem Now.later {es:List (Str×T)}{w:Value}(P:SPre c A₀ A env L Γ₀ σ₀ s₀ Γ σ s)(P₂:SPre c A₀ A env L Γ₀ σ₀ s₀ Γ₂ σ₂ s₂)(N:Now c Γ σ s.heap (.dict es) w)(z:Step (frs A) Γ σ s.heap Γ₂ σ₂ s₂.heap)(ep:σ₂.self.map (·.ep)=σ.self.map (·.ep)):
  ∃v D ds n,w=.ref D∧σ₂.self=some v∧v.attrs=some es∧s₂.heap.get? D=some (Zn ds n)∧ds.length≤sizeLine∧(es.map (·.1)).Nodup∧RepD c Γ₂ es ds∧
   ∀h' tk es' ds' n',Heap.SameBut D s₂.heap h'→h'.get? D=some (Zn ds' n')→ds'.length≤sizeLine→(es'.map (·.1)).Nodup→RepD c Γ₂ es' ds'→SPre c A₀ A env L Γ₀ σ₀ s₀ Γ₂ (Jd σ₂ v (some es')) { s₂ with heap:=h',toks:=tk }:=by
 obtain ⟨es₀,v,a,d,ik,ii,e0,hs,hv,gs,hid,_⟩:=N;cases e0;obtain ⟨v2,hs2,_⟩:=z.mono v hs;rw [hs,hs2] at ep;obtain ⟨rfl,same⟩:=z.still v v2 hs hs2 (Option.some.inj ep);have S:=P₂.st.self;rw [hs2] at S;obtain ⟨a',d',ik',ii',ia',t',b1,b2,b3,b4,b5,b6,b7⟩:=S;rw [z.le.self _ gs] at b1;cases b1;rw [hv] at b7;obtain ⟨D,ds,n,rfl,nm,c2,c3,c4,c5,c6,c7⟩:=b7;have hd:Γ.moves d:=by
  have S:=P.st.self;rw [hs] at S;obtain ⟨a',d',ik',ii',ia',t',q1,_,q3,_⟩:=S;rw [gs] at q1;cases q1;exact q3
 have hid':=hid;obtain ⟨sh,t1,t2,t3,t4,t5,nn,hdd⟩:=hid;obtain ⟨r1,r2⟩:=P.st.dict_ne hdd;have hdd2:IDict c s₂.heap d (ik,ii,w):=⟨sh,t1,t2,t3,t4,t5,nn,(same d hd r1 r2).trans hdd⟩;cases b4.inj2 hdd2;obtain ⟨u1,u2⟩:=P₂.st.dict_ne c4;refine ⟨v2,D,ds,n,rfl,hs2,hv,c4,c5,c6,c7,fun h' tk es' ds' n' sb g1 g2 g3 g4=>?_⟩;have hDd:d≠D:=fun q=>c3 q.symm
 obtain ⟨sh',u1',u2',u3',u4',u5',nn',bb⟩:=b4;exact P₂.turnSelf hs2 c2 u1 u2 sb ⟨_,g1⟩ (v':={ v2 with attrs:=some es',ep:=v2.ep+1 }) (Nat.lt_succ_self _) ⟨a,d,_,_,_,t',z.le.self _ gs,b2,b3,⟨sh',u1',u2',u3',u4',u5',nn',(sb.2 _ hDd).trans bb⟩,b5,b6,D,ds',n',rfl,nm,c2,c3,g1,g2,g3,g4⟩
theorem Sd.setin {x a:Str}{px ap p0 pos:Pos}{v i:Expr}(F:Facts c)(d1:(x == ("__debug__":Str))=false)(d2:(x == ("__classdict__":Str))=false)(hs:swapsWith v (some (.Subscript (.Attribute (.Name x px) a ap) i p0)) pos.line env=pure false)
  (he:ESnd prog c A env G v) (hie:ESnd prog c A env G i):Sd prog c A₀ A env G (.Assign [.Subscript (.Attribute (.Name x px) a ap) i p0] v pos):=by
 intro L Γ₀ σ₀ s₀ Γ σ s P ne
 have ev:Zi G (.Assign [.Subscript (.Attribute (.Name x px) a ap) i p0] v pos) L=(match L.loc x with
  |some .self=>if a="attrs" then ((Za G (settle (.Tuple [v,i] 0 pos) L) v>>=Mine.solid)>>=fun t=>Jw>>=fun _=>still .h (Za G (settle (.Tuple [v,i] 0 pos) L) i)>>=fun k=>Zbs (settle (.Tuple [v,i] 0 pos) L) k.1 t.1>>=fun L'=>pure (.next,L')) else stuck
  |_=>stuck):=by
  rw [Zi]
  cases L.loc x with
  |none=>rfl
  |some t=>cases t<;>first | rfl | (dsimp only;rw [M.assoc]) | (rw [M.assoc];rfl)
 obtain ⟨Γ',P',le⟩:=P.settle (.Tuple [v,i] 0 pos);rw [ev] at ne ⊢
 clear ev
 generalize settle (.Tuple [v,i] 0 pos) L=L₁ at ne P' ⊢
 cases hl:L.loc x with
 |none=>rw [hl] at ne;exact absurd rfl ne
 |some t0=>
  rw [hl] at ne;obtain rfl:t0=.self:=by
   cases t0<;>first | rfl | exact absurd rfl ne
  dsimp only at ne ⊢
  by_cases ha:a="attrs"
  ·subst ha;rw [if_pos rfl] at ne ⊢;obtain ⟨_,_,_,m,e4,e5,e6,_⟩:=P.envr;obtain ⟨vx,b,rx⟩:=e6 x _ hl;have b':Bnd Γ' s.heap env m x vx:=b.at_ P';have rx':Rep c Γ' .self vx:=Rep.mono le _ _ rx;have lo':Loose Γ' env.locals:=by obtain ⟨_,_,_,_,_,q,_⟩:=P'.envr;exact q
   refine wpAny_Assign_Subscript (sseq P' ne (he _ _).solidRep ?_) hs
   rintro ⟨t,kt⟩ σ₁ Γ₁ w s₁ _ P₁ y ⟨_,rw1⟩ ne1 e1
   rw [e1];dsimp only at rw1 ne1 ⊢;have neA:=M.bind_ne ne1;refine Zh0 F P₁ d1 d2 (y.ns lo' e4).1 (b'.step y) (Rep.mono y.le _ _ rx') neA fun hw Γ₂ s₂ eA P₂ le2 ⟨es,N⟩=>?_
   rw [M.bind_ok eA] at ne1 ⊢;refine sseq P₂ ne1 ((hie _ _).toRF.still Zem) ?_
   rintro ⟨ki,kk⟩ σ₃ Γ₃ u s₃ e3 P₃ z ri ne3 e4'
   rw [e4'];obtain ⟨v3,D,ds,n,rfl,hs3,hv3,g1,g2,g3,g4,put⟩:=N.later P₂ P₃ z ((Zcn e3).2 rfl);dsimp only at ne3 ⊢;obtain ⟨key,rfl⟩:∃key,ki=.str key:=by
    cases ki<;>first | exact ⟨_,rfl⟩ | exact absurd rfl ne3
   obtain ⟨tkk,rfl⟩:=(ri.rep (fun es q=>by cases q)).str_inv;have ne5:=M.bind_ne ne3;unfold Zbs at ne5;rw [hs3] at ne5;dsimp only at ne5;rw [hv3] at ne5;dsimp only at ne5
   by_cases hz:es.length < Zc
   ·have e5:Zbs L₁ (.str key) t σ₃=.ok L₁ (Jd σ₃ v3 (some (dput es key t))):=by
     unfold Zbs;rw [hs3];dsimp only;rw [hv3];dsimp only;rw [if_pos hz]
    rw [M.bind_ok e5];have hz':es.length+1≤sizeLine:=by rw [Z3];unfold Zc at hz;omega
    have hkv:=Zbg g4;have hl:(Qo es ds).length≤sizeLine:=by rw [←List.length_map (f:=Prod.fst),Jn g4,List.length_map,←g4.length];exact g2
    refine wpAny_setItem_pairs (knd:=strKind prog c.w) (strKind_is prog c.w key tkk) (Zao (prog:=prog) g1 g4 g3) (fun h' hm' sb=>?_) hl;obtain ⟨ds',n',q1,q2,q3⟩:=Zbf hm' (hkv.put g3 (Rep.mono (le2.trans z.le) _ _ rw1));refine ⟨.next,_,_,Γ₃,rfl,put h' _ _ ds' n' sb q1 ?_ q3 q2,rfl⟩;rw [q2.length];exact Nat.le_trans Zgo hz'
   ·rw [if_neg hz] at ne5;exact absurd rfl ne5
  ·rw [if_neg ha] at ne;exact absurd rfl ne
theorem Sd.delin {x a:Str}{px ap p0 pos:Pos}{i:Expr}(fa:Facts c)(d1:(x == ("__debug__":Str))=false)(d2:(x == ("__classdict__":Str))=false)
  (hie:ESnd prog c A env G i):Sd prog c A₀ A env G (.Delete [.Subscript (.Attribute (.Name x px) a ap) i p0] pos):=by
 intro L Γ₀ σ₀ s₀ Γ σ s P ne
 have ev:Zi G (.Delete [.Subscript (.Attribute (.Name x px) a ap) i p0] pos) L=(match L.loc x with
  |some .self=>if a="attrs" then (Jw>>=fun _=>still .h (Za G (settle i L) i)>>=fun k=>Zca (settle i L) k.1>>=fun L'=>pure (.next,L')) else stuck
  |_=>stuck):=by
  rw [Zi]<;>(cases L.loc x with
  |none=>rfl
  |some t=>cases t<;>rfl)
 obtain ⟨Γ',P',le⟩:=P.settle i;rw [ev] at ne ⊢
 clear ev
 generalize settle i L=L₁ at ne P' ⊢
 cases hl:L.loc x with
 |none=>rw [hl] at ne;exact absurd rfl ne
 |some t0=>
  rw [hl] at ne;obtain rfl:t0=.self:=by
   cases t0<;>first | rfl | exact absurd rfl ne
  dsimp only at ne ⊢
  by_cases ha:a="attrs"
  ·subst ha;rw [if_pos rfl] at ne ⊢;obtain ⟨_,_,_,m,e4,e5,e6,_⟩:=P.envr;obtain ⟨vx,b,rx⟩:=e6 x _ hl;have neA:=M.bind_ne ne;refine wpAny_Delete (wpAny_deleteEach_cons (wpAny_delete_Subscript ?_));refine Zh0 fa P' d1 d2 e4 (b.at_ P') (Rep.mono le _ _ rx) neA fun hw Γ₂ s₂ eA P₂ le2 ⟨es,N⟩=>?_
   rw [M.bind_ok eA] at ne ⊢;refine sseq P₂ ne ((hie _ _).toRF.still Zem) ?_
   rintro ⟨ki,kk⟩ σ₃ Γ₃ u s₃ e3 P₃ z ri ne3 e4'
   rw [e4'];obtain ⟨v3,D,ds,n,rfl,hs3,hv3,g1,g2,g3,g4,put⟩:=N.later P₂ P₃ z ((Zcn e3).2 rfl);dsimp only at ne3 ⊢;obtain ⟨key,rfl⟩:∃key,ki=.str key:=by
    cases ki<;>first | exact ⟨_,rfl⟩ | exact absurd rfl ne3
   obtain ⟨tkk,rfl⟩:=(ri.rep (fun es q=>by cases q)).str_inv;have ne5:=M.bind_ne ne3;unfold Zca at ne5;rw [hs3] at ne5;dsimp only at ne5;rw [hv3] at ne5;dsimp only at ne5
   by_cases hz:(es.lookup key).isSome=true
   ·have e5:Zca L₁ (.str key) σ₃=.ok L₁ (Jd σ₃ v3 (some (ddel es key))):=by
     unfold Zca;rw [hs3];dsimp only;rw [hv3];dsimp only;rw [if_pos hz]
    rw [M.bind_ok e5];have hkv:=Zbg g4;have hl:(Qo es ds).length≤sizeLine:=by rw [←List.length_map (f:=Prod.fst),Jn g4,List.length_map,←g4.length];exact g2
    refine wpAny_delItem_slot (T:="dict") ⟨_,g1,rfl⟩ (by decide) F.slot_dict_delitem (call_meetsIn F.slot_dict_delitem ⟨_,g1,rfl⟩ F.entry_dict_delitem (F.args_dict_delitem_2 _ _) (meets_dict_delitem_pairs (strKind prog c.w) D (strKind_is prog c.w key tkk)) ⟨_,Zao (prog:=prog) g1 g4 g3,hl,?_,fun h' hm' sb=>?_⟩)
    ·rw [Zjl hkv];exact hz
    obtain ⟨ds',n',q1,q2,q3⟩:=Zbf hm' (hkv.del g3);refine wpAny_deleteEach_nil ⟨.next,_,_,Γ₃,rfl,put h' _ _ ds' n' sb q1 ?_ q3 q2,rfl⟩;rw [q2.length];exact Nat.le_trans Zku (by rw [←g4.length];exact g2)
   ·rw [if_neg hz] at ne5;exact absurd rfl ne5
  ·rw [if_neg ha] at ne;exact absurd rfl ne
end
def Zge (l:List Stmt):List Str:=l.filterMap fun s=>match s with
 |.FunctionDef m ..=>some m
 |_=>none
def defNames:List Str:=Zge PySem.Challenge.pw_nz0494_01.main.body
def deadNames:List Str:=["divmod","sorted"]
def Zau:Expr→Bool
 |.Name ..=>true
 |.Constant ..=>true
 |.BinOp l _ r _=>Zau l&&Zau r
 |.Attribute o _ _=>Zau o
 |_=>false
def Zg1 (g:Str→Bool)(fn:Str)(as:List Expr):Bool:=
 if fn == "len" then as.length == 1
 else if fn == "isinstance" then (match as with | [_,.Name n _]=>g n&&(n == "Vector"||n == "str") | _=>false)
 else if fn == "Null" then as.length == 0
 else if fn == "Vector" then as.length == 2
 else if builtins.contains fn then true
 else if defNames.contains fn then true
 else deadNames.contains fn&&as.all Zau
def Zej:Expr→Bool
 |.Set ..=>false
 |_=>true
mutual
def ckE (g f:Str→Bool):Expr→Bool
 |.Name x _=>Zav g x
 |.Constant _ _ _=>true
 |.BinOp l _ r _=>ckE g f l&&ckE g f r
 |.UnaryOp .USub x _=>ckE g f x
 |.IfExp t b o _=>ckT g f t (ckE g f t)&&ckE g f b&&ckE g f o
 |.Compare l [op] [r] _=>!behindInMarks op r&&ckE g f l&&ckE g f r
 |.Call (.Attribute o _ ap) as [] p=>Zdi o&&(ap.endLine == p.line)&&decide (as.length < 20)&&ckEs g f as&&ckE g f o
 |.Call (.Name fn _) as [] _=>Zbw as&&g fn&&!(fn == "__debug__")&&Zg1 g fn as&&ckEs g f as
 |.Attribute o _ _=>Zdi o&&ckE g f o
 |.Subscript v (.Slice lo hi none _) _=>ckE g f v&&ckO g f lo&&ckO g f hi
 |.Subscript v i _=>Zd3 i&&ckE g f v&&ckE g f i
 |.List es _=>decide (es.length≤1000)&&ckEs g f es
 |.Tuple es _ _=>decide (es.length≤1000)&&ckEs g f es
 |.Dict [] [] _=>true
 |.Dict [some k] [v] _=>ckE g f k&&ckE g f v
 |.ListComp elt [⟨.Name x _,it,ifs,0⟩] sc _=>scOk f sc x&&Zej it&&ckE g f it&&ckTs (isK' sc .globalImplicit) (isK' sc .free) ifs&&ckE (isK' sc .globalImplicit) (isK' sc .free) elt
 |.DictComp k v [⟨.Name x _,it,ifs,0⟩] sc _=>scOk f sc x&&Zej it&&ckE g f it&&ckTs (isK' sc .globalImplicit) (isK' sc .free) ifs&&ckE (isK' sc .globalImplicit) (isK' sc .free) k&&ckE (isK' sc .globalImplicit) (isK' sc .free) v
 |.JoinedStr es _=>decide (2≤es.length)&&ckEs g f es
 |.FormattedValue v (-1) none _=>ckE g f v
 |_=>false
def ckT (g f:Str→Bool):Expr→Bool→Bool
 |.UnaryOp .Not x _,_=>ckT g f x (ckE g f x)
 |.BoolOp .And vs _,_=>ckTs g f vs
 |.BoolOp .Or vs _,_=>ckTs g f vs
 |.Compare l [op] [r] _,_=>!behindInMarks op r&&ckE g f l&&ckE g f r
 |e,w=>Zik e&&w
def ckTs (g f:Str→Bool):List Expr→Bool
 |[]=>true
 |e::r=>ckT g f e (ckE g f e)&&ckTs g f r
def ckEs (g f:Str→Bool):List Expr→Bool
 |[]=>true
 |e::r=>Z7 e&&ckE g f e&&ckEs g f r
def ckO (g f:Str→Bool):Option Expr→Bool
 |none=>true
 |some e=>ckE g f e
end
theorem Zc1 {e:Expr}(h:Zej e=true)(env:PySem.Env)(v:Value):foldedSetIterable e env v=pure v:=by
 cases e<;>first | (cases h;done) | rfl
def Room (n:Nat)(A:Around):Prop:=A.depth+n≤900∧A.units+3 * n≤9000
theorem Room.deeper {n:Nat}{A:Around}{e:PySem.Env}(r:Room (n+1) A):Room n (A.deeper e):=by
 obtain ⟨r1,r2⟩:=r;exact ⟨by show A.depth+1+n≤900;omega,by show A.units+3+3 * n≤9000;omega⟩
theorem Room.mono {n m:Nat}{A:Around}(r:Room n A)(h:m≤n):Room m A:=⟨by have:=r.1;omega,by have:=r.2;omega⟩
structure Ctx (prog:Program) (c:Cx) (d:Nat) (G:Calls):Prop where
 F:Facts c
 N:ClsFacts c
 defs:∀fn∈defNames,∃fa,c.mg fn=some (.ref fa)∧keepIn c.K (.ref fa)=true
 calls:∀A,Room (4 * d) A→GOk prog c A G
 dead:∀fn∈deadNames,∀ts,G fn ts=stuck
 exc:ExcFacts c
 get:ExcGet c
 lam:LamFacts c
 kept:∃fk,KeptAt c fk
theorem Zto:∀fn∈defNames,fn∉builtins∧fn≠"isinstance"∧¬(fn="Null"∨fn="Vector"):=by
 decide +kernel
theorem Zdw {G:Calls}{L:Ev}:∀(e:Expr),Zau e=true→∀σ m σ',Za G L e σ≠.exn m σ'
 |.Name x p,_,σ,m,σ'=>by
  rw [Za];cases Zbz L x<;>exact fun q=>by cases q
 |.Constant x k p,_,σ,m,σ'=>by
  rw [Za];cases Zgw x<;>exact fun q=>by cases q
 |.BinOp l op r p,h,σ,m,σ'=>by
  unfold Zau at h;rw [Bool.and_eq_true] at h;have hl:=Zdw (G:=G) (L:=L) l h.1 σ;rw [Za];show M.bind _ _ σ≠_;unfold M.bind
  cases e1:Za G L l σ with
  |stuck=>exact fun q=>by cases q
  |exn m' s'=>exact absurd e1 (hl m' s')
  |ok a s'=>
   have hr:=Zdw (G:=G) (L:=L) r h.2 s';dsimp only;show M.bind _ _ s'≠_;unfold M.bind
   cases e2:Za G L r s' with
   |stuck=>exact fun q=>by cases q
   |exn m' s'=>exact absurd e2 (hr m' _)
   |ok b s''=>
    dsimp only;cases binT op a.1 b.1<;>exact fun q=>by cases q
 |.Attribute o a p,h,σ,m,σ'=>by
  unfold Zau at h;have hl:=Zdw (G:=G) (L:=L) o h σ;rw [Za];show M.bind _ _ σ≠_;unfold M.bind
  cases e1:Za G L o σ with
  |stuck=>exact fun q=>by cases q
  |exn m' s'=>exact absurd e1 (hl m' s')
  |ok v s'=>
   dsimp only;unfold Zbb;split<;>(repeat' split)<;>exact fun q=>by cases q
theorem Zig {G:Calls}{L:Ev}:∀(es:List Expr),es.all Zau=true→∀σ m σ',evalEs G L es σ≠.exn m σ'
 |[],_,σ,m,σ'=>by rw [evalEs];exact fun q=>by cases q
 |e::es,h,σ,m,σ'=>by
  rw [List.all_cons,Bool.and_eq_true] at h;have hl:=Zdw (G:=G) (L:=L) e h.1 σ;rw [evalEs];show M.bind _ _ σ≠_;unfold M.bind
  cases e1:Za G L e σ with
  |stuck=>exact fun q=>by cases q
  |exn m' s'=>exact absurd e1 (hl m' s')
  |ok a s'=>
   dsimp only;show M.bind _ _ s'≠_;unfold M.bind;unfold solid
   by_cases hk:a.2=.h
   ·rw [if_pos hk];exact fun q=>by cases q
   ·rw [if_neg hk];have hr:=Zig (G:=G) (L:=L) es h.2 s';show M.bind _ _ s'≠_;unfold M.bind
    cases e2:evalEs G L es s' with
    |stuck=>exact fun q=>by cases q
    |exn m' s'=>exact absurd e2 (hr m' _)
    |ok b s''=>exact fun q=>by cases q
section
variable {prog:Program}{c:Cx}{d:Nat}{G:Calls}
theorem Zft {g:Str→Bool}{e:Expr}{f:Str→Bool}(h:ckE g f e=true):∀x p,e=.Name x p→Zav g x=true:=by
 rintro x p rfl
 unfold ckE at h;exact h
theorem Zt7 {A:Around}{env:PySem.Env}{g f:Str→Bool}{fn:Str}{np pos:Pos}{as:List Expr}(K:Ctx prog c d G)(RA:Room (4 * d+1) A)(S:EnvS g f env)
  (h1:Zbw as=true) (h2:g fn=true) (h3:(fn == ("__debug__":Str))=false) (h4:Zg1 g fn as=true) (hs:∀e∈as,Z7 e=true) (he:∀e∈as,ESnd prog c A env G e) (hn:∀e∈as,∀x p,e=.Name x p→Zav g x=true):
  ESnd prog c A env G (.Call (.Name fn np) as [] pos):=by
 intro old L;have hk:=S.glob fn h2;have room:A.depth+1 < recursionLimit:=by have:=RA.1;show _ < 1000;omega
 have row:∀p,Snd prog c A (envI c old (frs A) env L) (RLs c) (evalEs G L as) (spliced (backTo p (starEach as env))):=fun p=>Snd.row hs fun e he'=>he e he' old L
 unfold Zg1 at h4;split at h4
 ·
  rename_i hf;have hf:=eq_of_beq hf;subst hf;obtain ⟨e,rfl⟩:∃e,as=[e]:=List.length_eq_one_iff.mp (by simpa using h4);exact Snd.call_len K.F hk (hs e (by simp)) h1 (Snd.peek K.F S.glob (hn e (by simp)) (he e (by simp) old L))
 ·split at h4
  ·rename_i hf;have hf:=eq_of_beq hf;subst hf;split at h4
   ·rename_i e n cp;simp only [Bool.and_eq_true,Bool.or_eq_true,beq_iff_eq] at h4;obtain ⟨g1,g2⟩:=h4;rcases g2 with rfl | rfl
    ·exact Snd.call_isinstance K.F hk (hs e (by simp)) (Snd.peek K.F S.glob (hn e (by simp)) (he e (by simp) old L)) (Zb0 K.F (S.glob _ g1) (by decide) K.F.vecG) (.inl ⟨rfl,rfl⟩)
    ·exact Snd.call_isinstance K.F hk (hs e (by simp)) (Snd.peek K.F S.glob (hn e (by simp)) (he e (by simp) old L)) (Zd6 K.F (S.glob _ g1) (by decide) (by simp [bltTable])) (.inr ⟨rfl,rfl⟩)
   ·cases h4
  ·split at h4
   ·rename_i hf;have hf:=eq_of_beq hf;subst hf;have:as=[]:=List.length_eq_zero_iff.mp (by simpa using h4);subst this;exact Snd.call_null K.F K.N hk room
   ·split at h4
    ·rename_i hf;have hf:=eq_of_beq hf;subst hf;obtain ⟨e1,e2,rfl⟩:∃e1 e2,as=[e1,e2]:=by
      rcases as with _ | ⟨a,_ | ⟨b,_ | ⟨_,_⟩⟩⟩
      ·cases h4
      ·cases h4
      ·exact ⟨_,_,rfl⟩
      ·simp at h4
     exact Snd.call_vec K.F K.N hk room (hs e1 (by simp)) (hs e2 (by simp)) (he e1 (by simp) old L) (he e2 (by simp) old L)
    ·rename_i n1 n2 n3 n4;split at h4
     ·rename_i hf;have hf:fn∈builtins:=List.contains_iff_mem.mp hf;obtain ⟨fv,hm⟩:∃fv,(fn,fv)∈bltTable:=by
       simp only [builtins,List.mem_cons,List.mem_nil_iff,or_false] at hf;rcases hf with rfl | rfl | rfl | rfl | rfl | rfl | rfl
       ·exact ⟨.builtin "len",by simp [bltTable]⟩
       ·exact ⟨.type "str",by simp [bltTable]⟩
       ·exact ⟨.type "list",by simp [bltTable]⟩
       ·exact ⟨.type "dict",by simp [bltTable]⟩
       ·exact ⟨.builtin "abs",by simp [bltTable]⟩
       ·exact ⟨.type "range",by simp [bltTable]⟩
       ·exact ⟨.builtin "max",by simp [bltTable]⟩
      exact Snd.call_builtin K.F hm hk hf (by simpa using n1) hs h1 row
     ·split at h4
      ·rename_i hf;have hf:fn∈defNames:=List.contains_iff_mem.mp hf;obtain ⟨fa,m1,m2⟩:=K.defs fn hf;obtain ⟨a1,a2,a3⟩:=Zto fn hf;exact Snd.call_def K.F (K.calls A (RA.mono (by omega))) hk h3 m1 m2 a1 a2 a3 hs h1 row
      ·rename_i nb nd;rw [Bool.and_eq_true] at h4;have hdead:fn∈deadNames:=List.contains_iff_mem.mp h4.1;intro Γ σ s P ne;refine absurd ?_ ne;rw [Zbh h1,Zdg (by simpa using n1) (by simpa using n2)];show M.bind _ _ σ=_;unfold M.bind;have hp:=Zig (G:=G) (L:=L) as h4.2 σ
       cases e1:evalEs G L as σ with
       |stuck=>rfl
       |exn m' s'=>exact absurd e1 (hp m' s')
       |ok a s'=>
        dsimp only;unfold Z2;rw [if_neg (by simp at n3 n4;exact fun q=>q.elim n3 n4),if_neg (by simpa using nb),K.dead fn hdead];rfl
mutual
theorem Zq (K:Ctx prog c d G)(e:Expr){A:Around}{env:PySem.Env}{g f:Str→Bool}(RA:Room (4 * d+1) A)(S:EnvS g f env)(h:ckE g f e=true):ESnd prog c A env G e:=by
 have hu:A.units+50 < cLine:=by have:=RA.2;show _ < 9900;omega
 unfold ckE at h;split at h
 ·exact fun old L=>Snd.name K.F S.glob h
 ·exact fun old L=>Snd.const
 ·simp only [Bool.and_eq_true] at h;exact fun old L=>Snd.bin (Zq K _ RA S h.1 old L) (Zq K _ RA S h.2 old L)
 ·exact fun old L=>Snd.neg (Zq K _ RA S h old L)
 ·simp only [Bool.and_eq_true] at h;exact fun old L=>Snd.ite (ckT_ok K _ RA S h.1.1 old L) (Zq K _ RA S h.1.2 old L) (Zq K _ RA S h.2 old L)
 ·simp only [Bool.and_eq_true,Bool.not_eq_true'] at h;exact fun old L=>Snd.compare hu h.1.1 (Zq K _ RA S h.1.2 old L) (Snd.right (Zq K _ RA S h.2 old L) (Snd.peek K.F S.glob (Zft h.2) (Zq K _ RA S h.2 old L)))
 ·simp only [Bool.and_eq_true,decide_eq_true_eq] at h;obtain ⟨⟨⟨⟨h1,h2⟩,h3⟩,h4⟩,h5⟩:=h;obtain ⟨s1,s2,_⟩:=ckEs_ok K _ RA S h4;exact fun old L=>Snd.meth h1 h2 h3 s1 (Zq K _ RA S h5 old L) fun p=>Snd.row s1 fun e he=>s2 e he old L
 ·simp only [Bool.and_eq_true,Bool.not_eq_true'] at h;obtain ⟨⟨⟨⟨h1,h2⟩,h3⟩,h4⟩,h5⟩:=h;obtain ⟨s1,s2,s3⟩:=ckEs_ok K _ RA S h5;exact Zt7 K RA S h1 h2 h3 h4 s1 s2 s3
 ·simp only [Bool.and_eq_true] at h;exact fun old L=>Snd.attr K.F h.1 (Zq K _ RA S h.2 old L)
 ·simp only [Bool.and_eq_true] at h;exact fun old L=>Snd.slice (Zq K _ RA S h.1.1 old L) (Snd.bound fun x hx=>ckO_ok K _ RA S h.1.2 x hx old L) (Snd.bound fun x hx=>ckO_ok K _ RA S h.2 x hx old L)
 ·simp only [Bool.and_eq_true] at h;exact fun old L=>Snd.sub h.1.1 (Zq K _ RA S h.1.2 old L) (Zq K _ RA S h.2 old L)
 ·simp only [Bool.and_eq_true,decide_eq_true_eq] at h;obtain ⟨s1,s2,_⟩:=ckEs_ok K _ RA S h.2;exact fun old L=>Snd.list h.1 fun p=>Snd.row s1 fun e he=>s2 e he old L
 ·simp only [Bool.and_eq_true,decide_eq_true_eq] at h;obtain ⟨s1,s2,_⟩:=ckEs_ok K _ RA S h.2;exact fun old L=>Snd.tuple h.1 fun p=>Snd.row s1 fun e he=>s2 e he old L
 ·exact fun old L=>Snd.dict0 K.F
 ·simp only [Bool.and_eq_true] at h;exact fun old L=>Snd.dict1 K.F (Zq K _ RA S h.1 old L) (Zq K _ RA S h.2 old L)
 ·simp only [Bool.and_eq_true] at h;obtain ⟨⟨⟨⟨h1,h2⟩,h3⟩,h4⟩,h5⟩:=h;exact Snd.listcomp S (Zdt h1) (Zq K _ RA S h3) (fun cl C S'=>ckTs_ok K _ RA S' h4) (fun cl C S'=>Zq K _ RA S' h5) (Zc1 h2 env)
 ·simp only [Bool.and_eq_true] at h;obtain ⟨⟨⟨⟨⟨h1,h2⟩,h3⟩,h4⟩,h5⟩,h6⟩:=h;exact Snd.dictcomp K.F S (Zdt h1) (Zq K _ RA S h3) (fun cl C S'=>ckTs_ok K _ RA S' h4) (fun cl C S'=>Zq K _ RA S' h5) (fun cl C S'=>Zq K _ RA S' h6) (Zc1 h2 env)
 ·simp only [Bool.and_eq_true,decide_eq_true_eq] at h;obtain ⟨s1,s2,_⟩:=ckEs_ok K _ RA S h.2;exact fun old L=>Snd.joined h.1 fun e he=>s2 e he old L
 ·exact fun old L=>Snd.fmt (Zq K _ RA S h old L)
 ·cases h
termination_by (sizeOf e,0)
theorem ckT_ok (K:Ctx prog c d G)(e:Expr){A:Around}{env:PySem.Env}{g f:Str→Bool}(RA:Room (4 * d+1) A)(S:EnvS g f env)(h:ckT g f e (ckE g f e)=true):TSnd prog c A env G e:=by
 have hu:A.units+50 < cLine:=by have:=RA.2;show _ < 9900;omega
 unfold ckT at h;split at h
 ·exact fun old L=>Snd.test_not (ckT_ok K _ RA S h old L)
 ·exact fun old L=>Snd.test_AND fun e he=>ckTs_ok K _ RA S h e he old L
 ·exact fun old L=>Snd.test_OR fun e he=>ckTs_ok K _ RA S h e he old L
 ·simp only [Bool.and_eq_true,Bool.not_eq_true'] at h;exact fun old L=>Snd.test_cmp hu h.1.1 (Zq K _ RA S h.1.2 old L) (Snd.right (Zq K _ RA S h.2 old L) (Snd.peek K.F S.glob (Zft h.2) (Zq K _ RA S h.2 old L)))
 ·simp only [Bool.and_eq_true] at h;exact fun old L=>Snd.test_value h.1 (Zq K _ RA S h.2 old L)
termination_by (sizeOf e,1)
theorem ckTs_ok (K:Ctx prog c d G)(es:List Expr){A:Around}{env:PySem.Env}{g f:Str→Bool}(RA:Room (4 * d+1) A)(S:EnvS g f env)(h:ckTs g f es=true):∀e∈es,TSnd prog c A env G e:=by
 cases es with
 |nil=>exact fun _ q=>absurd q List.not_mem_nil
 |cons e r=>
  unfold ckTs at h;rw [Bool.and_eq_true] at h;have h1:=ckT_ok K e RA S h.1;have h2:=ckTs_ok K r RA S h.2;intro x hx;rcases List.mem_cons.mp hx with rfl | hx
  ·exact h1
  ·exact h2 x hx
termination_by (sizeOf es,0)
theorem ckEs_ok (K:Ctx prog c d G)(es:List Expr){A:Around}{env:PySem.Env}{g f:Str→Bool}(RA:Room (4 * d+1) A)(S:EnvS g f env)(h:ckEs g f es=true):
  (∀e∈es,Z7 e=true)∧(∀e∈es,ESnd prog c A env G e)∧(∀e∈es,∀x p,e=.Name x p→Zav g x=true):=by
 cases es with
 |nil=>exact ⟨fun _ q=>absurd q List.not_mem_nil,fun _ q=>absurd q List.not_mem_nil,fun _ q=>absurd q List.not_mem_nil⟩
 |cons e r=>
  unfold ckEs at h;simp only [Bool.and_eq_true] at h;obtain ⟨r1,r2,r3⟩:=ckEs_ok K r RA S h.2;have h1:=Zq K e RA S h.1.2;refine ⟨fun x hx=>?_,fun x hx=>?_,fun x hx=>?_⟩
  ·rcases List.mem_cons.mp hx with rfl | hx
   ·exact h.1.1
   ·exact r1 x hx
  ·rcases List.mem_cons.mp hx with rfl | hx
   ·exact h1
   ·exact r2 x hx
  ·rcases List.mem_cons.mp hx with rfl | hx
   ·exact Zft h.1.2
   ·exact r3 x hx
termination_by (sizeOf es,0)
theorem ckO_ok (K:Ctx prog c d G)(o:Option Expr){A:Around}{env:PySem.Env}{g f:Str→Bool}(RA:Room (4 * d+1) A)(S:EnvS g f env)(h:ckO g f o=true):∀e,o=some e→ESnd prog c A env G e:=by
 cases o with
 |none=>exact fun _ q=>by cases q
 |some e=>
  intro x hx;cases hx;unfold ckO at h;exact Zq K e RA S h
termination_by (sizeOf o,0)
end
end
def Zfq:Expr→Bool
 |.ListComp ..=>false
 |.SetComp ..=>false
 |.DictComp ..=>false
 |_=>true
def Zfo:Expr→Bool
 |.ListComp _ [⟨.Name _ _,_,_,0⟩] _ _=>true
 |.DictComp _ _ [⟨.Name _ _,_,_,0⟩] _ _=>true
 |e=>Zfq e
theorem Zfb {v:Expr}{t:Option Expr}{l:Nat}{env:PySem.Env}(h:Zfq v=true):swapsWith v t l env=pure false:=by
 cases v<;>first | (cases h;done) | rfl
theorem Zmg {v o:Expr}{a:Str}{p:Pos}{l:Nat}{env:PySem.Env}:swapsWith v (some (.Attribute o a p)) l env=pure false:=by
 cases v<;>rfl
theorem Zhr {v o i:Expr}{p:Pos}{l:Nat}{env:PySem.Env}:swapsWith v (some (.Subscript o i p)) l env=pure false:=by
 cases v<;>rfl
theorem Zmf {v:Expr}{x:Str}{p:Pos}{l:Nat}{env:PySem.Env}:∃b,swapsWith v (some (.Name x p)) l env=pure b:=by
 cases v<;>exact ⟨_,rfl⟩
def lc (sc:Scope)(x:Str):Bool:=isK' sc .local x||isK' sc .cell x
def nm (x:Str):Bool:=!(x == ("__debug__":Str))&&!(x == ("__classdict__":Str))
def Zo3:Expr→Bool
 |.Name x _=>nm x
 |_=>true
def Zjr:Expr→Bool
 |.Call ..=>true
 |_=>false
def Zfg (f:Str→Bool)(sc:Scope):Bool:=
 sc.kind == .function&&!sc.isCoroutine&&!sc.isGenerator&&decide ((sc.names.map (·.1)).Nodup)&&sc.names.all (fun p=>!(p.2 == .cell)&&(!(p.2 == .free)||f p.1))
theorem Znt {f:Str→Bool}{sc:Scope}(h:Zfg f sc=true):ScL f sc:=by
 simp only [Zfg,Bool.and_eq_true,decide_eq_true_eq,List.all_eq_true,Bool.not_eq_true',Bool.or_eq_true,beq_iff_eq,beq_eq_false_iff_ne,ne_eq] at h;obtain ⟨⟨⟨⟨h1,h2⟩,h3⟩,h4⟩,h5⟩:=h;exact ⟨h1,h2,h3,h4,fun p hp=>(h5 p hp).1,fun p hp e=>(h5 p hp).2.elim (fun q=>absurd e q) id⟩
mutual
def ckS (sc:Scope)(hot:Bool)(lp:Pos):Stmt→Bool
 |.Expr (.Call (.Attribute (.Name x _) _ ap) as [] p) _=>nm x&&(ap.endLine == p.line)&&decide (as.length < 20)&&ckEs (isK' sc .globalImplicit) (isK' sc .cell) as
 |.Expr (.Call (.Attribute (.Attribute (.Name x _) _ _) _ ap) as [] p) _=>nm x&&(ap.endLine == p.line)&&decide (as.length < 20)&&ckEs (isK' sc .globalImplicit) (isK' sc .cell) as
 |.Expr e _=>Zit e&&Zfq e&&ckE (isK' sc .globalImplicit) (isK' sc .cell) e
 |.Pass _=>true
 |.Continue _=>true
 |.Return none _=>true
 |.Return (some e) _=>Zo3 e&&ckE (isK' sc .globalImplicit) (isK' sc .cell) e
 |.Assign [.Name x _] (.Call (.Name kn _) [.Lambda ⟨[],[],none,[],[],none,[]⟩ b s p] [] _) _=>
  hot&&kn == "_law_kept"&&lc sc x&&decide (p=lp)&&Zfg (isK' sc .cell) s&&isK' sc .globalImplicit "_law_kept"&&ckE (isK' s .globalImplicit) (isK' s .free) b
 |.Assign [.Name x _] v _=>lc sc x&&Zfo v&&ckE (isK' sc .globalImplicit) (isK' sc .cell) v
 |.Assign [.Attribute (.Name x _) a _] v _=>if a == "attrs"||a == "shared" then nm x&&ckE (isK' sc .globalImplicit) (isK' sc .cell) v else true
 |.Assign [.Subscript (.Name x _) i _] v _=>nm x&&ckE (isK' sc .globalImplicit) (isK' sc .cell) v&&ckE (isK' sc .globalImplicit) (isK' sc .cell) i
 |.Assign [.Subscript (.Attribute (.Name x _) _ _) i _] v _=>nm x&&ckE (isK' sc .globalImplicit) (isK' sc .cell) v&&ckE (isK' sc .globalImplicit) (isK' sc .cell) i
 |.Assign [.Tuple ns _ _] v _=>(match Zaj ns with | some xs=>xs.all (lc sc) | none=>false)&&Zjr v&&ckE (isK' sc .globalImplicit) (isK' sc .cell) v
 |.AugAssign (.Name x _) _ v _=>lc sc x&&nm x&&ckE (isK' sc .globalImplicit) (isK' sc .cell) v
 |.Delete [.Subscript (.Attribute (.Name x _) _ _) i _] _=>nm x&&ckE (isK' sc .globalImplicit) (isK' sc .cell) i
 |.If t b o _=>ckT (isK' sc .globalImplicit) (isK' sc .cell) t (ckE (isK' sc .globalImplicit) (isK' sc .cell) t)&&ckSs sc hot lp b&&ckSs sc hot lp o
 |.For (.Name x _) it b [] _=>lc sc x&&Zej it&&ckE (isK' sc .globalImplicit) (isK' sc .cell) it&&ckSs sc hot lp b
 |.While t b [] _=>ckT (isK' sc .globalImplicit) (isK' sc .cell) t (ckE (isK' sc .globalImplicit) (isK' sc .cell) t)&&ckSs sc hot lp b
 |.Raise (some (.Call (.Name rn _) [e] [] _)) none _=>rn == "Refusal"&&isK' sc .globalImplicit "Refusal"&&Z7 e&&ckE (isK' sc .globalImplicit) (isK' sc .cell) e
 |.Try ..=>true
 |_=>false
def ckSs (sc:Scope)(hot:Bool)(lp:Pos):List Stmt→Bool
 |[]=>true
 |s::r=>ckS sc hot lp s&&ckSs sc hot lp r
end
section
variable {prog:Program}{c:Cx}{d:Nat}{G:Calls}{A₀ A:Around}{env:PySem.Env}{I:FnI}
theorem Zaw {x:Str}(h:nm x=true):(x == ("__debug__":Str))=false∧(x == ("__classdict__":Str))=false:=by
 simpa [nm] using h
theorem EnvF.kind (E:EnvF I env)(x:Str):env.kindOf x=I.scope.names.lookup x:=by show env.scope.names.lookup x=_;rw [E.scope]
theorem Zcw (E:EnvF I env){x:Str}(h:lc I.scope x=true):env.kindOf x=some .local∨env.kindOf x=some .cell:=by
 rw [E.kind];simpa [lc,isK'] using h
theorem Zuz (K:Ctx prog c d G)(E:EnvF I env)(RA:Room (4 * d+3) A){x:Str}{px pos:Pos}{v:Expr}(h1:lc I.scope x=true)(h2:Zfo v=true)(h3:ckE (isK' I.scope .globalImplicit) (isK' I.scope .cell) v=true):
  Sd prog c A₀ A env G (.Assign [.Name x px] v pos):=by
 have R1:Room (4 * d+1) A:=RA.mono (by omega);have S:=E.envS;have hk:=Zcw E h1;obtain ⟨b,hb⟩:=Zmf (v:=v) (x:=x) (p:=px) (l:=pos.line) (env:=env)
 cases b with
 |false=>exact SSnd.assign hk hb (Zq K v R1 S h3)
 |true=>
  unfold Zfo at h2;split at h2
  ·unfold ckE at h3;simp only [Bool.and_eq_true] at h3;obtain ⟨⟨⟨⟨g1,g2⟩,g3⟩,g4⟩,g5⟩:=h3;exact SSnd.assign_list S (Zdt g1) hk hb (Zq K _ R1 S g3) (fun cl C S'=>ckTs_ok K _ R1 S' g4) (fun cl C S'=>Zq K _ R1 S' g5) (Zc1 g2 env)
  ·unfold ckE at h3;simp only [Bool.and_eq_true] at h3;obtain ⟨⟨⟨⟨⟨g1,g2⟩,g3⟩,g4⟩,g5⟩,g6⟩:=h3;exact SSnd.assign_dict K.F S (Zdt g1) hk hb (Zq K _ R1 S g3) (fun cl C S'=>ckTs_ok K _ R1 S' g4) (fun cl C S'=>Zq K _ R1 S' g5) (fun cl C S'=>Zq K _ R1 S' g6) (Zc1 g2 env)
  ·rw [Zfb h2] at hb;exact SSnd.assign hk (Zfb h2) (Zq K v R1 S h3)
mutual
theorem Zt2 (K:Ctx prog c d G)(E:EnvF I env)(hkind:I.scope.kind=.function){hot:Bool}(hh:hot=true→EnvC c env)(RA:Room (4 * d+3) A)(st:Stmt)(h:ckS I.scope hot c.lamPos st=true):Sd prog c A₀ A env G st:=by
 have R1:Room (4 * d+1) A:=RA.mono (by omega);have S:=E.envS;have hi:interactive env=false:=by
  unfold interactive;rw [E.scope,hkind];rfl
 have room:A.depth+1 < recursionLimit:=by have:=RA.1;show _ < 1000;omega
 unfold ckS at h;split at h
 ·simp only [Bool.and_eq_true,decide_eq_true_eq] at h;obtain ⟨⟨⟨h1,h2⟩,h3⟩,h4⟩:=h;obtain ⟨d1,d2⟩:=Zaw h1;obtain ⟨s1,s2,_⟩:=ckEs_ok K _ R1 S h4;exact Sd.mutm d1 d2 h2 h3 s1 hi fun old L q=>Snd.row s1 fun e he=>s2 e he old L
 ·simp only [Bool.and_eq_true,decide_eq_true_eq] at h;obtain ⟨⟨⟨h1,h2⟩,h3⟩,h4⟩:=h;obtain ⟨d1,d2⟩:=Zaw h1;obtain ⟨s1,s2,_⟩:=ckEs_ok K _ R1 S h4;exact Sd.muti K.F d1 d2 h2 h3 s1 hi fun old L q=>Snd.row s1 fun e he=>s2 e he old L
 ·simp only [Bool.and_eq_true] at h;exact Sd.expr h.1.1 hi (Zfb h.1.2) (Zq K _ R1 S h.2)
 ·exact Sd.pass
 ·exact Sd.continue_
 ·exact Sd.ret0
 ·simp only [Bool.and_eq_true] at h;exact Sd.ret (fun x p q=>by subst q;exact Zaw h.1) (Zq K _ R1 S h.2)
 ·rename_i x px kn np b s p cp pos;simp only [Bool.and_eq_true,beq_iff_eq,decide_eq_true_eq] at h;obtain ⟨⟨⟨⟨⟨⟨h1,rfl⟩,h3⟩,rfl⟩,h5⟩,h6⟩,h7⟩:=h;obtain ⟨fk,KF⟩:=K.kept;refine SSnd.assign (Zcw E h3) rfl fun old L=>?_
  exact Snd.kept K.F K.exc K.get K.lam KF S (hh h1) (Znt h5) (S.glob _ h6) room fun kenv le S'=>Zq K b (Room.deeper (Room.deeper RA)) S' h7
 ·simp only [Bool.and_eq_true] at h;exact Zuz K E RA h.1.1 h.1.2 h.2
 ·split at h
  ·simp only [Bool.and_eq_true] at h;obtain ⟨d1,d2⟩:=Zaw h.1;exact Sd.setattr K.F K.N d1 d2 Zmg (Zq K _ R1 S h.2)
  ·rename_i hn;refine SSnd.never fun L σ=>?_
   rw [Zi,if_neg (by simpa using hn)];rfl
 ·simp only [Bool.and_eq_true] at h;obtain ⟨d1,d2⟩:=Zaw h.1.1;exact Sd.setkey d1 d2 Zhr (Zq K _ R1 S h.1.2) (Zq K _ R1 S h.2)
 ·simp only [Bool.and_eq_true] at h;obtain ⟨d1,d2⟩:=Zaw h.1.1;exact Sd.setin K.F d1 d2 Zhr (Zq K _ R1 S h.1.2) (Zq K _ R1 S h.2)
 ·simp only [Bool.and_eq_true] at h;obtain ⟨⟨h1,h2⟩,h3⟩:=h;split at h1
  ·rename_i xs hx;have hw:∀{v:Expr} {es:List Expr} {kx:_} {tp:Pos} {l:Nat},Zjr v=true→swapsWithSole [.Tuple es kx tp] v l env=pure false∧swappedStores [.Tuple es kx tp] v env=pure none:=by
    intro v es kx tp l hv;cases v<;>first | (cases hv;done) | exact ⟨rfl,rfl⟩
   obtain ⟨w1,w2⟩:=hw h2;exact Sd.tuple hx (fun x hx=>Zcw E (List.all_eq_true.mp h1 x hx)) w1 w2 (Zq K _ R1 S h3)
  ·cases h1
 ·simp only [Bool.and_eq_true] at h;exact Sd.aug (Zcw E h.1.1) (Zaw h.1.2).2 (Zq K _ R1 S h.2)
 ·simp only [Bool.and_eq_true] at h;obtain ⟨d1,d2⟩:=Zaw h.1;exact Sd.delin K.F d1 d2 (Zq K _ R1 S h.2)
 ·simp only [Bool.and_eq_true] at h;exact Sd.if_ (ckT_ok K _ R1 S h.1.1) (ckSs_ok K E hkind hh RA _ h.1.2) (ckSs_ok K E hkind hh RA _ h.2)
 ·simp only [Bool.and_eq_true] at h;obtain ⟨⟨⟨h1,h2⟩,h3⟩,h4⟩:=h;exact Sd.for_ (Zcw E h1) (Zc1 h2 env) (Zq K _ R1 S h3) (ckSs_ok K E hkind hh RA _ h4)
 ·simp only [Bool.and_eq_true] at h;exact Sd.while_ (ckT_ok K _ R1 S h.1) (ckSs_ok K E hkind hh RA _ h.2)
 ·simp only [Bool.and_eq_true,beq_iff_eq] at h;obtain ⟨⟨⟨rfl,h2⟩,h3⟩,h4⟩:=h;exact SSnd.raise K.F K.exc (S.glob _ h2) room h3 (Zq K _ R1 S h4)
 ·refine SSnd.never fun L σ=>?_
  rw [Zi]
  ·rfl
  all_goals (intros;contradiction)
 ·cases h
termination_by sizeOf st
theorem ckSs_ok (K:Ctx prog c d G)(E:EnvF I env)(hkind:I.scope.kind=.function){hot:Bool}(hh:hot=true→EnvC c env)(RA:Room (4 * d+3) A)(b:List Stmt)(h:ckSs I.scope hot c.lamPos b=true):Sds prog c A₀ A env G b:=by
 cases b with
 |nil=>exact Sds.nil
 |cons s r=>
  unfold ckSs at h;rw [Bool.and_eq_true] at h;exact Sds.cons (Zt2 K E hkind hh RA s h.1) (ckSs_ok K E hkind hh RA r h.2)
termination_by sizeOf b
end
end
def J9 (n:Str):Option FnI:=PySem.Challenge.pw_nz0494_01.main.body.findSome? (fnI? n)
def Zeb:Pos:={ line:=627,col:=25,endLine:=627,endCol:=57 }
def Zk2 (n:Str):Bool:=match J9 n with
 |some I=>fnOk I&&ckSs I.scope (n == "law") Zeb I.body
 |none=>false
theorem Zu4:defNames.all Zk2=true:=by decide +kernel
theorem Zt3 {n:Str}{I:FnI}(h:n∈defNames)(e:J9 n=some I):fnOk I=true∧ckSs I.scope (n == "law") Zeb I.body=true:=by
 have:=List.all_eq_true.mp Zu4 n h;unfold Zk2 at this;rw [e] at this;simpa using this
theorem Zgd {f:Str}:∀(l:List Stmt),l.findSome? (fnOf? f)=(l.findSome? (fnI? f)).map fun I=>⟨I.params,I.body⟩
 |[]=>rfl
 |s::l=>by
  rw [List.findSome?_cons,List.findSome?_cons];have:fnOf? f s=(fnI? f s).map fun I=>⟨I.params,I.body⟩:=by
   cases s<;>first | rfl | skip
   rename_i m _ _ _ _ _ _ _ _ _
   by_cases hm:m=f
   ·unfold fnOf? fnI?;dsimp only;rw [if_pos hm,if_pos hm];rfl
   ·unfold fnOf? fnI?;dsimp only;rw [if_neg hm,if_neg hm];rfl
  rw [this]
  cases fnI? f s with
  |none=>exact Zgd l
  |some I=>rfl
theorem Zeu {f:Str}{I:FnI}:∀(l:List Stmt),l.findSome? (fnI? f)=some I→f∈Zge l
 |[],h=>by cases h
 |s::l,h=>by
  rw [List.findSome?_cons] at h;unfold Zge;rw [List.filterMap_cons];cases s<;>first
   |(have q:=Zeu l h;exact q)
   |skip
  rename_i m _ _ _ _ _ _ _ _ _
  by_cases hm:m=f
  ·subst hm;exact List.mem_cons_self
  ·refine List.mem_cons_of_mem _ (Zeu (I:=I) l ?_);rw [←h];have:∀a b c d e g sc t u,fnI? f (.FunctionDef m a b c d e g sc t u)=none:=fun a b c d e g sc t u=>if_neg hm
   rw [this]
structure DefsAt (c:Cx):Prop where
 at_:∀n I,J9 n=some I→∃fa cd qn,c.mg n=some (.ref fa)∧keepIn c.K (.ref fa)=true∧FnAt c I fa cd qn∧(n="law"→cd=.ref c.code∧qn++".<locals>."++"<lambda>"=c.lamQual)
structure Base (prog:Program) (c:Cx):Prop where
 F:Facts c
 N:ClsFacts c
 D:DefsAt c
 exc:ExcFacts c
 get:ExcGet c
 lam:LamFacts c
 kept:∃fk,KeptAt c fk
 pos:c.lamPos=Zeb
theorem Ztp:∀n∈defNames,(J9 n).isSome=true:=by decide +kernel
theorem Ztq:∀n∈deadNames,J9 n=none:=by decide +kernel
theorem Zk5 {prog:Program}{c:Cx}(B:Base prog c):∀(d:Nat) (A:Around),Room (4 * d) A→GOk prog c A (Zd d)
 |0,A,_=>fun f ts vs Γ σ s P rl ne=>absurd rfl ne
 |d+1,A,RA=>by
  have K:Ctx prog c d (Zd d):=by
   refine ⟨B.F,B.N,fun fn h=>?_,fun A' R=>Zk5 B d A' R,fun fn h ts=>?_,B.exc,B.get,B.lam,B.kept⟩
   ·obtain ⟨I,hI⟩:=Option.isSome_iff_exists.mp (Ztp fn h);obtain ⟨fa,cd,qn,h1,h2,_⟩:=B.D.at_ fn I hI;exact ⟨fa,h1,h2⟩
   ·cases d with
    |zero=>rfl
    |succ d=>
     unfold Zd;have:fnOf fn=none:=by unfold fnOf;rw [Zgd];rw [show List.findSome? (fnI? fn) _=none from Ztq fn h];rfl
     rw [this]
  intro f ts vs Γ σ s P rl ne;unfold Zd at ne ⊢;have hfn:fnOf f=(J9 f).map fun I=>⟨I.params,I.body⟩:=Zgd _
  cases hd:J9 f with
  |none=>rw [hd] at hfn;rw [hfn] at ne;exact absurd rfl ne
  |some I=>
   rw [hd] at hfn;rw [hfn] at ne ⊢;dsimp only [Option.map_some] at ne ⊢;obtain ⟨c1,c2⟩:=Zt3 (Zeu _ hd) hd;obtain ⟨fa,cd,qn,h1,h2,h3,h4⟩:=B.D.at_ f I hd;have okF:=Zr9 c1;refine ⟨fa,h1,Zt8 B.F h3 okF P rl (by have:=RA.1;show _ < 1000;omega) (fun env EF hc hq=>?_) ne⟩;rw [←B.pos] at c2;have RA':Room (4 * d+3) (A.deeper env):=Room.deeper (RA.mono (by omega));refine ckSs_ok K EF okF.kind (fun hot=>?_) RA' I.body c2;have hf:=eq_of_beq hot;obtain ⟨q1,q2⟩:=h4 hf;exact ⟨hc.trans q1,by rw [hq];exact q2⟩
noncomputable abbrev KK (P:Params):Frag:=nz_hd.heap_39 P
def lamQ:Str:="law"++".<locals>."++"<lambda>"
noncomputable def cxOf (w:World) (h:Heap) (mg mb:Str→Option Value):Cx:=
 { w:=w,base:=cutH (fun a=>a=495) h,mg:=mg,mb:=mb,vec:=196,nul:=167,exc:=51,K:=KK w.params,lamPos:=Zeb,lamQual:=lamQ,code:=497,tab:=495 }
def Zdd (K:Frag)(cd:Value)(q:Str):Bool:=match cd with
 |.ref a=>(match K.lookup a with
  |some o=>(match o.data with
   |.fields vs=>(match (vs[1]?:Option Value) with
    |some (.str q' _)=>q' == q
    |_=>false)
   |_=>false)
  |none=>false)
 |_=>false
theorem Zex {K:Frag}{h:Heap}{cd:Value}{q:Str}(X:K.In h)(e:Zdd K cd q=true):h.CodeRec cd q:=by
 unfold Zdd at e;split at e
 ·rename_i a;split at e
  ·rename_i o ho;split at e
   ·rename_i vs hd;split at e
    ·rename_i q' t hq;have:=eq_of_beq e;subst this;exact ⟨a,o,vs,t,rfl,X _ _ ho,hd,hq⟩
    ·cases e
   ·cases e
  ·cases e
 ·cases e
def Qs (K:Frag)(a:Addr):Option FuncData:=match K.lookup a with
 |some o=>(match o.data with
  |.func fd=>some fd
  |_=>none)
 |none=>none
theorem Zeh {K:Frag}{h:Heap}{a:Addr}{fd:FuncData}(X:K.In h)(e:Qs K a=some fd):∃o,h.get? a=some o∧o.data=.func fd:=by
 unfold Qs at e;split at e
 ·rename_i o ho;split at e
  ·rename_i fd' hd;cases e;exact ⟨o,X _ _ ho,hd⟩
  ·cases e
 ·cases e
def Zbc (K:Frag)(n:Str):Addr:=match nsIn K mainGlobals n with
 |some (some (.ref a))=>a
 |_=>0
def fnB (K:Frag)(n:Str):Bool:=match nsIn K mainGlobals n,Qs K (Zbc K n) with
 |some (some (.ref _)),some fd=>keepIn K (.ref (Zbc K n))&&(fd.globals == mainGlobals)&&fd.closure.isEmpty&&(fd.builtins == builtinsNs)&&Zdd K fd.code fd.qualname
 |_,_=>false
def Zld (K:Frag)(n:Str):Setting→(Nat→Value)→Option (List (Str×Value)):=fun S v=>match Qs K (Zbc K n),J9 n with
 |some fd,some I=>PySem.W.peek K S (bindArgs fd ⟨(List.range I.params.length).map v,[]⟩)
 |_,_=>none
def Zlc (n:Str):Setting→(Nat→Value)→Option (List (Str×Value)):=fun _ v=>match J9 n with
 |some I=>some (I.params.zip ((List.range I.params.length).map v))
 |none=>none
section
variable (P:Params)
theorem Zsa:(defNames.map (fnB (KK P)))=defNames.map fun _=>true:=by kernel_rfl
theorem Zue:(defNames.map fun n=>(Qs (KK P) (Zbc (KK P) n)).map fun fd=>(fd.body,fd.scope))=defNames.map fun n=>(J9 n).map fun I=>(FuncBody.stmts I.body,I.scope):=by kernel_rfl
theorem Zuf:defNames.map (Zld (KK P))=defNames.map Zlc:=by kernel_rfl
theorem Zq2:(Qs (KK P) (Zbc (KK P) "law")).map (fun fd=>(fd.code,fd.qualname))=some (Value.ref 497,("law":Str)):=by kernel_rfl
end
section
variable {w:World}{h:Heap}{mg mb:Str→Option Value}
theorem Zcb (X:(KK w.params).In h):(KK w.params).In (cutH (fun a=>a=495) h):=by
 intro a o e;rw [Za8]
 ·exact X a o e
 ·rintro rfl
  have:(KK w.params).lookup 495=none:=by kernel_rfl
  rw [this] at e;cases e
theorem Zgv (ht:h.get? 495=some (tabObj #[])){a:Addr}{m:Str→Option Value}(n:h.Ns a m):(cutH (fun a=>a=495) h).Ns a m:=by
 obtain ⟨o,es,ep,q1,q2,q3⟩:=n;refine ⟨o,es,ep,?_,q2,q3⟩;rw [Za8]
 ·exact q1
 ·rintro rfl
  rw [ht] at q1;cases q1;cases q2
theorem Zn7 (vs:List Value):(List.range vs.length).map (fun i=>vs.getD i .none)=vs:=by
 apply List.ext_getElem?;intro i;rw [List.getElem?_map]
 by_cases hi:i < vs.length
 ·rw [List.getElem?_range hi];simp [List.getD,hi]
 ·rw [List.getElem?_eq_none (by simpa using hi),List.getElem?_eq_none (by omega)];rfl
theorem Ztn (X:(KK w.params).In h)(ht:h.get? 495=some (tabObj #[]))(g:h.Ns mainGlobals mg):DefsAt (cxOf w h mg mb):=by
 constructor;intro n I hI;have hn:=Zeu _ hI;have X':=Zcb X;have b1:=List.map_inj_left.mp (Zsa w.params) n hn;have b2:=List.map_inj_left.mp (Zue w.params) n hn;have b3:=List.map_inj_left.mp (Zuf w.params) n hn;unfold fnB at b1;split at b1
 ·rename_i a fd ha hf;simp only [Bool.and_eq_true,beq_iff_eq,List.isEmpty_iff] at b1;obtain ⟨⟨⟨⟨c1,c2⟩,c3⟩,c4⟩,c5⟩:=b1;rw [hf,hI] at b2;simp only [Option.map_some,Option.some.injEq,Prod.mk.injEq] at b2;have haddr:Zbc (KK w.params) n=a:=by unfold Zbc;rw [ha]
  obtain ⟨o,ho,hd⟩:=Zeh X' hf;refine ⟨Zbc (KK w.params) n,fd.code,fd.qualname,?_,c1,⟨o,fd,ho,hd,b2.1,b2.2,c2,c3,c4,Zex X' c5,rfl,rfl,?_⟩,?_⟩
  ·rw [haddr];exact mg_of X g ha
  ·intro s vals kp hl;unfold Zld Zlc at b3;rw [hf,hI] at b3;dsimp only at b3;have b4:∀S,PySem.W.peek (KK w.params) S (bindArgs fd ⟨vals,[]⟩)=some (I.params.zip vals):=fun S=>by
    have q:=congrFun (congrFun b3 S) fun i=>vals.getD i .none
    rw [←hl,Zn7] at q;exact q
   exact kp_binds (X'.keeps kp) b4
  ·rintro rfl
   have q:=Zq2 w.params;rw [hf] at q;simp only [Option.map_some,Option.some.injEq,Prod.mk.injEq] at q;exact ⟨q.1,by rw [q.2];rfl⟩
 ·cases b1
theorem Zj2 {K:Frag}{C:Addr}(e:(clsIn K C).any (·.hasDict)=true):∃cd,clsIn K C=some cd∧cd.hasDict=true:=by
 cases q:clsIn K C with
 |none=>rw [q] at e;cases e
 |some cd=>rw [q] at e;exact ⟨cd,rfl,e⟩
theorem J3 {α β:Type}{f g:α→β}{l:List α}(e:l.map f=l.map g):∀x∈l,f x=g x:=List.map_inj_left.mp e
theorem Zsf (X:(KK w.params).In h)(ht:h.get? 495=some (tabObj #[]))(g:h.Ns mainGlobals mg)(b:h.Ns builtinsNs mb)(nl:h.NoLimit)(bt:∀x:Str,x≠"__name__"→mb x=bootBuiltins x):Facts (cxOf w h mg mb):=by
 refine ⟨Zcb X,⟨?_,?_,?_⟩,⟨?_,?_,?_⟩,?_,?_,?_,?_,?_,?_,?_,Zgv ht g,Zgv ht b,?_,?_⟩
 ·show findIn (KK w.params) (.ref 196) "__getattribute__"=_;kernel_rfl
 ·exact Zj2 (show (clsIn (KK w.params) 196).any (·.hasDict)=true by kernel_rfl)
 ·exact J3 (show (["kind","items","attrs","shared","loose"]:List Str).map (fun n=>findIn (KK w.params) (.ref 196) n)=(["kind","items","attrs","shared","loose"]:List Str).map fun _=>some none by kernel_rfl)
 ·show findIn (KK w.params) (.ref 167) "__getattribute__"=_;kernel_rfl
 ·exact Zj2 (show (clsIn (KK w.params) 167).any (·.hasDict)=true by kernel_rfl)
 ·exact J3 (show (["kind","attrs"]:List Str).map (fun n=>findIn (KK w.params) (.ref 167) n)=(["kind","attrs"]:List Str).map fun _=>some none by kernel_rfl)
 ·show isIn (KK w.params) (.ref 196) 196=true;kernel_rfl
 ·show kin_not (KK w.params) 167 196=true;kernel_rfl
 ·intro C hC;have hC:C=196∨C=167:=by have hC:C∈([196,167]:List Addr):=hC;simpa using hC
  rcases hC with rfl | rfl
  ·refine ⟨?_,?_,?_,?_,?_⟩
   ·show kin_notT (KK w.params) 196 "str"=true;kernel_rfl
   ·show plainGet (KK w.params) 196 "__class__"=true;kernel_rfl
   ·show hasDictIn (KK w.params) 196=true;kernel_rfl
   ·show findIn (KK w.params) (.ref 196) "__class__"=some (some (.builtin "object.__class__"));kernel_rfl
   ·show mroIn (KK w.params) 196 (.type "object")=some true;kernel_rfl
  ·refine ⟨?_,?_,?_,?_,?_⟩
   ·show kin_notT (KK w.params) 167 "str"=true;kernel_rfl
   ·show plainGet (KK w.params) 167 "__class__"=true;kernel_rfl
   ·show hasDictIn (KK w.params) 167=true;kernel_rfl
   ·show findIn (KK w.params) (.ref 167) "__class__"=some (some (.builtin "object.__class__"));kernel_rfl
   ·show mroIn (KK w.params) 167 (.type "object")=some true;kernel_rfl
 ·show specialIn (KK w.params) (.builtin "object.__class__") "__get__"=some (some (.builtin "getset_descriptor.__get__"));kernel_rfl
 ·show takesIn (KK w.params) (.builtin "object.__class__")=some true;kernel_rfl
 ·exact mg_of X g (show nsIn (KK w.params) mainGlobals "Vector"=some (some (.ref 196)) by kernel_rfl)
 ·intro p hp;have n1:=J3 (show bltTable.map (fun p=>nsIn (KK w.params) mainGlobals p.1)=bltTable.map fun _=>some none by kernel_rfl) p hp;have n2:=J3 (show bltTable.map (fun p=>bootBuiltins p.1)=bltTable.map fun p=>some p.2 by kernel_rfl) p hp;have n3:p.1≠"__name__":=by
   have:=J3 (show bltTable.map (fun p=>p.1 == ("__name__":Str))=bltTable.map fun _=>false by kernel_rfl) p hp;simpa using this
  exact ⟨mg_none_of X g n1,(bt _ n3).trans n2⟩
 ·obtain ⟨mc,q1,q2⟩:=nl;exact ⟨mc,Zgv ht q1,q2⟩
 ·exact ⟨388,mg_of X g (show nsIn (KK w.params) mainGlobals "MOST_LENGTH"=some (some (.int 1000000 388)) by kernel_rfl)⟩
end
end Mine
end
section
namespace Mine
open PySem PySem.W PyProof.Rows PySem.SeqAt PySem.Builtin PySem.Builtin.ObjectAttr
theorem Zo1 {K:Frag}{h:Heap}{N:Addr}{m:Str→Option Value}{n:Str}{v:Value}(X:K.In h)(G:h.Ns N m)(e:nsIn K N n=some (some v)):m n=some v:=by
 obtain ⟨o,es,ep,ho,hd,_,hf⟩:=G;unfold nsIn at e;split at e
 ·rename_i c d es' n' sl q;have:=X _ _ q;rw [ho] at this;cases this;cases hd;split at e
  ·rename_i en he;cases e;rw [←hf];unfold nsFind findBy;rw [←Array.find?_toList,he];rfl
  ·split at e<;>cases e
 ·cases e
def J6 (n:Str):FnI:=(PySem.Challenge.pw_nz0494_01.main.body.findSome? (initI? n)).getD ⟨[],[],default⟩
def Zhl:List (Str×IE):=[("kind",.name "kind"),("items",.name "items"),("attrs",.name "attrs"),("shared",.bool false),("loose",.bool false)]
def Ziq:List (Str×IE):=[("kind",.str "NULL"),("attrs",.none)]
theorem Zlv:InitF (J6 "Vector") ["self","kind","items","attrs"] Zhl:=by
 refine ⟨by kernel_rfl,by kernel_rfl,by kernel_rfl,?_,?_,by kernel_rfl,by decide +kernel,?_,by simp,by decide +kernel⟩
 ·exact fun x hx=>by
   have:=J3 (show (J6 "Vector").scope.names.map (fun x=>x.2 == .cell)=(J6 "Vector").scope.names.map fun _=>false by kernel_rfl) x hx;simpa using this
 ·exact J3 (show (["self","kind","items","attrs"]:List Str).map (fun x=>(J6 "Vector").scope.names.lookup x)=(["self","kind","items","attrs"]:List Str).map fun _=>some .local by kernel_rfl)
 ·intro p hp y hy;simp only [Zhl,List.mem_cons,List.mem_nil_iff,or_false] at hp;rcases hp with rfl | rfl | rfl | rfl | rfl<;>first | (cases hy;simp;done) | cases hy
theorem Zoy:InitF (J6 "Null") ["self"] Ziq:=by
 refine ⟨by kernel_rfl,by kernel_rfl,by kernel_rfl,?_,?_,by kernel_rfl,by decide +kernel,?_,by simp,by decide +kernel⟩
 ·exact fun x hx=>by
   have:=J3 (show (J6 "Null").scope.names.map (fun x=>x.2 == .cell)=(J6 "Null").scope.names.map fun _=>false by kernel_rfl) x hx;simpa using this
 ·exact J3 (show (["self"]:List Str).map (fun x=>(J6 "Null").scope.names.lookup x)=(["self"]:List Str).map fun _=>some .local by kernel_rfl)
 ·intro p hp y hy;simp only [Ziq,List.mem_cons,List.mem_nil_iff,or_false] at hp;rcases hp with rfl | rfl<;>cases hy
def Zy (K:Frag)(C:Addr):ClassData:=match clsIn K C with
 |some cd=>cd
 |none=>default
section
variable {w:World}{h:Heap}{mg mb:Str→Option Value}
theorem Zfd {K:Frag}{C:Addr}{ns:List Str}(h1:findIn K (.ref C) "__setattr__"=some (some (.builtin "object.__setattr__")))(h2:clsIn K C=some (Zy K C))(h3:(Zy K C).hasDict=true)(h4:(Zy K C).mro.isEmpty=false)
  (h5:(Zy K C).mro.contains (.type "object")=true) (h6:(fun self=>refuseLoop self "__setattr__" (Zy K C).mro)=fun _=>pure ()) (h7:ns.map (fun n=>takerIn K C n)=ns.map fun _=>some none):StF K C ns:=
 ⟨h1,⟨_,h2,h3,h4,h5,fun self=>congrFun h6 self⟩,J3 h7⟩
theorem Zjx {C:Addr}{k:Nat}{fI:Addr}{I:FnI}{binds:Value→List Value→List (Str×Value)}(X:(KK w.params).In h)(hC:findIn (KK w.params) (.ref C) "__init__"=some (some (.ref fI)))(ht:typeIn (KK w.params) (.ref fI)=some (.type "function"))
  (hf:(Qs (KK w.params) fI).map (fun fd=>(fd.body,fd.scope,fd.globals,fd.closure,fd.builtins,Zdd (KK w.params) fd.code fd.qualname))=some (.stmts I.body,I.scope,mainGlobals,[],builtinsNs,true))
  (hb:∀fd,Qs (KK w.params) fI=some fd→∀S x vals,vals.length=k→PySem.W.peek (KK w.params) S (bindArgs fd ⟨x::vals,[]⟩)=some (binds x vals)):InitAt (cxOf w h mg mb) I C k binds:=by
 have X':=Zcb X
 cases q:Qs (KK w.params) fI with
 |none=>rw [q] at hf;cases hf
 |some fd=>
  rw [q] at hf;simp only [Option.map_some,Option.some.injEq,Prod.mk.injEq] at hf;obtain ⟨f1,f2,f3,f4,f5,f6⟩:=hf;obtain ⟨o,ho,hd⟩:=Zeh X' q;exact ⟨fI,o,fd,hC,ht,ho,hd,f1,f2,f3,f4,f5,Zex X' f6,fun s x vals kp hl=>kp_binds (X'.keeps kp) (fun S=>hb fd q S x vals hl)⟩
def Za4 (K:Frag)(C:Addr):Addr:=match findIn K (.ref C) "__init__" with
 |some (some (.ref a))=>a
 |_=>0
theorem Zlw (P:Params):(fun (S:Setting) (x a b:Value)=>(Qs (KK P) (Za4 (KK P) 196)).bind fun fd=>PySem.W.peek (KK P) S (bindArgs fd ⟨[x,a,b],[]⟩))=fun _ x a b=>some [(("self":Str),x),(("kind":Str),a),(("items":Str),b),(("attrs":Str),Value.none)]:=by kernel_rfl
theorem Zoz (P:Params):(fun (S:Setting) (x:Value)=>(Qs (KK P) (Za4 (KK P) 167)).bind fun fd=>PySem.W.peek (KK P) S (bindArgs fd ⟨[x],[]⟩))=fun _ x=>some [(("self":Str),x)]:=by kernel_rfl
theorem Ztu (X:(KK w.params).In h)(g:h.Ns mainGlobals mg):ClsFacts (cxOf w h mg mb):=by
 refine ⟨?_,?_,Zfd ?_ ?_ ?_ ?_ ?_ ?_ ?_,Zfd ?_ ?_ ?_ ?_ ?_ ?_ ?_,⟨J6 "Vector",Zjx (fI:=Za4 (KK w.params) 196) X ?_ ?_ ?_ ?_,Zlv⟩,⟨J6 "Null",Zjx (fI:=Za4 (KK w.params) 167) X ?_ ?_ ?_ ?_,Zoy⟩,?_,?_,?_⟩
 ·show makesIn (KK w.params) 196=true;kernel_rfl
 ·show makesIn (KK w.params) 167=true;kernel_rfl
 ·show findIn (KK w.params) (.ref 196) "__setattr__"=_;kernel_rfl
 ·show clsIn (KK w.params) 196=some (Zy (KK w.params) 196);kernel_rfl
 ·show (Zy (KK w.params) 196).hasDict=true;kernel_rfl
 ·show (Zy (KK w.params) 196).mro.isEmpty=false;kernel_rfl
 ·show (Zy (KK w.params) 196).mro.contains (.type "object")=true;kernel_rfl
 ·show (fun self=>refuseLoop self "__setattr__" (Zy (KK w.params) 196).mro)=fun _=>pure ();kernel_rfl
 ·show (["kind","items","attrs","shared","loose"]:List Str).map (fun n=>takerIn (KK w.params) 196 n)=_;kernel_rfl
 ·show findIn (KK w.params) (.ref 167) "__setattr__"=_;kernel_rfl
 ·show clsIn (KK w.params) 167=some (Zy (KK w.params) 167);kernel_rfl
 ·show (Zy (KK w.params) 167).hasDict=true;kernel_rfl
 ·show (Zy (KK w.params) 167).mro.isEmpty=false;kernel_rfl
 ·show (Zy (KK w.params) 167).mro.contains (.type "object")=true;kernel_rfl
 ·show (fun self=>refuseLoop self "__setattr__" (Zy (KK w.params) 167).mro)=fun _=>pure ();kernel_rfl
 ·show (["kind","attrs"]:List Str).map (fun n=>takerIn (KK w.params) 167 n)=_;kernel_rfl
 ·show findIn (KK w.params) (.ref 196) "__init__"=some (some (.ref (Za4 (KK w.params) 196)));kernel_rfl
 ·show typeIn (KK w.params) (.ref (Za4 (KK w.params) 196))=some (.type "function");kernel_rfl
 ·kernel_rfl
 ·intro fd q S x vals hl;obtain ⟨a,b,rfl⟩:∃a b,vals=[a,b]:=by
   rcases vals with _ | ⟨a,_ | ⟨b,_ | ⟨_,_⟩⟩⟩<;>first | exact ⟨_,_,rfl⟩ | (simp at hl)
  have e:=congrFun (congrFun (congrFun (congrFun (Zlw w.params) S) x) a) b;rw [q] at e;exact e
 ·show findIn (KK w.params) (.ref 167) "__init__"=some (some (.ref (Za4 (KK w.params) 167)));kernel_rfl
 ·show typeIn (KK w.params) (.ref (Za4 (KK w.params) 167))=some (.type "function");kernel_rfl
 ·kernel_rfl
 ·intro fd q S x vals hl;have:vals=[]:=List.length_eq_zero_iff.mp hl;subst this;have e:=congrFun (congrFun (Zoz w.params) S) x;rw [q] at e;exact e
 ·exact mg_of X g (show nsIn (KK w.params) mainGlobals "Null"=some (some (.ref 167)) by kernel_rfl)
 ·show keepIn (KK w.params) (.ref 196)=true;kernel_rfl
 ·show keepIn (KK w.params) (.ref 167)=true;kernel_rfl
end
section
variable {w:World}{h:Heap}{mg mb:Str→Option Value}
noncomputable def excO (K:Frag):Obj:=(K.lookup 51).getD default
def Zrj:FuncBody:=.stmts [.Try [.Return (some (.Call (.Name "ask" ⟨465,15,465,18⟩) [] [] ⟨465,15,465,20⟩)) ⟨465,8,465,20⟩]
 [.ExceptHandler (some (.Name "Refusal" ⟨466,11,466,18⟩)) (some "error") [.Return (some (.Attribute (.Name "error" ⟨467,15,467,20⟩) "message" ⟨467,15,467,28⟩)) ⟨467,8,467,28⟩] ⟨466,4,467,28⟩] [] [] ⟨464,4,467,28⟩]
def Zso:FuncBody:=.stmts [.Assign [.Attribute (.Name "self" ⟨10,8,10,12⟩) "message" ⟨10,8,10,20⟩] (.Name "message" ⟨10,23,10,30⟩) ⟨10,8,10,30⟩]
def Zei (K:Frag)(a:Addr):Option (FuncBody×List (Str×NameKind)×Bool×Addr×List (Str×Addr)×Addr×Bool):=
 (Qs K a).map fun fd=>(fd.body,fd.scope.names,(fd.scope.kind == .function&&!fd.scope.isCoroutine&&!fd.scope.isGenerator),fd.globals,fd.closure,fd.builtins,Zdd K fd.code fd.qualname)
theorem Zvg (P:Params):(fun (x v:Value) (S:Setting)=>(Qs (KK P) 48).bind fun fd=>PySem.W.peek (KK P) S (bindArgs fd ⟨[x,v],[]⟩))=fun x v _=>some [(("self":Str),x),(("message":Str),v)]:=by kernel_rfl
theorem Zsm (P:Params):(fun (x v:Value)=>(Qs (KK P) 48).map fun fd=>bindArgs fd ⟨[x,v],[]⟩)=fun x v=>some (pure [(("self":Str),x),(("message":Str),v)]):=by kernel_rfl
theorem Zrh (P:Params):(fun (v:Value)=>(Qs (KK P) 454).map fun fd=>bindArgs fd ⟨[v],[]⟩)=fun v=>some (pure [(("ask":Str),v)]):=by kernel_rfl
theorem Zsi (X:(KK w.params).In h)(g:h.Ns mainGlobals mg):ExcFacts (cxOf w h mg mb):=by
 have X':=Zcb X;have hf:Zei (KK w.params) 48=some (Zso,([("self",.local),("message",.local)]:List (Str×NameKind)),true,mainGlobals,([]:List (Str×Addr)),builtinsNs,true):=by kernel_rfl
 refine ⟨?_,Zfd ?_ ?_ ?_ ?_ ?_ ?_ ?_,?_,?_⟩
 ·unfold Zei at hf
  cases q:Qs (KK w.params) 48 with
  |none=>rw [q] at hf;cases hf
  |some fd=>
   rw [q] at hf;simp only [Option.map_some,Option.some.injEq,Prod.mk.injEq,Bool.and_eq_true,Bool.not_eq_true',beq_iff_eq] at hf;obtain ⟨f1,f2,⟨⟨f3,f4⟩,f5⟩,f6,f7,f8,f9⟩:=hf;obtain ⟨o,ho,hd⟩:=Zeh X' q;have hns:(cutH (fun a=>a=495) h).isNs 50=true:=isNs_of_in X' (by kernel_rfl);have G:=Heap.Ns.of_isNs hns;refine ⟨"Refusal","Refusal",50,[.ref 31],[.ref 31,.type "Exception",.type "BaseException",.type "object"],[],[],false,none,none,some (.ref 35),none,some (.str "Refusal" 216),some (.str "Refusal" 224),some (.bool true),_,48,o,fd,⟨10,8,10,12⟩,⟨10,8,10,20⟩,⟨10,23,10,30⟩,⟨10,8,10,30⟩,X' 51 _ ?_,tail_of_in X' ?_,?_,G,Zo1 X' G ?_,?_,ho,hd,f1,f3,f4,f5,?_,?_,?_,f6,f7,f8,Zex X' f9,fun s x v=>BindsTo.of_eq ?_⟩
   ·kernel_rfl
   ·kernel_rfl
   ·kernel_rfl
   ·kernel_rfl
   ·show typeIn (KK w.params) (.ref 48)=some (.type "function");kernel_rfl
   ·intro x hx;rw [f2] at hx;simp only [List.mem_cons,List.mem_nil_iff,or_false] at hx;rcases hx with rfl | rfl<;>simp
   ·rw [f2];kernel_rfl
   ·rw [f2];kernel_rfl
   ·have e:=congrFun (congrFun (Zsm w.params) x) v;rw [q] at e;exact Option.some.inj e
 ·show findIn (KK w.params) (.ref 51) "__setattr__"=_;kernel_rfl
 ·show clsIn (KK w.params) 51=some (Zy (KK w.params) 51);kernel_rfl
 ·show (Zy (KK w.params) 51).hasDict=true;kernel_rfl
 ·show (Zy (KK w.params) 51).mro.isEmpty=false;kernel_rfl
 ·show (Zy (KK w.params) 51).mro.contains (.type "object")=true;kernel_rfl
 ·show (fun self=>refuseLoop self "__setattr__" (Zy (KK w.params) 51).mro)=fun _=>pure ();kernel_rfl
 ·show (["message"]:List Str).map (fun n=>takerIn (KK w.params) 51 n)=_;kernel_rfl
 ·exact mg_of X g (show nsIn (KK w.params) mainGlobals "Refusal"=some (some (.ref 51)) by kernel_rfl)
 ·show keepIn (KK w.params) (.ref 51)=true;kernel_rfl
theorem Zr3:ExcGet (cxOf w h mg mb):=by
 refine ⟨?_,?_,?_,Zy (KK w.params) 51,?_,?_,?_,?_⟩
 ·show findIn (KK w.params) (.ref 51) "__getattribute__"=some (some (.builtin "BaseException.__getattribute__"));kernel_rfl
 ·show findIn (KK w.params) (.ref 51) "__getattr__"=some none;kernel_rfl
 ·show findIn (KK w.params) (.ref 51) "message"=some none;kernel_rfl
 ·show clsIn (KK w.params) 51=some (Zy (KK w.params) 51);kernel_rfl
 ·kernel_rfl
 ·kernel_rfl
 ·kernel_rfl
theorem Zq4 (X:(KK w.params).In h)(ht:h.get? 495=some (tabObj #[]))(g:h.Ns mainGlobals mg)
  (bm:∃bm ob,mg "__builtins__"=some (.ref bm)∧bm≠builtinsNs∧h.get? bm=some ob∧ob.cls=.type "module"∧ob.dict=some builtinsNs∧ob.data=.plain):LamFacts (cxOf w h mg mb):=by
 refine ⟨codeHd_of_K (Zcb X) (show codeHdIn (KK w.params) 497 495=true by kernel_rfl),?_,?_⟩
 ·obtain ⟨bm,ob,h1,h2,h3,h4,h5,h6⟩:=bm;have n1:bm≠495:=by rintro rfl;rw [ht] at h3;cases h3;cases h6
  refine ⟨bm,ob,h1,h2,?_,n1,?_,h4,h5,h6⟩
  ·rintro rfl
   obtain ⟨o,es,ep,q1,q2,_⟩:=g;rw [q1] at h3;cases h3;rw [h6] at q2;cases q2
  ·exact (Za8 (S:=fun a=>a=495) n1).trans h3
 ·show (3:Nat)≠495
  decide
theorem Zri (X:(KK w.params).In h)(g:h.Ns mainGlobals mg):KeptAt (cxOf w h mg mb) 454:=by
 have X':=Zcb X;have hf:Zei (KK w.params) 454=some (Zrj,([("ask",.local),("error",.local),("Refusal",.globalImplicit)]:List (Str×NameKind)),true,mainGlobals,([]:List (Str×Addr)),builtinsNs,true):=by kernel_rfl
 refine ⟨mg_of X g (show nsIn (KK w.params) mainGlobals "_law_kept"=some (some (.ref 454)) by kernel_rfl),?_,?_⟩
 ·show keepIn (KK w.params) (.ref 454)=true;kernel_rfl
 ·unfold Zei at hf
  cases q:Qs (KK w.params) 454 with
  |none=>rw [q] at hf;cases hf
  |some fd=>
   rw [q] at hf;simp only [Option.map_some,Option.some.injEq,Prod.mk.injEq,Bool.and_eq_true,Bool.not_eq_true',beq_iff_eq] at hf;obtain ⟨f1,f2,⟨⟨f3,f4⟩,f5⟩,f6,f7,f8,f9⟩:=hf;obtain ⟨o,ho,hd⟩:=Zeh X' q;refine ⟨o,fd,_,_,_,_,_,_,_,_,_,ho,hd,f1,f3,f4,f5,?_,?_,?_,?_,f6,f7,f8,Zex X' f9,fun s v=>BindsTo.of_eq ?_⟩
   ·intro x hx;rw [f2] at hx;simp only [List.mem_cons,List.mem_nil_iff,or_false] at hx;rcases hx with rfl | rfl | rfl<;>simp
   ·rw [f2];kernel_rfl
   ·rw [f2];kernel_rfl
   ·rw [f2];kernel_rfl
   ·have e:=congrFun (Zrh w.params) v;rw [q] at e;exact Option.some.inj e
theorem base_of (prog:Program)(X:(KK w.params).In h)(ht:h.get? 495=some (tabObj #[]))(g:h.Ns mainGlobals mg)(b:h.Ns builtinsNs mb)(nl:h.NoLimit)(bt:∀x:Str,x≠"__name__"→mb x=bootBuiltins x)
  (bm:∃bm ob,mg "__builtins__"=some (.ref bm)∧bm≠builtinsNs∧h.get? bm=some ob∧ob.cls=.type "module"∧ob.dict=some builtinsNs∧ob.data=.plain):Base prog (cxOf w h mg mb):=
 ⟨Zsf X ht g b nl bt,Ztu X g,Ztn X ht g,Zsi X g,Zr3,Zq4 X ht g bm,⟨454,Zri X g⟩,rfl⟩
end
section
variable {w:World}{h:Heap}{mg mb:Str→Option Value}
noncomputable def gh₀ (h:Heap):Gh:={ obj:=fun a=>(cutH (fun a=>a=495) h).get? a,idc:=fun _=>none,moves:=fun a=>a=495,row:=none,self:=none,tab:=495 }
theorem Zts {a:Addr}{o:Obj}(e:(cutH (fun a=>a=495) h).get? a=some o):h.get? a=some o∧a≠495:=by
 by_cases q:a=495
 ·rw [Zbk (S:=fun a=>a=495) q] at e;cases e
 ·rw [Za8 (S:=fun a=>a=495) q] at e;exact ⟨e,q⟩
theorem st₀ (ht:h.get? 495=some (tabObj #[])):St (cxOf w h mg mb) (gh₀ h) {} h:=by
 refine ⟨fun _ _ e=>e,fun _ _ e=>(Zts e).1,fun _ _ e=>(by cases e),fun a e=>?_,fun _ _ e=>(by cases e),rfl,rfl,⟨rfl,rfl⟩,#[],ht,?_,.inl rfl⟩
 ·have e:a=495:=e;subst e;exact ⟨Zbk (S:=fun a=>a=495) rfl,rfl,_,ht⟩
 ·trivial
theorem Zns {L:Addr}{vs:List Value}{script:List Int}(ht:h.get? 495=some (tabObj #[]))(hw:Well w.params h (.ref L) (ofPy (.list (script.map PyData.int))))(hl:h.IsList L vs.toArray)(hi:IntsAre vs script)(hlen:script.length≤63):
  RepL (cxOf w h mg mb) (gh₀ h) [.list (script.map .int)] [.ref L]:=by
 have key:∃n,h.get? L=some (Zt vs n):=by
  obtain ⟨o,h1,h2,n,h3⟩:=hl;unfold ofPy at hw
  cases hw with
  |list e _=>
   rw [h1] at e;cases e;simp only [Data.seq.injEq] at h3;obtain ⟨h3,rfl⟩:=h3;have h3:=congrArg Array.toList h3;simp only at h3;subst h3;exact ⟨0,h1⟩
 obtain ⟨n,e⟩:=key;refine RepL.one ?_;unfold Rep;refine ⟨L,vs,n,rfl,?_,?_,?_⟩
 ·show (cutH (fun a=>a=495) h).get? L=_;rw [Za8 (S:=fun a=>a=495)]
  ·exact e
  ·rintro rfl
   rw [ht] at e;cases e
 ·rw [hi.length,Z3];omega
 ·clear hl hw e hlen
  induction hi with
  |nil=>exact RepL.nil
  |cons _ _ _ ih=>exact RepL.cons Rep.int ih
theorem Zol {fr:List Addr}{G':Gh}{σ':Sg}{h':Heap}(hfr:fr=[])(ht:h.get? 495=some (tabObj #[]))(x:Step fr (gh₀ h) {} h G' σ' h')(S:St (cxOf w h mg mb) G' σ' h'):∀b o,h.get? b=some o→h'.get? b=some o∨(b=495∧o=tabObj #[]∧∃ps,h'.get? 495=some (tabObj ps)):=by
 intro b o e
 by_cases q:b=495
 ·subst q;rw [ht] at e;cases e;obtain ⟨⟨_,q2⟩,ps,q3,_⟩:=S.tab;rw [q2] at q3;exact .inr ⟨rfl,rfl,ps,q3⟩
 ·exact .inl (x.keep b o e q rfl (by rw [hfr];exact List.not_mem_nil))
theorem oldK {fr:List Addr}{G':Gh}{σ':Sg}{h':Heap}(hc:CodeHd h 497 495)(hfr:fr=[])(ht:h.get? 495=some (tabObj #[]))(x:Step fr (gh₀ h) {} h G' σ' h')(S:St (cxOf w h mg mb) G' σ' h'):OldK h h':=by
 refine ⟨fun b o e=>?_,fun b o e=>x.alive b o e⟩;rcases Zol hfr ht x S b o e with q | ⟨rfl,rfl,ps,q⟩
 ·exact .inl q
 ·obtain ⟨oc,vs,_,_,_,_,_,_,_,c1,c2,c3,c4,_⟩:=hc;exact .inr (.inl ⟨⟨497,oc,vs,c1,c2,c3,c4⟩,rfl,#[],ps,rfl,by rw [q];simp⟩)
theorem pre₀ (ht:h.get? 495=some (tabObj #[])){s:Shared}(hs:s.heap=h):Pre (cxOf w h mg mb) callerA (Inv.top _) (gh₀ h) {} s:=by
 subst hs;exact ⟨st₀ ht,⟨⟨[],rfl,fun e he=>by cases he⟩,rfl⟩,trivial⟩
theorem Zn1:Room (4 * 30) callerA:=by
 constructor
 ·show 1+300+4 * 30≤900;decide
 ·show 4+3 * (4 * 30)≤9000;decide
theorem law_run {prog:Program}{s:Shared}{L fa:Addr}{vs:List Value}{script:List Int}(B:Base prog (cxOf w s.heap mg mb))(hc:CodeHd s.heap 497 495)(ht:s.heap.get? 495=some (tabObj #[]))(hfa:mg "law"=some (.ref fa))(hw:Well w.params s.heap (.ref L) (ofPy (.list (script.map PyData.int))))(hl:s.heap.IsList L vs.toArray)(hi:IntsAre vs script)(hlen:script.length≤63)
  (plain:∃k σ',Zdv script=.ok (.bool true,k) σ') {Q E:Value→Shared→Prop} (q:∀s',Same s s'→OldK s.heap s'.heap→Q (.bool true) s'):wpAny (model prog w) callerA (PySem.call (.ref fa) [.ref L]) Q E s:=by
 obtain ⟨k,σ',e⟩:=plain;obtain ⟨fa',h1,h2⟩:=Zk5 B 30 callerA Zn1 "law" [.list (script.map .int)] [.ref L] (gh₀ s.heap) {} s (pre₀ ht rfl) (Zns ht hw hl hi hlen) (by
  show Zdv script≠_;rw [e];exact fun q=>by cases q)
 have h1:mg "law"=some (.ref fa'):=h1;rw [hfa] at h1;cases h1;have e':Zd 30 "law" [.list (script.map .int)] {}=.ok (.bool true,k) σ':=e;rw [e'] at h2;refine wpAny_mono h2 (fun v s' y=>?_) (fun v s' y=>?_)
 ·obtain ⟨a,σ'',e2,Γ',y1,y2,y3,y4⟩:=y;cases e2;have hv:v=.bool true:=by
   cases k with
   |val=>exact Rep.bool_inv (show Rep (cxOf w s.heap mg mb) Γ' (.bool true) v from y4)
   |h=>obtain ⟨es,_,_,_,_,_,e,_⟩:=(show Now (cxOf w s.heap mg mb) Γ' σ' s'.heap (.bool true) v from y4);cases e
   |own=>obtain ⟨as,y,_⟩:=y4;exact y.elim
   |ownIo=>obtain ⟨as,y,_⟩:=y4;exact y.elim
  subst hv;exact q s' y1 (oldK hc rfl ht y3 y2)
 ·obtain ⟨m,σ'',e2,_⟩:=y;cases e2
end
end Mine
end
section
namespace Mine
open PySem
structure Lv where
 loc:List (Str×T)
 own:List (Str×T×Kd):=[]
 mv:List Str:=[]
 hot:Bool:=false
def Lv.ev (L:Lv):Ev:={ loc:=fun y=>L.loc.lookup y,own:=L.own,mv:=L.mv,hot:=L.hot }
def Qq (l:List (Str×T))(x:Str)(t:T):List (Str×T):=match l with
 |[]=>[(x,t)]
 |(y,u)::r=>if y=x then (y,t)::r else (y,u)::Qq r x t
def Zb9 (l:List (Str×T))(x:Str):List (Str×T):=match l with
 |[]=>[]
 |(y,u)::r=>if y=x then Zb9 r x else (y,u)::Zb9 r x
theorem Zie (l:List (Str×T))(x:Str)(t:T):(fun y=>(Qq l x t).lookup y)=upd (fun y=>l.lookup y) x t:=by
 funext y;unfold upd
 induction l with
 |nil=>
  show List.lookup y [(x,t)]=_;rw [List.lookup_cons]
  by_cases h:y=x
  ·subst h;simp
  ·have:(y == x)=false:=by simpa using h
   rw [this,if_neg h]
 |cons p l ih=>
  obtain ⟨z,u⟩:=p;unfold Qq
  by_cases hz:z=x
  ·subst hz;show List.lookup y (if z=z then _ else _)=if y=z then some t else List.lookup y ((z,u)::l)
   rw [if_pos rfl,List.lookup_cons,List.lookup_cons]
   by_cases h:y=z
   ·subst h;simp
   ·have:(y == z)=false:=by simpa using h
    rw [this,if_neg h]
  ·show List.lookup y (if z=x then _ else _)=if y=x then some t else List.lookup y ((z,u)::l)
   rw [if_neg hz,List.lookup_cons,List.lookup_cons]
   by_cases h:y=z
   ·subst h;rw [if_neg hz];simp
   ·have:(y == z)=false:=by simpa using h
    rw [this];exact ih
theorem Ztm (l:List (Str×T))(x:Str):(fun y=>(Zb9 l x).lookup y)=fun y=>if y=x then none else l.lookup y:=by
 funext y
 induction l with
 |nil=>unfold Zb9;split<;>rfl
 |cons p l ih=>
  obtain ⟨z,u⟩:=p;unfold Zb9
  by_cases hz:z=x
  ·subst hz;rw [if_pos rfl,ih,List.lookup_cons]
   by_cases h:y=z
   ·rw [if_pos h,if_pos h]
   ·have:(y == z)=false:=by simpa using h
    rw [this]
  ·rw [if_neg hz,List.lookup_cons,List.lookup_cons]
   by_cases h:y=z
   ·subst h;rw [if_neg hz];simp
   ·have:(y == z)=false:=by simpa using h
    rw [this];exact ih
def Lv.bindVal (L:Lv)(x:Str)(t:T):Lv:={ L with loc:=Qq L.loc x t,own:=Q3 x L.own }
def Lv.bindOwn (L:Lv)(x:Str)(t:T)(k:Kd):Lv:={ L with loc:=Zb9 L.loc x,own:=(x,t,k)::Q3 x L.own }
def Lv.putOwn (L:Lv)(x:Str)(t:T):Lv:={ L with own:=L.own.map fun p=>if p.1=x then (p.1,t,p.2.2) else p }
theorem Lv.ev_bindVal (L:Lv)(x:Str)(t:T):(L.bindVal x t).ev=L.ev.bindVal x t:=by
 unfold Lv.ev Lv.bindVal Ev.bindVal;dsimp only;rw [Zie]
theorem Lv.ev_bindOwn (L:Lv)(x:Str)(t:T)(k:Kd):(L.bindOwn x t k).ev=L.ev.bindOwn x t k:=by
 unfold Lv.ev Lv.bindOwn Ev.bindOwn;dsimp only;rw [Ztm]
theorem Lv.ev_putOwn (L:Lv)(x:Str)(t:T):(L.putOwn x t).ev=L.ev.putOwn x t:=rfl
def Zaf (e:Expr):List (Str×T×Kd)→List (Str×T)→List (Str×T)×List (Str×T×Kd)
 |[],loc=>(loc,[])
 |(x,t,k)::r,loc=>if occE x e then (Qq (Zaf e r loc).1 x t,(Zaf e r loc).2) else ((Zaf e r loc).1,(x,t,k)::(Zaf e r loc).2)
def Zp (e:Expr)(L:Lv):Lv:=match L.own with
 |[]=>L
 |o=>{ L with loc:=(Zaf e o L.loc).1,own:=(Zaf e o L.loc).2 }
theorem Zm5 (e:Expr)(o:List (Str×T×Kd))(l:List (Str×T)):(settleGo e o fun y=>l.lookup y)=((fun y=>(Zaf e o l).1.lookup y),(Zaf e o l).2):=by
 induction o with
 |nil=>rfl
 |cons p r ih=>
  obtain ⟨x,t,k⟩:=p;unfold settleGo Zaf;rw [ih];dsimp only;split
  ·rw [Zie]
  ·rfl
theorem Q0 (e:Expr)(L:Lv):settle e L.ev=(Zp e L).ev:=by
 unfold settle Zp;obtain ⟨loc,own,mv,hot⟩:=L
 cases own with
 |nil=>rfl
 |cons p r=>
  show { loc:=(settleGo e (p::r) fun y=>loc.lookup y).1,own:=(settleGo e (p::r) fun y=>loc.lookup y).2,mv:=mv,hot:=hot:Ev }=_;rw [Zm5];rfl
def Res.mapR {α β:Type}(f:α→β):Res α→Res β
 |.ok a s=>.ok (f a) s
 |.exn m s=>.exn m s
 |.stuck=>.stuck
def bindL (L:Lv)(x:Str)(t:T×Kd):M Lv:=fun s=>
 if L.hot&&(x="row":Bool) then
  (match t with
   |(.list ts,.own)=>(match Za3 ts with
    |some r=>if s.row.isNone∧r.length≤Zc then .ok (L.bindVal x .row) { s with row:=some r } else .stuck
    |none=>.stuck)
   |_=>.stuck)
 else if L.hot&&(x="v":Bool) then
  (match t with
   |(.vec k its .none,.own)=>if s.self.isNone then .ok (L.bindVal x .self) { s with self:=some ⟨k,its,none,0⟩ } else .stuck
   |(.vec k its .none,.ownIo)=>if s.self.isNone then .ok (L.bindVal x .self) { s with self:=some ⟨k,its,none,0⟩ } else .stuck
   |(.null,_)=>.ok (L.bindVal x .null) s
   |_=>.stuck)
 else if t.2≠.val∧x∈L.mv then .ok (L.bindOwn x t.1 t.2) s
 else .ok (L.bindVal x t.1) s
theorem Zd7 {α β:Type}{f:α→β}{c:Prop}[Decidable c]{a b:Res α}:(if c then a else b).mapR f=if c then a.mapR f else b.mapR f:=by split<;>rfl
theorem Zuh (L:Lv)(x:Str)(t:T×Kd)(s:Sg):bindM L.ev x t s=(bindL L x t s).mapR Lv.ev:=by
 unfold bindM bindL;simp only [←Lv.ev_bindVal,←Lv.ev_bindOwn,Zd7];show (if (L.hot&&(x="row":Bool))=true then _ else if (L.hot&&(x="v":Bool))=true then _ else if t.2≠.val∧x∈L.mv then _ else _)=_;congr 1
 ·split
  ·rename_i ts
   try dsimp only
   cases Za3 ts with
   |none=>rfl
   |some r=>(try dsimp only);rw [Zd7];rfl
  ·first | rfl | (split<;>first | rfl | (exfalso;simp_all))
 ·congr 1;split
  ·(try dsimp only);rw [Zd7];rfl
  ·(try dsimp only);rw [Zd7];rfl
  ·rfl
  ·first | rfl | (split<;>first | rfl | (exfalso;simp_all))
theorem Zk {α β γ:Type}(m:M α)(f:α→M β)(g:β→M γ):((m>>=f)>>=g)=(m>>=fun a=>f a>>=g):=by
 funext s;show M.bind (M.bind m f) g s=M.bind m (fun a=>M.bind (f a) g) s;unfold M.bind;cases m s<;>rfl
section
variable {β:Type}
def Zfc (L:Lv)(x a:Str)(t:T×Kd):M Lv:=fun s=>
 match L.own.lookup x with
 |some (.vec k its _,_)=>(if a="attrs" then .ok (L.putOwn x (.vec k its t.1)) s else .stuck)
 |some _=>.stuck
 |none=>match L.loc.lookup x with
  |some .self=>(match s.self with
   |some v=>(if a="attrs" then
     (match t with
      |(.none,_)=>.ok L (Jd s v none)
      |(.dict es,.own)=>.ok L (Jd s v (some es))
      |_=>.stuck)
    else .stuck)
   |none=>.stuck)
  |some (.vec ..)=>if a="shared"∧Zf7 t.1=true then .ok L s else .stuck
  |_=>.stuck
theorem Zmh (L:Lv)(x a:Str)(t:T×Kd)(s:Sg):Qh L.ev x a t s=(Zfc L x a t s).mapR Lv.ev:=by
 unfold Qh Zfc;show (match L.own.lookup x with | some (.vec k its _,_)=>_ | some _=>_ | none=>match L.loc.lookup x with | some .self=>_ | some (.vec ..)=>_ | _=>_)=_
 cases L.own.lookup x with
 |some q=>
  obtain ⟨u,kd⟩:=q;cases u<;>first | rfl | (dsimp only;split<;>rfl)
 |none=>
  dsimp only
  cases L.loc.lookup x with
  |none=>rfl
  |some u=>
   cases u<;>first | rfl | skip
   ·dsimp only;split<;>rfl
   ·dsimp only
    cases s.self with
    |none=>rfl
    |some v=>
     dsimp only
     by_cases ha:a="attrs"
     ·rw [if_pos ha,if_pos ha];obtain ⟨t,kd⟩:=t;cases t<;>cases kd<;>rfl
     ·rw [if_neg ha,if_neg ha];rfl
def Zcg (L:Lv):List Str→List T→Lv
 |x::xs,t::ts=>Zcg (L.bindVal x t) xs ts
 |_,_=>L
theorem Zlf:∀(xs:List Str) (ts:List T) (L:Lv),Zba L.ev xs ts=(Zcg L xs ts).ev
 |[],_,L=>by unfold Zba Zcg;rfl
 |_::_,[],L=>by unfold Zba Zcg;rfl
 |x::xs,t::ts,L=>by
  unfold Zba Zcg;rw [←Lv.ev_bindVal,Zlf xs ts]
def cFor (x:Str)(f:Lv→(Out→Lv→M β)→M β):List T→Lv→(Out→Lv→M β)→M β
 |[],L,k=>k .next L
 |t::r,L,k=>f (L.bindVal x t) fun o L'=>match o with
  |.ret t kd=>k (.ret t kd) L'
  |_=>cFor x f r L' k
def Zce (e:Expr)(t:Lv→M Bool)(f:Lv→(Out→Lv→M β)→M β):Nat→Lv→(Out→Lv→M β)→M β
 |0,_,_=>stuck
 |n+1,L,k=>t (Zp e L)>>=fun b=>if b then f (Zp e L) fun o L'=>match o with
   |.ret t kd=>k (.ret t kd) L'
   |_=>Zce e t f n L' k
  else k .next (Zp e L)
def Zji:List Expr→Bool
 |[.Lambda ..]=>false
 |_=>true
def Zfl (f:Str)(as:List Expr):Bool:=Zji as&&!(f="len"||f="isinstance"||f="Null"||f="Vector"||builtins.contains f)
def Zg4 (f:Str)(as:List Expr):Bool:=Zji as&&!(f="len"||f="isinstance")
mutual
def cE (G:Calls)(L:Ev):Expr→(T×Kd→M β)→M β
 |.IfExp t b o _,k=>cT G L t (cE G L t) fun c=>if c then cE G L b k else cE G L o k
 |.BinOp l op r _,k=>cE G L l fun a=>cE G L r fun b=>Zl (binT op a.1 b.1)>>=k
 |.Compare l [op] [r] _,k=>cE G L l fun a=>Jy L op r (Za G L r)>>=fun b=>cmpK op a b>>=fun c=>k (c,.val)
 |.Attribute o a _,k=>cE G L o fun v=>Zbb v.1 a>>=k
 |.Subscript v (.Slice lo hi s p) pos,k=>Za G L (.Subscript v (.Slice lo hi s p) pos)>>=k
 |.Subscript v i _,k=>cE G L v fun t=>still t.2 (Za G L i)>>=fun j=>Ju t.1 j.1>>=k
 |.Call (.Attribute o m _) as _ _,k=>cE G L o fun v=>if okM v.1 m then still v.2 (evalEs G L as)>>=fun ts=>Q8 v.1 m (ts.map (·.1))>>=k else stuck
 |.Call (.Name f np) as ks p,k=>if Zfl f as then cEs1 G L as fun ts=>G f ts>>=k else if Zg4 f as then cEs G L as fun ts=>Z2 G f ts>>=k else Za G L (.Call (.Name f np) as ks p)>>=k
 |.List es _,k=>cEs1 G L es fun ts=>k (.list ts,.own)
 |.Tuple es _ _,k=>cEs1 G L es fun ts=>k (.tup ts,.val)
 |.ListComp elt [⟨.Name x _,it,ifs,_⟩] sc _,k=>cE G L it fun s=>Qm s.1>>=fun l=>tests (quiet s.2 fun t=>evalTs G (inner L sc x t) ifs) (quiet s.2 fun t=>Za G (inner L sc x t) elt) l>>=fun r=>k (.list r,.own)
 |.DictComp ke v [⟨.Name x _,it,ifs,_⟩] sc _,k=>cE G L it fun s=>Qm s.1>>=fun l=>Qx (quiet s.2 fun t=>evalTs G (inner L sc x t) ifs) (quiet s.2 fun t=>Za G (inner L sc x t) ke) (quiet s.2 fun t=>Za G (inner L sc x t) v) [] l>>=fun r=>k (.dict r,.own)
 |.JoinedStr vs _,k=>cJ G L vs Str.empty fun x=>k (.str x,.val)
 |.FormattedValue v _ _ _,k=>cE G L v fun t=>fmtM t>>=k
 |e,k=>Za G L e>>=k
def cJ (G:Calls)(L:Ev):List Expr→Str→(Str→M β)→M β
 |[],out,k=>k out
 |e::r,out,k=>cE G L e fun t=>strM t>>=fun x=>if (out++x).length≤Zc then cJ G L r (out++x) k else stuck
def cEs (G:Calls)(L:Ev):List Expr→(List (T×Kd)→M β)→M β
 |[],k=>k []
 |e::r,k=>cE G L e fun t=>solid t>>=fun t=>cEs G L r fun ts=>k (t::ts)
def cEs1 (G:Calls)(L:Ev):List Expr→(List T→M β)→M β
 |[],k=>k []
 |e::r,k=>cE G L e fun t=>solid t>>=fun t=>cEs1 G L r fun ts=>k (t.1::ts)
def cT (G:Calls)(L:Ev):Expr→((T×Kd→M β)→M β)→(Bool→M β)→M β
 |.UnaryOp .Not x _,_,k=>cT G L x (cE G L x) fun b=>k (!b)
 |.BoolOp .And vs _,_,k=>cAnd G L vs k
 |.BoolOp .Or vs _,_,k=>cOr G L vs k
 |_,whole,k=>whole fun t=>Za9 t>>=k
def cAnd (G:Calls)(L:Ev):List Expr→(Bool→M β)→M β
 |[],k=>k true
 |e::r,k=>cT G L e (cE G L e) fun b=>if b then cAnd G L r k else k false
def cOr (G:Calls)(L:Ev):List Expr→(Bool→M β)→M β
 |[],k=>k false
 |e::r,k=>cT G L e (cE G L e) fun b=>if b then k true else cOr G L r k
end
theorem Qg {α:Type}{m:M α}{f g:α→M β}(h:∀a,f a=g a):(m>>=f)=(m>>=g):=by
 have:f=g:=funext h;rw [this]
theorem Jv {α:Type}{c:Prop}[Decidable c]{a b:M α}{f:α→M β}:((if c then a else b)>>=f)=if c then a>>=f else b>>=f:=by split<;>rfl
theorem J1 {α:Type}{f:α→M β}:((stuck:M α)>>=f)=stuck:=rfl
theorem pure_bind' {α:Type}{a:α}{f:α→M β}:((pure a:M α)>>=f)=f a:=rfl
theorem Zl8 {α:Type}{m:Str}{f:α→M β}:((Jc m:M α)>>=f)=Jc m:=rfl
theorem Zt5 {G:Calls}{L:Ev}{f:Str}{np pos:Pos}{as:List Expr}{ks:List Keyword}(h:Zg4 f as=true):Za G L (.Call (.Name f np) as ks pos)=(evalEs G L as>>=fun ts=>Z2 G f ts):=by
 simp only [Zg4,Bool.and_eq_true,Bool.not_eq_true',Bool.or_eq_false_iff,decide_eq_false_iff_not] at h;obtain ⟨h1,h2,h3⟩:=h;have e1:Za G L (.Call (.Name f np) as ks pos)=Jp G L f as (evalVs G L as):=by
  rw [Za];intro a b sc p e;subst e;cases h1
 have e2:∀es:List Expr,seqM (evalVs G L es)=evalEs G L es:=by
  intro es
  induction es with
  |nil=>rw [evalVs,evalEs,seqM]
  |cons e es ih=>rw [evalVs,evalEs,seqM,ih]
 have e3:Jp G L f as (evalVs G L as)=(seqM (evalVs G L as)>>=fun ts=>Z2 G f ts):=by
  unfold Jp;split
  ·rename_i heq;rw [if_neg h2,heq]
  ·rename_i heq;rw [if_neg h3,heq]
  ·rfl
 rw [e1,e3,e2]
theorem Zt6 {G:Calls}{L:Ev}{f:Str}{np pos:Pos}{as:List Expr}{ks:List Keyword}(h:Zfl f as=true):Za G L (.Call (.Name f np) as ks pos)=(evalEs G L as>>=fun ts=>G f (ts.map (·.1))):=by
 simp only [Zfl,Bool.and_eq_true,Bool.not_eq_true',Bool.or_eq_false_iff,decide_eq_false_iff_not] at h;obtain ⟨h1,⟨⟨⟨h2,h3⟩,h4⟩,h5⟩,h6⟩:=h;have e1:Za G L (.Call (.Name f np) as ks pos)=Jp G L f as (evalVs G L as):=by
  rw [Za];intro a b sc p e;subst e;cases h1
 have e2:∀es:List Expr,seqM (evalVs G L es)=evalEs G L es:=by
  intro es
  induction es with
  |nil=>rw [evalVs,evalEs,seqM]
  |cons e es ih=>rw [evalVs,evalEs,seqM,ih]
 have e3:Jp G L f as (evalVs G L as)=(seqM (evalVs G L as)>>=fun ts=>Z2 G f ts):=by
  unfold Jp;split
  ·rename_i heq;rw [if_neg h2,heq]
  ·rename_i heq;rw [if_neg h3,heq]
  ·rfl
 rw [e1,e3,e2];congr 1;funext ts;unfold Z2;rw [if_neg (fun q=>q.elim h4 h5),if_neg (by simpa using h6)]
mutual
theorem Z0 (G:Calls)(L:Ev)(e:Expr)(k:T×Kd→M β):(Za G L e>>=k)=cE G L e k:=by
 unfold cE;split
 ·rename_i t b o p;rw [Za,Zk,cT_eq G L t _ _ (fun k=>Z0 G L t k)];congr 1;funext c
  cases c with
  |true=>exact Z0 G L b k
  |false=>exact Z0 G L o k
 ·rename_i l op r p;rw [Za,Zk,Z0 G L l];congr 1;funext a;rw [Zk,Z0 G L r]
 ·rename_i l op r p;rw [Za,Zk,Z0 G L l];congr 1;funext a;simp only [Zk];rfl
 ·rename_i o a p;rw [Za,Zk,Z0 G L o]
 ·rfl
 ·rename_i v i p hn;rw [Za]
  ·rw [Zk,Z0 G L v];congr 1;funext t;rw [Zk]
  ·exact hn
 ·rename_i o m ap as ks p;rw [Za,Zk,Z0 G L o];congr 1;funext v;rw [Jv,Zk,J1]
 ·rename_i f np as ks p;split
  ·rename_i hc;rw [Zt6 hc,Zk,←cEs1_eq G L as]
  ·split
   ·rename_i hc;rw [Zt5 hc,Zk,cEs_eq G L as]
   ·rfl
 ·rename_i es p;rw [Za,Zk,←cEs1_eq G L es];rfl
 ·rename_i es kx p;rw [Za,Zk,←cEs1_eq G L es];rfl
 ·rename_i elt x px it ifs an sc p;rw [Za,Zk,Z0 G L it];congr 1;funext s;rw [Zk];congr 1;funext l;unfold Zcc;rw [Zk];rfl
 ·rename_i ke v x px it ifs an sc p;rw [Za,Zk,Z0 G L it];congr 1;funext s;rw [Zk];congr 1;funext l;unfold Zcd;rw [Zk];rfl
 ·rename_i vs p;rw [Za,Zk,cJ_eq G L vs];rfl
 ·rename_i v c fs p;rw [Za,Zk,Z0 G L v]
 ·rfl
termination_by (sizeOf e,0)
theorem cJ_eq (G:Calls)(L:Ev)(es:List Expr)(out:Str)(k:Str→M β):(evalJ G L es out>>=k)=cJ G L es out k:=by
 cases es with
 |nil=>unfold evalJ cJ;rfl
 |cons e r=>
  unfold evalJ cJ;rw [Zk,Z0 G L e];congr 1;funext t;rw [Zk];congr 1;funext x;rw [Jv,J1];split
  ·exact cJ_eq G L r _ k
  ·rfl
termination_by (sizeOf es,0)
theorem cEs_eq (G:Calls)(L:Ev)(es:List Expr)(k:List (T×Kd)→M β):(evalEs G L es>>=k)=cEs G L es k:=by
 cases es with
 |nil=>unfold evalEs cEs;rfl
 |cons e r=>
  unfold evalEs cEs;rw [Zk,Z0 G L e];congr 1;funext t;rw [Zk];congr 1;funext t;rw [Zk];exact cEs_eq G L r _
termination_by (sizeOf es,0)
theorem cEs1_eq (G:Calls)(L:Ev)(es:List Expr)(k:List T→M β):(evalEs G L es>>=fun ts=>k (ts.map (·.1)))=cEs1 G L es k:=by
 cases es with
 |nil=>unfold evalEs cEs1;rfl
 |cons e r=>
  unfold evalEs cEs1;rw [Zk,Z0 G L e];congr 1;funext t;rw [Zk];congr 1;funext t;rw [Zk];exact cEs1_eq G L r fun ts=>k (t.1::ts)
termination_by (sizeOf es,0)
theorem cT_eq (G:Calls)(L:Ev)(e:Expr)(w:(T×Kd→M β)→M β)(k:Bool→M β)(hw:∀k,(Za G L e>>=k)=w k):(evalT G L e (Za G L e)>>=k)=cT G L e w k:=by
 unfold cT;split
 ·rename_i x p;rw [evalT,Zk];exact cT_eq G L x _ _ (fun k=>Z0 G L x k)
 ·rw [evalT];exact cAnd_eq G L _ _
 ·rw [evalT];exact cOr_eq G L _ _
 ·rename_i n1 n2 n3;rw [evalT]
  ·rw [Zk,hw]
  ·exact n1
  ·exact n2
  ·exact n3
termination_by (sizeOf e,1)
theorem cAnd_eq (G:Calls)(L:Ev)(es:List Expr)(k:Bool→M β):(evalAnd G L es>>=k)=cAnd G L es k:=by
 cases es with
 |nil=>unfold evalAnd cAnd;rfl
 |cons e r=>
  unfold evalAnd cAnd;rw [Zk,cT_eq G L e _ _ (fun k=>Z0 G L e k)];congr 1;funext b
  cases b with
  |true=>exact cAnd_eq G L r k
  |false=>rfl
termination_by (sizeOf es,0)
theorem cOr_eq (G:Calls)(L:Ev)(es:List Expr)(k:Bool→M β):(evalOr G L es>>=k)=cOr G L es k:=by
 cases es with
 |nil=>unfold evalOr cOr;rfl
 |cons e r=>
  unfold evalOr cOr;rw [Zk,cT_eq G L e _ _ (fun k=>Z0 G L e k)];congr 1;funext b
  cases b with
  |false=>exact cOr_eq G L r k
  |true=>rfl
termination_by (sizeOf es,0)
end
mutual
def cS (G:Calls):Stmt→Lv→(Out→Lv→M β)→M β
 |.Expr (.Call (.Attribute (.Name x _) m _) as _ p) _,L,k=>
  match (Zp (.Tuple as 0 p) L).own.lookup x with
  |some (t,_)=>if Zb1 t m then cEs1 G (Zp (.Tuple as 0 p) L).ev as fun ts=>Zl (Zai t m ts)>>=fun t=>k .next ((Zp (.Tuple as 0 p) L).putOwn x t) else stuck
  |none=>stuck
 |.Expr (.Call (.Attribute (.Attribute (.Name x _) a _) m _) as _ p) _,L,k=>
  match (Zp (.Tuple as 0 p) L).own.lookup x with
  |some (.vec kd its at',.ownIo)=>if a="items"∧m="append"∧its.length < Zc then cEs1 G (Zp (.Tuple as 0 p) L).ev as fun ts=>match ts with
   |[t]=>k .next ((Zp (.Tuple as 0 p) L).putOwn x (.vec kd (its++[t]) at'))
   |_=>stuck
   else stuck
  |_=>stuck
 |.Expr e _,L,k=>cE G (Zp e L).ev e fun _=>k .next (Zp e L)
 |.Pass _,L,k=>k .next L
 |.Continue _,L,k=>k .cont L
 |.Return none _,L,k=>k (.ret .none .val) L
 |.Return (some (.Name x p)) _,L,k=>
  match L.own.lookup x with
  |some (t,kd)=>k (.ret t kd) L
  |none=>Za G L.ev (.Name x p)>>=fun t=>k (.ret t.1 t.2) L
 |.Return (some e) _,L,k=>cE G (Zp e L).ev e fun t=>solid t>>=fun t=>k (.ret t.1 t.2) (Zp e L)
 |.Assign [.Name x _] v _,L,k=>cE G (Zp v L).ev v fun t=>solid t>>=fun t=>bindL (Zp v L) x t>>=fun L'=>k .next L'
 |.Assign [.Attribute (.Name x _) a _] v _,L,k=>if a="attrs"∨a="shared" then cE G (Zp v L).ev v fun t=>solid t>>=fun t=>Zfc (Zp v L) x a t>>=fun L'=>k .next L' else stuck
 |.Assign [.Subscript (.Name x _) i _] v p,L,k=>
  match (Zp (.Tuple [v,i] 0 p) L).own.lookup x with
  |some (.dict es,_)=>cE G (Zp (.Tuple [v,i] 0 p) L).ev v fun t=>solid t>>=fun t=>Za G (Zp (.Tuple [v,i] 0 p) L).ev i>>=fun i'=>match i'.1 with
   |.str key=>if es.length < Zc then k .next ((Zp (.Tuple [v,i] 0 p) L).putOwn x (.dict (dput es key t.1))) else stuck
   |_=>stuck
  |_=>stuck
 |.Assign [.Subscript (.Attribute (.Name x _) a _) i _] v p,L,k=>
  match L.loc.lookup x with
  |some .self=>if a="attrs" then cE G (Zp (.Tuple [v,i] 0 p) L).ev v fun t=>solid t>>=fun t=>Jw>>=fun _=>still .h (Za G (Zp (.Tuple [v,i] 0 p) L).ev i)>>=fun i'=>fun s=>match i'.1 with
   |.str key=>(match s.self with
    |some v0=>(match v0.attrs with
     |some es=>if es.length < Zc then k .next (Zp (.Tuple [v,i] 0 p) L) (Jd s v0 (some (dput es key t.1))) else .stuck
     |none=>.stuck)
    |none=>.stuck)
   |_=>.stuck else stuck
  |_=>stuck
 |.Assign [.Tuple ns _ _] v _,L,k=>Zl (Zaj ns)>>=fun xs=>cE G (Zp v L).ev v fun t=>match t with
  |(.tup ts,_)=>if ts.length=xs.length then k .next (Zcg (Zp v L) xs ts) else stuck
  |_=>stuck
 |.AugAssign (.Name x _) op v _,L,k=>Zl (L.loc.lookup x)>>=fun a=>Za G (Zp v L).ev v>>=fun b=>Zl (augT op a b.1)>>=fun c=>k .next ((Zp v L).bindVal x c)
 |.Delete [.Subscript (.Attribute (.Name x _) a _) i _] _,L,k=>
  match L.loc.lookup x with
  |some .self=>if a="attrs" then Jw>>=fun _=>still .h (Za G (Zp i L).ev i)>>=fun i'=>fun s=>match i'.1 with
   |.str key=>(match s.self with
    |some v0=>(match v0.attrs with
     |some es=>if (es.lookup key).isSome then k .next (Zp i L) (Jd s v0 (some (ddel es key))) else .stuck
     |none=>.stuck)
    |none=>.stuck)
   |_=>.stuck else stuck
  |_=>stuck
 |.If t b o _,L,k=>cT G (Zp t L).ev t (cE G (Zp t L).ev t) fun c=>if c then cSs G b (Zp t L) k else cSs G o (Zp t L) k
 |.For (.Name x _) it b [] _,L,k=>cE G (Zp it L).ev it fun s=>Zd4 s.2>>=fun _=>Qm s.1>>=fun l=>cFor x (fun L k=>cSs G b L k) l (Zp it L) k
 |.While t b [] _,L,k=>Zce t (fun L=>evalT G L.ev t (Za G L.ev t)) (fun L k=>cSs G b L k) Zbo L k
 |.Raise (some (.Call (.Name c _) [e] _ _)) none _,L,_=>
  if c="Refusal" then cE G (Zp e L).ev e fun t=>strM t>>=fun x=>Jc x else stuck
 |_,_,_=>stuck
def cSs (G:Calls):List Stmt→Lv→(Out→Lv→M β)→M β
 |[],L,k=>k .next L
 |s::r,L,k=>cS G s L fun o L'=>match o with
  |.next=>cSs G r L' k
  |o=>k o L'
end
theorem Zix {m:M Ev}{m':M Lv}{f:Ev→M β}{g:Lv→M β}(h:∀s,m s=(m' s).mapR Lv.ev)(hf:∀L:Lv,f L.ev=g L):(m>>=f)=(m'>>=g):=by
 funext s;show M.bind m f s=M.bind m' g s;unfold M.bind;rw [h];cases m' s<;>first | rfl | exact congrFun (hf _) _
variable {G:Calls}
theorem Zg3 {x:Str}{f:Ev→M (Out×Ev)}{f':Lv→(Out→Lv→M β)→M β}(hf:∀L (k:Out→Lv→M β) (k':Out×Ev→M β),(∀o L,k' (o,L.ev)=k o L)→(f L.ev>>=k')=f' L k):
  ∀(l:List T) (L:Lv) (k:Out→Lv→M β) (k':Out×Ev→M β),(∀o L,o≠.cont→k' (o,L.ev)=k o L)→(forL x f l L.ev>>=k')=cFor x f' l L k
 |[],L,k,k',h=>h .next L (by simp)
 |t::r,L,k,k',h=>by
  unfold forL cFor;rw [Zk,←Lv.ev_bindVal];refine hf _ _ _ fun o L'=>?_
  cases o with
  |next=>exact Zg3 hf r L' k k' h
  |cont=>exact Zg3 hf r L' k k' h
  |ret t kd=>exact h (.ret t kd) L' (by simp)
theorem Zg2 {e:Expr}{t:Ev→M Bool}{f:Ev→M (Out×Ev)}{f':Lv→(Out→Lv→M β)→M β}(hf:∀L (k:Out→Lv→M β) (k':Out×Ev→M β),(∀o L,k' (o,L.ev)=k o L)→(f L.ev>>=k')=f' L k):
  ∀(n:Nat) (L:Lv) (k:Out→Lv→M β) (k':Out×Ev→M β),(∀o L,k' (o,L.ev)=k o L)→(J0 e t f n L.ev>>=k')=Zce e (fun L=>t L.ev) f' n L k
 |0,L,k,k',h=>rfl
 |n+1,L,k,k',h=>by
  unfold J0 Zce;rw [Zk,Q0];refine Qg fun b=>?_
  cases b with
  |false=>exact h .next _
  |true=>
   simp only [if_true];rw [Zk];refine hf _ _ _ fun o L'=>?_
   cases o with
   |next=>exact Zg2 hf n L' k k' h
   |cont=>exact Zg2 hf n L' k k' h
   |ret t kd=>exact h (.ret t kd) L'
end
section
variable {β:Type}{G:Calls}
mutual
theorem Zt9 (st:Stmt)(L:Lv)(k:Out→Lv→M β)(k':Out×Ev→M β)(h:∀o L,k' (o,L.ev)=k o L):(Zi G st L.ev>>=k')=cS G st L k:=by
 unfold cS;split
 ·rename_i x px m ap as ks p pos;rw [Zi,Q0];show ((match (Zp (.Tuple as 0 p) L).own.lookup x with | some (t,_)=>_ | none=>_)>>=k')=_
  cases (Zp (.Tuple as 0 p) L).own.lookup x with
  |none=>rfl
  |some q=>
   obtain ⟨t,kd⟩:=q;dsimp only;rw [Jv,J1];split
   ·rw [Zk,←cEs1_eq];refine Qg fun ts=>?_
    rw [Zk];refine Qg fun t=>?_
    exact h .next ((Zp (.Tuple as 0 p) L).putOwn x t)
   ·rfl
 ·rename_i x px a iap m ap as ks p pos;rw [Zi,Q0];show ((match (Zp (.Tuple as 0 p) L).own.lookup x with | some (.vec k its at',.ownIo)=>_ | _=>_)>>=k')=_
  cases (Zp (.Tuple as 0 p) L).own.lookup x with
  |none=>rfl
  |some q=>
   obtain ⟨t,kd⟩:=q;cases t<;>first | rfl | skip
   cases kd<;>first | rfl | skip
   dsimp only;rw [Jv,Zk,J1];split
   ·rw [←cEs1_eq];refine Qg fun ts=>?_
    generalize ts.map (·.1)=l
    rcases l with _ | ⟨u,_ | ⟨_,_⟩⟩
    ·rfl
    ·exact h .next ((Zp (.Tuple as 0 p) L).putOwn x _)
    ·rfl
   ·rfl
 ·rename_i e pos n1 n2;have ev:Zi G (.Expr e pos) L.ev=(Za G (settle e L.ev) e>>=fun _=>pure (.next,settle e L.ev)):=by
   rw [Zi]
   ·exact fun a b c d e f g h=>n1 a b c d e f g h
   ·exact fun a b c d e f g h i j=>n2 a b c d e f g h i j
  rw [ev,Q0,Zk,Z0];congr 1;funext _;exact h .next _
 ·rw [Zi];exact h .next _
 ·rw [Zi];exact h .cont _
 ·rw [Zi];exact h (.ret .none .val) _
 ·rename_i x p pos;rw [Zi];show ((match L.own.lookup x with | some (t,k)=>_ | none=>_)>>=k')=_
  cases L.own.lookup x with
  |none=>dsimp only;rw [Zk];exact Qg fun t=>h (.ret t.1 t.2) _
  |some q=>exact h (.ret q.1 q.2) _
 ·rename_i e pos n1;rw [Zi,Q0]
  ·rw [Zk,Z0];congr 1;funext t;rw [Zk];exact Qg fun t=>h (.ret t.1 t.2) _
  ·exact n1
 ·rename_i x px v pos;rw [Zi,Q0,Zk,Z0];congr 1;funext t;rw [Zk];refine Qg fun t=>?_
  rw [Zk];exact Zix (Zuh _ x t) fun L=>h .next L
 ·rename_i x px a ap v pos;rw [Zi,Q0,Jv,J1];split
  ·rw [Zk,Z0];congr 1;funext t;rw [Zk];refine Qg fun t=>?_
   rw [Zk];exact Zix (Zmh _ x a t) fun L=>h .next L
  ·rfl
 ·rename_i x px i ip v p;rw [Zi,Q0];show ((match (Zp (.Tuple [v,i] 0 p) L).own.lookup x with | some (.dict es,_)=>_ | _=>_)>>=k')=_
  cases (Zp (.Tuple [v,i] 0 p) L).own.lookup x with
  |none=>rfl
  |some q=>
   obtain ⟨t,kd⟩:=q;cases t<;>first | rfl | skip
   dsimp only;simp only [Zk];rw [Z0];congr 1;funext t;refine Qg fun t=>Qg fun i'=>?_
   unfold Zdp;cases i'.1<;>first | rfl | skip
   dsimp only;rw [Jv,J1];split
   ·exact h .next ((Zp (.Tuple [v,i] 0 p) L).putOwn x _)
   ·rfl
 ·rename_i x px a ap i ip v p;rw [Zi,Q0];show ((match L.loc.lookup x with | some .self=>_ | _=>_)>>=k')=_
  cases L.loc.lookup x with
  |none=>rfl
  |some q=>
   cases q<;>first | rfl | skip
   dsimp only;rw [Jv,J1];split
   ·simp only [Zk];rw [Z0];congr 1;funext t;refine Qg fun t=>Qg fun _=>Qg fun i'=>?_
    funext s;show M.bind _ _ s=_;unfold M.bind Zbs;cases i'.1<;>first | rfl | skip
    dsimp only
    cases s.self with
    |none=>rfl
    |some v=>
     dsimp only
     cases v.attrs with
     |none=>rfl
     |some es=>
      dsimp only
      by_cases hh:es.length < Zc
      ·rw [if_pos hh,if_pos hh,←h];rfl
      ·rw [if_neg hh,if_neg hh]
   ·rfl
 ·rename_i ns kx tp v pos;rw [Zi,Q0,Zk];refine Qg fun xs=>?_
  rw [Zk,Z0];congr 1;funext t;obtain ⟨t,kd⟩:=t;cases t<;>first | rfl | skip
  dsimp only;rw [Jv,J1,Zlf];split
  ·exact h .next _
  ·rfl
 ·rename_i x px op v pos;rw [Zi,Q0,Zk];refine Qg fun a=>?_
  rw [Zk];refine Qg fun b=>?_
  rw [Zk];refine Qg fun c=>?_
  rw [←Lv.ev_bindVal];exact h .next _
 ·rename_i x px a ap i ip p;rw [Zi,Q0];show ((match L.loc.lookup x with | some .self=>_ | _=>_)>>=k')=_
  cases L.loc.lookup x with
  |none=>rfl
  |some q=>
   cases q<;>first | rfl | skip
   dsimp only;rw [Jv,J1];split
   ·simp only [Zk];refine Qg fun _=>Qg fun i'=>?_
    funext s;show M.bind _ _ s=_;unfold M.bind Zca;cases i'.1<;>first | rfl | skip
    dsimp only
    cases s.self with
    |none=>rfl
    |some v=>
     dsimp only
     cases v.attrs with
     |none=>rfl
     |some es=>
      dsimp only;rename_i key
      by_cases hh:(es.lookup key).isSome=true
      ·rw [if_pos hh,if_pos hh,←h];rfl
      ·rw [if_neg hh,if_neg hh]
   ·rfl
 ·rename_i t b o pos;rw [Zi,Q0,Zk,cT_eq _ _ _ _ _ (fun k=>Z0 _ _ _ k)];congr 1;funext c;rw [Jv,cSs_eq b _ k k' h,cSs_eq o _ k k' h]
 ·rename_i x px it b pos;rw [Zi,Q0];simp only [Zk];rw [Z0];congr 1;funext s;refine Qg fun _=>Qg fun l=>?_
  refine Zg3 (fun L k k' h=>cSs_eq b L k k' h) l _ k _ fun o L ho=>?_
  cases o with
  |next=>exact h .next L
  |cont=>exact absurd rfl ho
  |ret t kd=>exact h (.ret t kd) L
 ·rename_i t b pos;rw [Zi];exact Zg2 (fun L k k' h=>cSs_eq b L k k' h) Zbo L k k' h
 ·rename_i cn np e ks cp pos;rw [Zi,Q0,Jv,J1];split
  ·simp only [Zk,Zl8];rw [Z0]
  ·rfl
 ·rename_i n1 n2 n3 n4 n5 n6 n7 n8 n9 n10 n11 n12 n13 n14 n15 n16 n17 n18 n19;rw [Zi]
  ·rfl
  all_goals assumption
termination_by sizeOf st
theorem cSs_eq (b:List Stmt)(L:Lv)(k:Out→Lv→M β)(k':Out×Ev→M β)(h:∀o L,k' (o,L.ev)=k o L):(execSs G b L.ev>>=k')=cSs G b L k:=by
 cases b with
 |nil=>unfold execSs cSs;exact h .next L
 |cons s r=>
  unfold execSs cSs;rw [Zk];refine Zt9 s L _ _ fun o L'=>?_
  cases o with
  |next=>exact cSs_eq r L' k k' h
  |cont=>exact h .cont L'
  |ret t kd=>exact h (.ret t kd) L'
termination_by sizeOf b
end
end
end Mine
end
section
namespace Mine
open PySem PyProof.Rows
def zipL:List Str→List T→List (Str×T)
 |x::xs,t::ts=>(x,t)::zipL xs ts
 |_,_=>[]
theorem Zhb:∀(xs:List Str) (ts:List T),(fun y=>(zipL xs ts).lookup y)=Jz xs ts
 |[],_=>by unfold zipL Jz;rfl
 |_::_,[]=>by unfold zipL Jz;rfl
 |x::xs,t::ts=>by
  unfold zipL Jz;rw [←Zhb xs ts];funext y;rw [List.lookup_cons];unfold upd
  by_cases h:y=x
  ·subst h;simp
  ·have:(y == x)=false:=by simpa using h
   rw [this,if_neg h]
def Ze (G:Calls)(f:Str)(as:List T):M (T×Kd):=match fnOf f with
 |some fn=>if fn.params.length=as.length then cSs G fn.body { loc:=zipL fn.params as,mv:=mutsSs fn.body,hot:=decide (f="law") } (fun o _=>outT o) else stuck
 |none=>stuck
theorem Zf (d:Nat)(f:Str)(as:List T):Zd (d+1) f as=Ze (Zd d) f as:=by
 show (match fnOf f with | some fn=>Zbd (Zd d) (decide (f="law")) fn as | none=>stuck)=_;unfold Ze
 cases fnOf f with
 |none=>rfl
 |some fn=>
  dsimp only;unfold Zbd;split
  ·have e:({ loc:=Jz fn.params as,mv:=mutsSs fn.body,hot:=decide (f="law") }:Ev)=({ loc:=zipL fn.params as,mv:=mutsSs fn.body,hot:=decide (f="law") }:Lv).ev:=by
    unfold Lv.ev;dsimp only;rw [Zhb]
   rw [e];exact cSs_eq fn.body _ (fun o _=>outT o) (fun r=>outT r.1) fun _ _=>rfl
  ·rfl
section
variable (G:Calls)
theorem Zr5 (n:Str)(row:Option (List Int))(k:Str)(its:List T)(es:List (Str×T))(ep:Nat):Ze G "get_attr" [.self,.str n] ⟨row,some ⟨k,its,some es,ep⟩⟩=.ok ((es.lookup n).getD .none,.val) ⟨row,some ⟨k,its,some es,ep⟩⟩:=by kernel_rfl
theorem Zr6 (n:Str)(row:Option (List Int))(k:Str)(its:List T)(ep:Nat):Ze G "get_attr" [.self,.str n] ⟨row,some ⟨k,its,none,ep⟩⟩=.ok (.none,.val) ⟨row,some ⟨k,its,none,ep⟩⟩:=by kernel_rfl
end
abbrev SG (row:Option (List Int))(k:Str)(its:List T)(at':Option (List (Str×T)))(ep:Nat):Sg:=⟨row,some ⟨k,its,at',ep⟩⟩
theorem Qz {f:T→M Bool}{g:T→M (T×Kd)}{σ:Sg}(h:T→T):∀{l:List T},(∀t∈l,f t σ=.ok true σ)→(∀t∈l,∃kd,kd≠Kd.h∧g t σ=.ok (h t,kd) σ)→tests f g l σ=.ok (l.map h) σ
 |[],_,_=>rfl
 |t::r,h1,h2=>by
  obtain ⟨kd,hk,e2⟩:=h2 t (by simp);have e1:=h1 t (by simp);have ih:=Qz h (l:=r) (fun t ht=>h1 t (by simp [ht])) (fun t ht=>h2 t (by simp [ht]));unfold tests;show M.bind _ _ σ=_;unfold M.bind;rw [e1];dsimp only;rw [if_pos rfl];show M.bind _ _ σ=_;unfold M.bind;rw [e2];dsimp only;show M.bind _ _ σ=_;unfold M.bind;have e3:solid (h t,kd) σ=.ok (h t,kd) σ:=by unfold solid;rw [if_neg hk];rfl
  rw [e3];dsimp only;show M.bind _ _ σ=_;unfold M.bind;rw [ih];rfl
theorem Qi {α:Type}{f:T→M α}{t:T}{σ σ':Sg}{r:α}(h:f t σ=.ok r σ'):quiet .val f t σ=.ok r σ':=by
 unfold quiet Zby still;rw [if_neg (by simp)];rw [h]
theorem evalE_c {G:Calls}{L:Ev}{e:Expr}{σ:Sg}:Za G L e σ=cE G L e (fun t=>pure t) σ:=by
 rw [←Z0];show _=M.bind _ _ σ;unfold M.bind;cases Za G L e σ<;>rfl
theorem Zvh {G:Calls}{L:Ev}{e:Expr}{σ:Sg}:evalT G L e (Za G L e) σ=cT G L e (cE G L e) (fun t=>pure t) σ:=by
 rw [←cT_eq _ _ _ _ _ (fun k=>Z0 _ _ _ k)];show _=M.bind _ _ σ;unfold M.bind;cases evalT G L e (Za G L e) σ<;>rfl
section
variable (d:Nat)(row:Option (List Int))(k:Str)(its:List T)(es:List (Str×T))(ep:Nat)
theorem Zth:Zd (d+2) "dim_of" [.self] (SG row k its none ep)=.ok (.none,.val) (SG row k its none ep):=by
 rw [Zf];kernel_rfl
theorem Zti (h:es.lookup ("dim":Str)=none):Zd (d+2) "dim_of" [.self] (SG row k its (some es) ep)=.ok (.none,.val) (SG row k its (some es) ep):=by
 rw [Zf]
 conv=>lhs;whnf
 rw [h];rfl
theorem Ztg {k':Str}{ts:List T}{a:T}(h:es.lookup ("dim":Str)=some (.vec k' ts a)):Zd (d+2) "dim_of" [.self] (SG row k its (some es) ep)=.ok (.list ts,.own) (SG row k its (some es) ep):=by
 rw [Zf]
 conv=>lhs;whnf
 rw [h];rfl
def Z1 (at':Option (List (Str×T)))(n:Str):Option (List (Str×T)):=match at' with
 |none=>none
 |some es=>if (es.lookup n).isSome then (if (ddel es n).length=0 then none else some (ddel es n)) else some es
def putA (at':Option (List (Str×T)))(n:Str)(t:T):Option (List (Str×T)):=some (dput (at'.getD []) n t)
theorem Zgn (n:Str)(at':Option (List (Str×T))):∃ep',Zd (d+1) "drop_attr" [.self,.str n] (SG row k its at' ep)=.ok (.none,.val) (SG row k its (Z1 at' n) ep'):=by
 cases at' with
 |none=>exact ⟨ep,by rw [Zf];kernel_rfl⟩
 |some es=>
  unfold Z1
  by_cases h:(es.lookup n).isSome=true
  ·dsimp only;rw [if_pos h]
   by_cases h2:(ddel es n).length=0
   ·rw [if_pos h2];refine ⟨ep+1+1,?_⟩;rw [Zf]
    conv=>lhs;whnf
    rw [h]
    conv=>lhs;whnf
    rw [h]
    conv=>lhs;whnf
    have h3:((ddel es n).length:Int)=0:=by omega
    rw [Subsingleton.elim (Int.instDecidableEq _ _) (isTrue h3)];rfl
   ·rw [if_neg h2];refine ⟨ep+1,?_⟩;rw [Zf]
    conv=>lhs;whnf
    rw [h]
    conv=>lhs;whnf
    rw [h]
    conv=>lhs;whnf
    have h3:¬(((ddel es n).length:Int)=0):=by omega
    rw [Subsingleton.elim (Int.instDecidableEq _ _) (isFalse h3)];rfl
  ·dsimp only;rw [if_neg h];have h:=Bool.eq_false_iff.mpr h;refine ⟨ep,?_⟩;rw [Zf]
   conv=>lhs;whnf
   rw [h];rfl
theorem Zid (n:Str)(k':Str)(ts:List T)(a:T)(at':Option (List (Str×T)))(hz:(at'.getD []).length < 1000):∃ep',Zd (d+2) "put_attr" [.self,.str n,.vec k' ts a] (SG row k its at' ep)=.ok (.none,.val) (SG row k its (putA at' n (.vec k' ts a)) ep'):=by
 cases at' with
 |none=>exact ⟨ep+1+1,by rw [Zf];kernel_rfl⟩
 |some es=>
  refine ⟨ep+1,?_⟩;rw [Zf]
  conv=>lhs;whnf
  have h3:es.length < Zc:=hz;rw [Subsingleton.elim (Nat.decLt _ _) (isTrue h3)];rfl
end
section
variable (G:Calls)(σ:Sg)
theorem Zrb (t:T)(ht:t=.none∨∃x,t=.str x):Ze G "label_text" [.str "character",t] σ=.ok (t,.val) σ:=by
 rcases ht with rfl | ⟨x,rfl⟩<;>kernel_rfl
theorem Zjk (k:Str):Ze G "label_text" [.str k,.none] σ=.ok (.none,.val) σ:=by kernel_rfl
theorem Zq9 (i:Int)(hi:i=0∨i=1):Ze G "label_text" [.str "logical",.int i] σ=.ok (.str (if i=1 then "TRUE" else "FALSE"),.val) σ:=by
 rcases hi with rfl | rfl<;>kernel_rfl
theorem str_int (i:Int)(kd:Kd)(hi:Zj i=true):Z2 G "str" [(.int i,kd)] σ=.ok (.str (Zg i),.val) σ:=by
 show (if Zj i=true then val (.str (Zg i)) else stuck) σ=_;rw [if_pos hi];rfl
theorem Zra (i:Int)(hi:Zj i=true):Ze G "label_text" [.str "integer",.int i] σ=.ok (.str (Zg i),.val) σ:=by
 conv=>lhs;whnf
 rw [str_int G σ i _ hi];rfl
theorem Zec (k:Str)(ts:List T)(h:T→T)(h1:G "get_attr" [.vec k ts .none,.str "levels"] σ=.ok (.none,.val) σ)(h2:∀t∈ts,G "label_text" [.str k,t] σ=.ok (h t,.val) σ):Ze G "label_texts" [.vec k ts .none] σ=.ok (.list (ts.map h),.own) σ:=by
 conv=>lhs;whnf
 rw [h1]
 conv=>lhs;whnf
 rw [Qz h]
 ·rfl
 ·intro t ht;rfl
 ·intro t ht;refine ⟨.val,by simp,?_⟩;refine Qi ?_;refine evalE_c.trans ?_
  conv=>lhs;whnf
  rw [h2 t ht];rfl
end
theorem Zob (l:List (Str×T))(x:Str)(u t:T):Qq (Qq l x u) x t=Qq l x t:=by
 induction l with
 |nil=>
  show Qq [(x,u)] x t=[(x,t)];unfold Qq;rw [if_pos rfl]
 |cons p l ih=>
  obtain ⟨y,w⟩:=p;show Qq (if y=x then (y,u)::l else (y,w)::Qq l x u) x t=if y=x then (y,t)::l else (y,w)::Qq l x t
  by_cases h:y=x
  ·rw [if_pos h,if_pos h];show (if y=x then (y,t)::l else (y,u)::Qq l x t)=_;rw [if_pos h]
  ·rw [if_neg h,if_neg h];show (if y=x then (y,t)::Qq l x u else (y,w)::Qq (Qq l x u) x t)=_;rw [if_neg h,ih]
theorem Zs2 (o:List (Str×T×Kd))(x:Str):Q3 x (Q3 x o)=Q3 x o:=by
 unfold Q3;rw [List.filter_filter];congr 1;funext p;simp
theorem Zug (L:Lv)(x:Str)(u t:T):(L.bindVal x u).bindVal x t=L.bindVal x t:=by
 unfold Lv.bindVal;dsimp only;rw [Zob,Zs2]
theorem Zcf {β:Type}{x:Str}{f:Lv→(Out→Lv→M β)→M β}{l:List T}(u:T)(h:l≠[])(L:Lv)(k:Out→Lv→M β):cFor x f l L k=cFor x f l (L.bindVal x u) k:=by
 cases l with
 |nil=>exact absurd rfl h
 |cons t r=>
  unfold cFor;rw [Zug]
def Zs (f:Str):List Stmt:=match fnOf f with
 |some fn=>fn.body
 |none=>[]
def Zm:Option Stmt→List Stmt
 |some (.For _ _ b _ _)=>b
 |_=>[]
def mvOf (f:Str):List Str:=mutsSs (Zs f)
theorem Z4 {ts:List T}{a:T}(h:ts.length < 2000):Zai (.list ts) "append" [a]=some (.list (ts++[a])):=by
 show (if ("append":Str)="append"∧ts.length < 2000 then some (T.list (ts++[a])) else none)=_;rw [if_pos ⟨rfl,h⟩]
def optT:Option Int→T
 |some i=>.int i
 |none=>.none
def J8:List (Option Int)→List Int→Str ⊕ List Int
 |[],acc=>.inr acc
 |none::_,_=>.inl "the dims contain missing values"
 |some i::r,acc=>if i < 0 then .inl "the dims contain negative values" else J8 r (acc++[i])
section
variable (G:Calls)(σ:Sg)
theorem Zj9 (k':Str)(its:List T)(a:T)(hk:k'="integer"∨k'="logical"):∀(l:List (Option Int)) (acc:List Int) (t0:T),acc.length+l.length < 1000→
  cFor "item" (fun L k=>cSs G (Zm ((Zs "extents")[3]?)) L k) (l.map optT) { loc:=[("value",.vec k' its a),("item",t0)],own:=[("dims",.list (acc.map .int),.own)],mv:=mvOf "extents",hot:=false }
   (fun o L'=>match o with | .next=>cSs G ((Zs "extents").drop 4) L' (fun o _=>outT o) | o=>outT o) σ=match J8 l acc with
   |.inl m=>.exn m σ
   |.inr ds=>.ok (.list (ds.map .int),.own) σ
 |[],acc,_,_=>by
  conv=>lhs;whnf
  rfl
 |none::r,acc,_,_=>by
  rcases hk with rfl | rfl<;>(conv=>lhs;whnf)<;>rfl
 |some i::r,acc,t0,hl=>by
  have hl':(acc.map T.int).length < 2000:=by simp at hl ⊢;omega
  unfold J8
  by_cases hi:i < 0
  ·rw [if_pos hi];rcases hk with rfl | rfl
   ·conv=>lhs;whnf
    rw [show decide (i < 0)=true from dT hi];rfl
   ·conv=>lhs;whnf
    rw [show decide (i < 0)=true from dT hi];rfl
  ·rw [if_neg hi];have ih:=Zj9 k' its a hk r (acc++[i]) (.int i) (by simp at hl ⊢;omega);rw [List.map_append] at ih;rw [←ih];rcases hk with rfl | rfl
   ·conv=>lhs;whnf
    rw [show decide (i < 0)=false from dF hi]
    conv=>lhs;whnf
    rw [Z4 hl'];rfl
   ·conv=>lhs;whnf
    rw [show decide (i < 0)=false from dF hi]
    conv=>lhs;whnf
    rw [Z4 hl'];rfl
theorem Zj7 (k':Str)(hk:k'="integer"∨k'="logical")(l:List (Option Int))(a:T)(hl:l.length < 1000)(hne:l≠[]):Ze G "extents" [.vec k' (l.map optT) a] σ=match J8 l [] with
   |.inl m=>.exn m σ
   |.inr ds=>.ok (.list (ds.map .int),.own) σ:=by
 rw [←Zj9 G σ k' (l.map optT) a hk l [] .none (by simpa using hl)];have hz:decide (((l.map optT).length:Int)=0)=false:=dF (by
  have:=List.length_pos_iff.mpr hne;simp;omega)
 have hm:l.map optT≠[]:=by simpa using hne
 rcases hk with rfl | rfl
 ·conv=>lhs;whnf
  rw [hz]
  conv=>lhs;whnf
  rw [Zcf .none hm];rfl
 ·conv=>lhs;whnf
  rw [hz]
  conv=>lhs;whnf
  rw [Zcf .none hm];rfl
end
section
variable (d:Nat)(σ:Sg)
theorem Zow:Zd (d+9) "number_text" [.tup [.int 1,.int 2],.int 15] σ=.ok (.str "0.5",.val) σ:=by kernel_rfl
theorem Zov:Zd (d+9) "number_text" [.tup [.int 3,.int 2],.int 15] σ=.ok (.str "1.5",.val) σ:=by kernel_rfl
theorem Zou:Zd (d+9) "number_text" [.tup [.int 5,.int 2],.int 15] σ=.ok (.str "2.5",.val) σ:=by kernel_rfl
theorem Zot:Zd (d+9) "number_text" [.tup [.int 7,.int 2],.int 15] σ=.ok (.str "3.5",.val) σ:=by kernel_rfl
theorem Zos:Zd (d+9) "number_text" [.tup [.int 9,.int 2],.int 15] σ=.ok (.str "4.5",.val) σ:=by kernel_rfl
theorem Zor:Zd (d+9) "number_text" [.tup [.int 11,.int 2],.int 15] σ=.ok (.str "5.5",.val) σ:=by kernel_rfl
theorem Zoq:Zd (d+9) "number_text" [.tup [.int 13,.int 2],.int 15] σ=.ok (.str "6.5",.val) σ:=by kernel_rfl
theorem Zop:Zd (d+9) "number_text" [.tup [.int 15,.int 2],.int 15] σ=.ok (.str "7.5",.val) σ:=by kernel_rfl
theorem Zoo:Zd (d+9) "number_text" [.tup [.int 17,.int 2],.int 15] σ=.ok (.str "8.5",.val) σ:=by kernel_rfl
end
section
variable (G:Calls)(σ:Sg)(row:Option (List Int))(k:Str)(its:List T)(at':Option (List (Str×T)))(ep:Nat)
theorem Zf6 (ts:List T)(a:T):Ze G "is_atomic" [.vec "character" ts a] σ=.ok (.bool true,.val) σ:=by kernel_rfl
theorem Zrp (ts:List T)(a:T):Ze G "is_atomic" [.vec "integer" ts a] σ=.ok (.bool true,.val) σ:=by kernel_rfl
theorem Zrq (ts:List T)(a:T):Ze G "is_atomic" [.vec "double" ts a] σ=.ok (.bool true,.val) σ:=by kernel_rfl
theorem Zro (ts:List T)(a:T):Ze G "is_atomic" [.vec "logical" ts a] σ=.ok (.bool true,.val) σ:=by kernel_rfl
theorem Zrn (ts:List T)(a:T):Ze G "is_atomic" [.vec "list" ts a] σ=.ok (.bool false,.val) σ:=by kernel_rfl
theorem Zrm:Ze G "is_atomic" [.null] σ=.ok (.bool false,.val) σ:=by kernel_rfl
theorem Zjc (ts:List T)(a:T):Ze G "length" [.vec "character" ts a] σ=.ok (.int ts.length,.val) σ:=by kernel_rfl
theorem Zqk:Ze G "length" [.null] σ=.ok (.int 0,.val) σ:=by kernel_rfl
theorem Zqj (hk:k≠"NULL"):Ze G "length" [.self] (SG row k its at' ep)=.ok (.int its.length,.val) (SG row k its at' ep):=by
 conv=>lhs;whnf
 rw [dF hk];rfl
theorem Zg0 (ts:List T):Ze G "character" [.list ts] σ=.ok (.vec "character" ts .none,.ownIo) σ:=by kernel_rfl
theorem Zjv (ts:List T):Ze G "integer" [.list ts] σ=.ok (.vec "integer" ts .none,.ownIo) σ:=by kernel_rfl
theorem Zox:Ze G "null" [] σ=.ok (.null,.val) σ:=by kernel_rfl
theorem Zhu (k':Str)(ts:List T)(a:T):Ze G "share" [.vec k' ts a] σ=.ok (.vec k' ts a,.val) σ:=by kernel_rfl
theorem Zm4:Ze G "share" [.null] σ=.ok (.null,.val) σ:=by kernel_rfl
theorem Zc0 (k':Str)(ts:List T)(n:Str):Ze G "get_attr" [.vec k' ts .none,.str n] σ=.ok (.none,.val) σ:=by kernel_rfl
theorem Zr4 (k':Str)(ts:List T)(n:Str)(es:List (Str×T)):Ze G "get_attr" [.vec k' ts (.dict es),.str n] σ=.ok ((es.lookup n).getD .none,.val) σ:=by kernel_rfl
theorem Zo5 (s:Option SelfSt):Ze G "_law_next" [.row] ⟨some [],s⟩=.ok (.int 0,.val) ⟨some [],s⟩:=by kernel_rfl
theorem Zo6 (r:List Int)(x:Int)(s:Option SelfSt):Ze G "_law_next" [.row] ⟨some (r++[x]),s⟩=.ok (.int x,.val) ⟨some r,s⟩:=by
 have h1:(!(r++[x]).isEmpty)=true:=by simp
 conv=>lhs;whnf
 rw [h1]
 conv=>lhs;whnf
 have h2:Q8 .row "pop" [] ⟨some (r++[x]),s⟩=.ok (.int x,.val) ⟨some r,s⟩:=by
  show (match (r++[x]).getLast? with
   |some y=>(Res.ok (T.int y,Kd.val) { row:=some (r++[x]).dropLast,self:=s }:Res (T×Kd))
   |none=>.stuck)=_
  rw [List.getLast?_concat,List.dropLast_concat]
 rw [show Q8 (T.row,Kd.val).1 "pop" (List.map (fun (x:T×Kd)=>x.1) []) ⟨some (r++[x]),s⟩=_ from h2];rfl
theorem Zo4 (r:List Int)(hr:∀x∈r,0≤x∧x < 1024)(s:Option SelfSt):∃x r',(0≤x∧x < 1024)∧(∀y∈r',0≤y∧y < 1024)∧Ze G "_law_next" [.row] ⟨some r,s⟩=.ok (.int x,.val) ⟨some r',s⟩:=by
 rcases List.eq_nil_or_concat r with rfl | ⟨r',x,rfl⟩
 ·exact ⟨0,[],by omega,fun y hy=>absurd hy List.not_mem_nil,Zo5 G s⟩
 ·rw [List.concat_eq_append] at hr ⊢;exact ⟨x,r',hr x (by simp),fun y hy=>hr y (by simp [hy]),Zo6 G r' x s⟩
end
structure Low (G:Calls):Prop where
 drop:∀n row k its at' ep,∃ep',G "drop_attr" [.self,.str n] (SG row k its at' ep)=.ok (.none,.val) (SG row k its (Z1 at' n) ep')
 put:∀n k' ts a row k its at' ep,(at'.getD []).length < 1000→∃ep',G "put_attr" [.self,.str n,.vec k' ts a] (SG row k its at' ep)=.ok (.none,.val) (SG row k its (putA at' n (.vec k' ts a)) ep')
 chr:∀ts σ,G "character" [.list ts] σ=.ok (.vec "character" ts .none,.ownIo) σ
 int:∀ts σ,G "integer" [.list ts] σ=.ok (.vec "integer" ts .none,.ownIo) σ
 share:∀k' ts a σ,G "share" [.vec k' ts a] σ=.ok (.vec k' ts a,.val) σ
theorem Zi4 (d:Nat):Low (Zd (d+2)):=by
 refine ⟨fun n row k its at' ep=>?_,fun n k' ts a row k its at' ep hz=>?_,fun ts σ=>?_,fun ts σ=>?_,fun k' ts a σ=>?_⟩
 ·exact Zgn (d+1) row k its ep n at'
 ·exact Zid d row k its ep n k' ts a at' hz
 ·rw [Zf];exact Zg0 _ σ ts
 ·rw [Zf];exact Zjv _ σ ts
 ·rw [Zf];exact Zhu _ σ k' ts a
section
variable {G:Calls}(W:Low G)(row:Option (List Int))(k:Str)(its:List T)(at':Option (List (Str×T)))(ep:Nat)
include W
theorem Zm9 (hk:k≠"language")(hd:G "dim_of" [.self] (SG row k its at' ep)=.ok (.none,.val) (SG row k its at' ep)):
  ∃ep',Ze G "set_names" [.self,.none] (SG row k its at' ep)=.ok (.none,.val) (SG row k its (Z1 at' "names") ep'):=by
 obtain ⟨ep',e⟩:=W.drop "names" row k its at' ep;refine ⟨ep',?_⟩
 conv=>lhs;whnf
 rw [dF hk]
 conv=>lhs;whnf
 rw [hd]
 conv=>lhs;whnf
 rw [e];rfl
theorem Znb (ts:List T)(hk:k≠"language")(hz:(at'.getD []).length < 1000)(hd:G "dim_of" [.self] (SG row k its at' ep)=.ok (.none,.val) (SG row k its at' ep)):
  ∃ep',Ze G "set_names" [.self,.list ts] (SG row k its at' ep)=.ok (.none,.val) (SG row k its (putA at' "names" (.vec "character" ts .none)) ep'):=by
 obtain ⟨ep',e⟩:=W.put "names" "character" ts .none row k its at' ep hz;refine ⟨ep',?_⟩
 conv=>lhs;whnf
 rw [dF hk]
 conv=>lhs;whnf
 rw [hd]
 conv=>lhs;whnf
 rw [W.chr]
 conv=>lhs;whnf
 rw [e];rfl
theorem Zm8 (ds:List T)(hk:k≠"language")(hd:G "dim_of" [.self] (SG row k its at' ep)=.ok (.list ds,.own) (SG row k its at' ep)):
  ∃ep',Ze G "set_names" [.self,.none] (SG row k its at' ep)=.ok (.none,.val) (SG row k its (Z1 at' (if ds.length=1 then "dimnames" else "names")) ep'):=by
 by_cases hl:ds.length=1
 ·obtain ⟨ep',e⟩:=W.drop "dimnames" row k its at' ep;refine ⟨ep',?_⟩;rw [if_pos hl]
  conv=>lhs;whnf
  rw [dF hk]
  conv=>lhs;whnf
  rw [hd]
  conv=>lhs;whnf
  rw [show decide ((ds.length:Int)=1)=true from dT (by omega)]
  conv=>lhs;whnf
  rw [e];rfl
 ·obtain ⟨ep',e⟩:=W.drop "names" row k its at' ep;refine ⟨ep',?_⟩;rw [if_neg hl]
  conv=>lhs;whnf
  rw [dF hk]
  conv=>lhs;whnf
  rw [hd]
  conv=>lhs;whnf
  rw [show decide ((ds.length:Int)=1)=false from dF (by omega)]
  conv=>lhs;whnf
  rw [e];rfl
theorem Zna (ds ts:List T)(hk:k≠"language")(hz:(at'.getD []).length < 1000)(hd:G "dim_of" [.self] (SG row k its at' ep)=.ok (.list ds,.own) (SG row k its at' ep)):
  ∃ep',Ze G "set_names" [.self,.list ts] (SG row k its at' ep)=.ok (.none,.val) (SG row k its (if ds.length=1 then putA at' "dimnames" (.vec "list" [.vec "character" ts .none] .none) else putA at' "names" (.vec "character" ts .none)) ep'):=by
 by_cases hl:ds.length=1
 ·obtain ⟨ep',e⟩:=W.put "dimnames" "list" [.vec "character" ts .none] .none row k its at' ep hz;refine ⟨ep',?_⟩;rw [if_pos hl]
  conv=>lhs;whnf
  rw [dF hk]
  conv=>lhs;whnf
  rw [hd]
  conv=>lhs;whnf
  rw [show decide ((ds.length:Int)=1)=true from dT (by omega)]
  conv=>lhs;whnf
  rw [W.chr]
  conv=>lhs;whnf
  rw [W.share]
  conv=>lhs;whnf
  rw [e];rfl
 ·obtain ⟨ep',e⟩:=W.put "names" "character" ts .none row k its at' ep hz;refine ⟨ep',?_⟩;rw [if_neg hl]
  conv=>lhs;whnf
  rw [dF hk]
  conv=>lhs;whnf
  rw [hd]
  conv=>lhs;whnf
  rw [show decide ((ds.length:Int)=1)=false from dF (by omega)]
  conv=>lhs;whnf
  rw [W.chr]
  conv=>lhs;whnf
  rw [e];rfl
end
def Zbp:Option Stmt→Expr
 |some (.While t _ _ _)=>t
 |_=>.Name "" default
def Zhe:Option Stmt→List Stmt
 |some (.While _ b _ _)=>b
 |_=>[]
theorem Jx {i:Int}{kd:Kd}{σ:Sg}(h:Zj i=true):fmtM (.int i,kd) σ=.ok (.str (Zg i),.val) σ:=by
 show (if Zj i=true then val (.str (Zg i)) else stuck) σ=_;rw [if_pos h];rfl
theorem Jl {n:Nat}(h:n < 1000):Zj (n:Int)=true:=by
 unfold Zj;exact dT (by omega)
def msgN (a b:Nat):Str:=((((Str.empty++"'names' attribute [")++Zg a)++"] must be the same length as the vector [")++Zg b)++"]"
theorem Zpm:∀a:Nat,a < 20→∀b:Nat,b < 20→((Str.empty++"'names' attribute [")++Zg a:Str).length≤Zc∧(((Str.empty++"'names' attribute [")++Zg a)++"] must be the same length as the vector [":Str).length≤Zc∧
  ((((Str.empty++"'names' attribute [")++Zg a)++"] must be the same length as the vector [")++Zg b:Str).length≤Zc∧(msgN a b).length≤Zc:=by decide +kernel
section
variable (G:Calls)(σ:Sg)
theorem Zim (v value:T)(c:Nat)(k:Out→Lv→M (T×Kd)):∀(m n:Nat) (ts:List T),ts.length+m=c→m < n→c < 1000→
  Zce (Zbp ((Zs "set_name_value")[5]?)) (fun L=>evalT G L.ev (Zbp ((Zs "set_name_value")[5]?)) (Za G L.ev (Zbp ((Zs "set_name_value")[5]?)))) (fun L k=>cSs G (Zhe ((Zs "set_name_value")[5]?)) L k) n
   { loc:=[("v",v),("value",value),("count",.int c)],own:=[("texts",.list ts,.own)],mv:=mvOf "set_name_value",hot:=false } k σ=
  k .next { loc:=[("v",v),("value",value),("count",.int c)],own:=[("texts",.list (ts++List.replicate m .none),.own)],mv:=mvOf "set_name_value",hot:=false } σ
 |0,n+1,ts,h,_,_=>by
  rw [List.replicate_zero,List.append_nil]
  conv=>lhs;whnf
  rw [show decide ((ts.length:Int) < (c:Int))=false from dF (by omega)];rfl
 |m+1,n+1,ts,h,hn,hc=>by
  have ih:=Zim v value c k m n (ts++[.none]) (by simp;omega) (by omega) hc;rw [show ts++List.replicate (m+1) T.none=(ts++[.none])++List.replicate m T.none by simp [List.replicate_succ],←ih]
  conv=>lhs;whnf
  rw [show decide ((ts.length:Int) < (c:Int))=true from dT (by omega)]
  conv=>lhs;whnf
  rw [Z4 (by omega)];rfl
theorem Znd (its:List T)(row:Option (List Int))(kd:Str)(at' at2:Option (List (Str×T)))(ep ep':Nat)(h:G "set_names" [.self,.none] (SG row kd its at' ep)=.ok (.none,.val) (SG row kd its at2 ep')):
  Ze G "set_name_value" [.self,.null] (SG row kd its at' ep)=.ok (.none,.val) (SG row kd its at2 ep'):=by
 conv=>lhs;whnf
 rw [h];rfl
theorem Znc (k':Str)(us:List T)(a:T)(m:Str)(its:List T)(row:Option (List Int))(kd:Str)(at':Option (List (Str×T)))(ep:Nat)(hk:k'≠"NULL")(h:G "atomic_labels" [.vec k' us a,.str "names"] (SG row kd its at' ep)=.exn m (SG row kd its at' ep)):
  Ze G "set_name_value" [.self,.vec k' us a] (SG row kd its at' ep)=.exn m (SG row kd its at' ep):=by
 conv=>lhs;whnf
 rw [dF hk]
 conv=>lhs;whnf
 rw [h]
theorem Znf (k':Str)(us ts:List T)(a:T)(its:List T)(row:Option (List Int))(kd:Str)(at' at2:Option (List (Str×T)))(ep ep':Nat)(hk:k'≠"NULL")(h:G "atomic_labels" [.vec k' us a,.str "names"] (SG row kd its at' ep)=.ok (.list ts,.own) (SG row kd its at' ep))
  (h2:G "length" [.self] (SG row kd its at' ep)=.ok (.int its.length,.val) (SG row kd its at' ep)) (hl:ts.length≤its.length) (hb:its.length < 20) (h3:G "set_names" [.self,.list (ts++List.replicate (its.length - ts.length) .none)] (SG row kd its at' ep)=.ok (.none,.val) (SG row kd its at2 ep')):
  Ze G "set_name_value" [.self,.vec k' us a] (SG row kd its at' ep)=.ok (.none,.val) (SG row kd its at2 ep'):=by
 conv=>lhs;whnf
 rw [dF hk]
 conv=>lhs;whnf
 rw [h]
 conv=>lhs;whnf
 rw [h2]
 conv=>lhs;whnf
 rw [show decide ((its.length:Int) < (ts.length:Int))=false from dF (by omega)];refine (Zim G _ .self (.vec k' us a) its.length _ (its.length - ts.length) 40 ts (by omega) (by omega) (by omega)).trans ?_
 conv=>lhs;whnf
 rw [h3];rfl
theorem Zne (k':Str)(us ts:List T)(a:T)(its:List T)(row:Option (List Int))(kd:Str)(at':Option (List (Str×T)))(ep:Nat)(hk:k'≠"NULL")(h:G "atomic_labels" [.vec k' us a,.str "names"] (SG row kd its at' ep)=.ok (.list ts,.own) (SG row kd its at' ep))
  (h2:G "length" [.self] (SG row kd its at' ep)=.ok (.int its.length,.val) (SG row kd its at' ep)) (hl:its.length < ts.length) (hb:ts.length < 20):
  Ze G "set_name_value" [.self,.vec k' us a] (SG row kd its at' ep)=.exn (msgN ts.length its.length) (SG row kd its at' ep):=by
 conv=>lhs;whnf
 rw [dF hk]
 conv=>lhs;whnf
 rw [h]
 conv=>lhs;whnf
 rw [h2]
 conv=>lhs;whnf
 rw [show decide ((its.length:Int) < (ts.length:Int))=true from dT (by omega)]
 conv=>lhs;whnf
 obtain ⟨f1,f2,f3,f4⟩:=Zpm ts.length hb its.length (by omega);refine Eq.trans (b:=(fmtM (.int ts.length,.val)>>=fun t=>strM t>>=fun x=>if ((Str.empty++"'names' attribute [")++x:Str).length≤Zc then
  (if (((Str.empty++"'names' attribute [")++x)++"] must be the same length as the vector [":Str).length≤Zc then
   fmtM (.int its.length,.val)>>=fun t=>strM t>>=fun y=>if ((((Str.empty++"'names' attribute [")++x)++"] must be the same length as the vector [")++y:Str).length≤Zc then
    (if (((((Str.empty++"'names' attribute [")++x)++"] must be the same length as the vector [")++y)++"]":Str).length≤Zc then
     Jc (((((Str.empty++"'names' attribute [")++x)++"] must be the same length as the vector [")++y)++"]") else stuck) else stuck
   else stuck) else stuck:M (T×Kd)) (SG row kd its at' ep)) ?_ ?_
 ·kernel_rfl
 ·have b1:∀{α β:Type} {m:M α} {f:α→M β} {a:α} {σ σ':Sg},m σ=.ok a σ'→(m>>=f) σ=f a σ':=fun e=>by
   show M.bind _ _ _=_;unfold M.bind;rw [e]
  rw [b1 (Jx (Jl (by omega)))];rw [b1 (show strM (T.str (Zg ts.length),Kd.val) _=.ok (Zg ts.length) _ from rfl)];rw [if_pos f1,if_pos f2];rw [b1 (Jx (Jl (by omega)))];rw [b1 (show strM (T.str (Zg its.length),Kd.val) _=.ok (Zg its.length) _ from rfl)];rw [if_pos f3,if_pos (show (((((Str.empty++"'names' attribute [")++Zg ts.length)++"] must be the same length as the vector [")++Zg its.length)++"]":Str).length≤Zc from f4)];rfl
end
theorem Zh {α β:Type}{m:M α}{f:α→M β}{a:α}{σ σ':Sg}(e:m σ=.ok a σ'):(m>>=f) σ=f a σ':=by
 show M.bind _ _ _=_;unfold M.bind;rw [e]
section
variable (G:Calls)(σ:Sg)
theorem Zdj (k':Str)(us ts:List T)(a:T)(what:Str)(h1:G "is_atomic" [.vec k' us a] σ=.ok (.bool true,.val) σ)(h2:G "label_texts" [.vec k' us a] σ=.ok (.list ts,.own) σ):
  Ze G "atomic_labels" [.vec k' us a,.str what] σ=.ok (.list ts,.own) σ:=by
 conv=>lhs;whnf
 rw [h1]
 conv=>lhs;whnf
 rw [h2];rfl
theorem Znp (k:Str)(its at' at2 ep ep' row)(a:T)(h:G "drop_attr" [.self,.str "class"] (SG row k its at' ep)=.ok (.none,.val) (SG row k its at2 ep')):
  Ze G "set_class" [.self,.vec "character" [] a] (SG row k its at' ep)=.ok (.none,.val) (SG row k its at2 ep'):=by
 conv=>lhs;whnf
 rw [h];rfl
theorem Zno (k:Str)(its at' ep row)(k':Str)(us:List T)(a:T)(hk:k'≠"character"):
  Ze G "set_class" [.self,.vec k' us a] (SG row k its at' ep)=.exn "attempt to set invalid 'class' attribute" (SG row k its at' ep):=by
 conv=>lhs;whnf
 rw [dF hk];rfl
theorem Zjz {x:Str}{us:List T}(h:us.all Q9=true):cmpK .In (.str x,.val) (.list us) σ=.ok (.bool (us.any (isK x))) σ:=by
 show (match (if us.all Q9=true then some (us.any (isK x)) else none) with
  |some r=>(Res.ok (T.bool r) σ:Res T)
  |none=>.stuck)=_
 rw [if_pos h]
theorem Znq (k:Str)(its at' ep row)(us:List T)(a:T)(hu:us.all Q9=true)(hne:us≠[])(hf:us.any (isK "factor")=true)(hk:k≠"integer"):
  Ze G "set_class" [.self,.vec "character" us a] (SG row k its at' ep)=.exn "adding class \"factor\" to an invalid object" (SG row k its at' ep):=by
 have hz:decide ((us.length:Int)=0)=false:=dF (by have:=List.length_pos_iff.mpr hne;omega)
 conv=>lhs;whnf
 rw [hz]
 conv=>lhs;whnf
 rw [Zjz _ hu]
 conv=>lhs;whnf
 rw [hf]
 conv=>lhs;whnf
 rw [dF hk];rfl
theorem Znn (k:Str)(its at' at2 ep ep' row)(us:List T)(a:T)(hu:us.all Q9=true)(hne:us≠[])(hf:us.any (isK "factor")=false∨k="integer")(h:G "put_attr" [.self,.str "class",.vec "character" us .none] (SG row k its at' ep)=.ok (.none,.val) (SG row k its at2 ep')):
  Ze G "set_class" [.self,.vec "character" us a] (SG row k its at' ep)=.ok (.none,.val) (SG row k its at2 ep'):=by
 have hz:decide ((us.length:Int)=0)=false:=dF (by have:=List.length_pos_iff.mpr hne;omega)
 conv=>lhs;whnf
 rw [hz]
 conv=>lhs;whnf
 rw [Zjz _ hu]
 conv=>lhs;whnf
 cases hb:us.any (isK "factor") with
 |false=>
  conv=>lhs;whnf
  rw [h];rfl
 |true=>
  rcases hf with q | rfl
  ·rw [hb] at q;cases q
  ·conv=>lhs;whnf
   rw [h];rfl
end
section
variable (G:Calls)(σ:Sg)
theorem shape_none (row)(k:Str)(its at' ep)(h:G "dim_of" [.self] (SG row k its at' ep)=.ok (.none,.val) (SG row k its at' ep)):Ze G "shape_class" [.self] (SG row k its at' ep)=.ok (.list [],.own) (SG row k its at' ep):=by
 conv=>lhs;whnf
 rw [h];rfl
theorem shape_some (row)(k:Str)(its at' ep)(ds:List T)(h:G "dim_of" [.self] (SG row k its at' ep)=.ok (.list ds,.own) (SG row k its at' ep)):Ze G "shape_class" [.self] (SG row k its at' ep)=.ok (.list (if ds.length=2 then [.str "matrix",.str "array"] else [.str "array"]),.own) (SG row k its at' ep):=by
 conv=>lhs;whnf
 rw [h]
 conv=>lhs;whnf
 by_cases hl:ds.length=2
 ·rw [show decide ((ds.length:Int)=2)=true from dT (by omega),if_pos hl];rfl
 ·rw [show decide ((ds.length:Int)=2)=false from dF (by omega),if_neg hl];rfl
theorem Zof (row its at' ep):Ze G "plain_class" [.self] (SG row "integer" its at' ep)=.ok (.str "integer",.val) (SG row "integer" its at' ep):=by kernel_rfl
theorem Zog (row its at' ep):Ze G "plain_class" [.self] (SG row "double" its at' ep)=.ok (.str "double",.val) (SG row "double" its at' ep):=by kernel_rfl
theorem Zoh (row its at' ep):Ze G "plain_class" [.self] (SG row "character" its at' ep)=.ok (.str "character",.val) (SG row "character" its at' ep):=by kernel_rfl
theorem Zoe (row its at' ep):Ze G "plain_class" [.self] (SG row "logical" its at' ep)=.ok (.str "logical",.val) (SG row "logical" its at' ep):=by kernel_rfl
theorem Zod (row its at' ep):Ze G "plain_class" [.self] (SG row "list" its at' ep)=.ok (.str "list",.val) (SG row "list" its at' ep):=by kernel_rfl
theorem Zt1 (σ:Sg)(h:G "get_attr" [.self,.str "class"] σ=.ok (.none,.val) σ):Ze G "class_attr" [.self] σ=.ok (.list [],.own) σ:=by
 conv=>lhs;whnf
 rw [h];rfl
theorem Zt0 (σ:Sg)(k':Str)(us:List T)(a:T)(h:G "get_attr" [.self,.str "class"] σ=.ok (.vec k' us a,.val) σ):Ze G "class_attr" [.self] σ=.ok (.list us,.own) σ:=by
 conv=>lhs;whnf
 rw [h];rfl
end
section
variable (G:Calls)
theorem Zty (σ:Sg)(us:List T)(hne:us≠[])(h:G "class_attr" [.self] σ=.ok (.list us,.own) σ):Ze G "class_of" [.self] σ=.ok (.list us,.val) σ:=by
 conv=>lhs;whnf
 rw [h]
 conv=>lhs;whnf
 rw [show decide ((0:Int) < (us.length:Int))=true from dT (by have:=List.length_pos_iff.mpr hne;omega)];rfl
theorem Ztw (σ:Sg)(us:List T)(hne:us≠[])(h:G "class_attr" [.self] σ=.ok (.list [],.own) σ)(h2:G "shape_class" [.self] σ=.ok (.list us,.own) σ):Ze G "class_of" [.self] σ=.ok (.list us,.val) σ:=by
 conv=>lhs;whnf
 rw [h]
 conv=>lhs;whnf
 rw [h2]
 conv=>lhs;whnf
 rw [show decide ((0:Int) < (us.length:Int))=true from dT (by have:=List.length_pos_iff.mpr hne;omega)];rfl
theorem Ztx (row)(k:Str)(its at' ep)(hk:k≠"double")(h:G "class_attr" [.self] (SG row k its at' ep)=.ok (.list [],.own) (SG row k its at' ep))(h2:G "shape_class" [.self] (SG row k its at' ep)=.ok (.list [],.own) (SG row k its at' ep))(h3:G "plain_class" [.self] (SG row k its at' ep)=.ok (.str k,.val) (SG row k its at' ep)):
  Ze G "class_of" [.self] (SG row k its at' ep)=.ok (.list [.str k],.own) (SG row k its at' ep):=by
 conv=>lhs;whnf
 rw [h]
 conv=>lhs;whnf
 rw [h2]
 conv=>lhs;whnf
 rw [dF hk]
 conv=>lhs;whnf
 rw [h3];rfl
theorem Ztz (row)(its at' ep)(h:G "class_attr" [.self] (SG row "double" its at' ep)=.ok (.list [],.own) (SG row "double" its at' ep))(h2:G "shape_class" [.self] (SG row "double" its at' ep)=.ok (.list [],.own) (SG row "double" its at' ep)):
  Ze G "class_of" [.self] (SG row "double" its at' ep)=.ok (.list [.str "numeric"],.own) (SG row "double" its at' ep):=by
 conv=>lhs;whnf
 rw [h]
 conv=>lhs;whnf
 rw [h2];rfl
end
section
variable (G:Calls)
def numT (k:Str):List T:=if k="integer"∨k="double" then [.str "numeric"] else []
theorem Zrz (row)(k:Str)(its at' ep)(us:List T)(hus:us.length≤2)(h2:G "shape_class" [.self] (SG row k its at' ep)=.ok (.list us,.own) (SG row k its at' ep))(h3:G "plain_class" [.self] (SG row k its at' ep)=.ok (.str k,.val) (SG row k its at' ep)):
  Ze G "implicit_class" [.self] (SG row k its at' ep)=.ok (.list (us++[.str k]++numT k),.own) (SG row k its at' ep):=by
 have hb:binT .Add (.list us) (.list [.str k])=some (.list (us++[.str k]),.own):=by
  show (if us.length+1≤Zc then some (T.list (us++[.str k]),Kd.own) else none)=_;rw [if_pos (by unfold Zc;omega)]
 have hl:(us++[T.str k]).length < 2000:=by simp;omega
 conv=>lhs;whnf
 rw [h3]
 conv=>lhs;whnf
 rw [h2]
 conv=>lhs;whnf
 rw [hb]
 conv=>lhs;whnf
 unfold numT
 by_cases h1:k="integer"
 ·rw [show decide (k=("integer":Str))=true from dT h1,if_pos (.inl h1)]
  conv=>lhs;whnf
  rw [Z4 hl];rfl
 ·rw [dF h1]
  conv=>lhs;whnf
  by_cases h4:k="double"
  ·rw [show decide (k=("double":Str))=true from dT h4,if_pos (.inr h4)]
   conv=>lhs;whnf
   rw [Z4 hl];rfl
  ·rw [show decide (k=("double":Str))=false from dF h4,if_neg (fun q=>q.elim h1 h4),List.append_nil];rfl
end
def mbT (t:T):Bool:=(inTs t [.str "matrix",.str "b"]).getD false
section
variable (G:Calls)
theorem Zry (t:T)(σ:Sg)(kd:Kd)(hk:kd≠.h)(ht:t=.none∨∃x,t=.str x):cmpK .In (t,kd) (.list [.str "matrix",.str "b"]) σ=.ok (.bool (mbT t)) σ:=by
 unfold cmpK;rw [if_neg hk];rcases ht with rfl | ⟨x,rfl⟩<;>rfl
theorem Zjy (σ:Sg):∀(us:List T) (t0:T),(∀t∈us,t=.none∨∃x,t=.str x)→
  cFor "one" (fun L k=>cSs G (Zm ((Zs "inherits")[0]?)) L k) us { loc:=[("v",.self),("names",.list [.str "matrix",.str "b"]),("one",t0)],own:=[],mv:=mvOf "inherits",hot:=false }
   (fun o L'=>match o with | .next=>cSs G ((Zs "inherits").drop 1) L' (fun o _=>outT o) | o=>outT o) σ=.ok (.bool (us.any mbT),.val) σ
 |[],t0,_=>by
  conv=>lhs;whnf
  rfl
 |t::r,t0,h=>by
  have ih:=Zjy σ r t (fun u hu=>h u (by simp [hu]));rw [List.any_cons]
  conv=>lhs;whnf
  rw [Zry t σ _ (by simp) (h t (by simp))]
  conv=>lhs;whnf
  cases mbT t with
  |true=>rfl
  |false=>
   rw [Bool.false_or,←ih];rfl
theorem Zrv (σ:Sg)(us:List T)(kd:Kd)(hk:kd≠.h)(hus:∀t∈us,t=.none∨∃x,t=.str x)(h:G "class_of" [.self] σ=.ok (.list us,kd) σ):
  Ze G "inherits" [.self,.list [.str "matrix",.str "b"]] σ=.ok (.bool (us.any mbT),.val) σ:=by
 have e:=Zjy G σ us .none hus
 cases us with
 |nil=>
  cases kd<;>first | exact absurd rfl hk | (conv=>lhs;whnf;skip)
  all_goals (rw [h];rfl)
 |cons t r=>
  rw [←e,←show ({ loc:=[("v",.self),("names",.list [.str "matrix",.str "b"])],own:=[],mv:=mvOf "inherits",hot:=false }:Lv).bindVal "one" .none={ loc:=[("v",.self),("names",.list [.str "matrix",.str "b"]),("one",.none)],own:=[],mv:=mvOf "inherits",hot:=false } from rfl,←Zcf .none (by simp)];cases kd<;>first | exact absurd rfl hk | (conv=>lhs;whnf;skip)
  all_goals (rw [h];rfl)
end
section
variable (G:Calls)
theorem Zpa (row)(k:Str)(its at' ep)(hk:k≠"language")(hk2:k≠"environment")(hd:G "dim_of" [.self] (SG row k its at' ep)=.ok (.none,.val) (SG row k its at' ep))(hn:G "get_attr" [.self,.str "names"] (SG row k its at' ep)=.ok (.none,.val) (SG row k its at' ep)):
  Ze G "names_of" [.self] (SG row k its at' ep)=.ok (.none,.val) (SG row k its at' ep):=by
 conv=>lhs;whnf
 rw [dF hk]
 conv=>lhs;whnf
 rw [dF hk2]
 conv=>lhs;whnf
 rw [hd]
 conv=>lhs;whnf
 rw [hn];rfl
theorem Zo9 (row)(k:Str)(its at' ep)(k':Str)(us:List T)(a:T)(hk:k≠"language")(hk2:k≠"environment")(hd:G "dim_of" [.self] (SG row k its at' ep)=.ok (.none,.val) (SG row k its at' ep))(hn:G "get_attr" [.self,.str "names"] (SG row k its at' ep)=.ok (.vec k' us a,.val) (SG row k its at' ep)):
  Ze G "names_of" [.self] (SG row k its at' ep)=.ok (.list us,.own) (SG row k its at' ep):=by
 conv=>lhs;whnf
 rw [dF hk]
 conv=>lhs;whnf
 rw [dF hk2]
 conv=>lhs;whnf
 rw [hd]
 conv=>lhs;whnf
 rw [hn];rfl
theorem Zpe (row)(k:Str)(its at' ep)(ds:List T)(hk:k≠"language")(hk2:k≠"environment")(hd:G "dim_of" [.self] (SG row k its at' ep)=.ok (.list ds,.own) (SG row k its at' ep))(hl:ds.length=1)(hn:G "dimnames_of" [.self] (SG row k its at' ep)=.ok (.none,.val) (SG row k its at' ep)):
  Ze G "names_of" [.self] (SG row k its at' ep)=.ok (.none,.val) (SG row k its at' ep):=by
 conv=>lhs;whnf
 rw [dF hk]
 conv=>lhs;whnf
 rw [dF hk2]
 conv=>lhs;whnf
 rw [hd]
 conv=>lhs;whnf
 rw [show decide ((ds.length:Int)=1)=true from dT (by omega)]
 conv=>lhs;whnf
 rw [hn];rfl
theorem Zpd (row)(k:Str)(its at' ep)(ds:List T)(hk:k≠"language")(hk2:k≠"environment")(hd:G "dim_of" [.self] (SG row k its at' ep)=.ok (.list ds,.own) (SG row k its at' ep))(hl:ds.length=1)(t:T)(r:List T)(hn:G "dimnames_of" [.self] (SG row k its at' ep)=.ok (.list (t::r),.own) (SG row k its at' ep)):
  Ze G "names_of" [.self] (SG row k its at' ep)=.ok (t,.val) (SG row k its at' ep):=by
 conv=>lhs;whnf
 rw [dF hk]
 conv=>lhs;whnf
 rw [dF hk2]
 conv=>lhs;whnf
 rw [hd]
 conv=>lhs;whnf
 rw [show decide ((ds.length:Int)=1)=true from dT (by omega)]
 conv=>lhs;whnf
 rw [hn];rfl
theorem Zpc (row)(k:Str)(its at' ep)(ds:List T)(hk:k≠"language")(hk2:k≠"environment")(hd:G "dim_of" [.self] (SG row k its at' ep)=.ok (.list ds,.own) (SG row k its at' ep))(hl:ds.length≠1)(hn:G "get_attr" [.self,.str "names"] (SG row k its at' ep)=.ok (.none,.val) (SG row k its at' ep)):
  Ze G "names_of" [.self] (SG row k its at' ep)=.ok (.none,.val) (SG row k its at' ep):=by
 conv=>lhs;whnf
 rw [dF hk]
 conv=>lhs;whnf
 rw [dF hk2]
 conv=>lhs;whnf
 rw [hd]
 conv=>lhs;whnf
 rw [show decide ((ds.length:Int)=1)=false from dF (by omega)]
 conv=>lhs;whnf
 rw [hn];rfl
theorem Zpb (row)(k:Str)(its at' ep)(ds:List T)(hk:k≠"language")(hk2:k≠"environment")(hd:G "dim_of" [.self] (SG row k its at' ep)=.ok (.list ds,.own) (SG row k its at' ep))(hl:ds.length≠1)(k':Str)(us:List T)(a:T)(hn:G "get_attr" [.self,.str "names"] (SG row k its at' ep)=.ok (.vec k' us a,.val) (SG row k its at' ep)):
  Ze G "names_of" [.self] (SG row k its at' ep)=.ok (.list us,.own) (SG row k its at' ep):=by
 conv=>lhs;whnf
 rw [dF hk]
 conv=>lhs;whnf
 rw [dF hk2]
 conv=>lhs;whnf
 rw [hd]
 conv=>lhs;whnf
 rw [show decide ((ds.length:Int)=1)=false from dF (by omega)]
 conv=>lhs;whnf
 rw [hn];rfl
end
def J2:T→T
 |.vec _ us _=>.list us
 |_=>.none
section
variable (G:Calls)
theorem Zs8 (σ:Sg)(h:G "get_attr" [.self,.str "dimnames"] σ=.ok (.none,.val) σ):Ze G "dimnames_of" [.self] σ=.ok (.none,.val) σ:=by
 conv=>lhs;whnf
 rw [h];rfl
theorem Zs7 (σ:Sg)(k':Str)(ps:List T)(a:T)(hp:∀p∈ps,p=.null∨∃us,p=.vec "character" us .none)(h:G "get_attr" [.self,.str "dimnames"] σ=.ok (.vec k' ps a,.val) σ):
  Ze G "dimnames_of" [.self] σ=.ok (.list (ps.map J2),.own) σ:=by
 conv=>lhs;whnf
 rw [h]
 conv=>lhs;whnf
 rw [Qz J2]
 ·rfl
 ·intro t ht;rfl
 ·intro t ht;rcases hp t ht with rfl | ⟨us,rfl⟩
  ·exact ⟨.val,by simp,by kernel_rfl⟩
  ·exact ⟨.own,by simp,by kernel_rfl⟩
end
section
variable (G:Calls)
theorem Zng (row)(k:Str)(its at' at2 ep ep')(k':Str)(us:List T)(a:T)(hk:k'≠"character")(h:G "put_attr" [.self,.str "levels",.vec k' us a] (SG row k its at' ep)=.ok (.none,.val) (SG row k its at2 ep')):
  Ze G "set_levels" [.self,.vec k' us a] (SG row k its at' ep)=.ok (.none,.val) (SG row k its at2 ep'):=by
 conv=>lhs;whnf
 rw [dF hk]
 conv=>lhs;whnf
 rw [h];rfl
theorem Zn2 (σ:Sg)(n:Int)(h:n < 1000):Ze G "room" [.int n] σ=.ok (.int n,.val) σ:=by
 conv=>lhs;whnf
 rw [show decide ((1000000:Int) < n)=false from dF (by omega)];rfl
end
section
variable (G:Calls)
theorem Zn0 (row)(k:Str)(its at' at2 ep ep')(us:List T)(a:T)(h:G "put_attr" [.self,.str "row.names",.vec "character" us .none] (SG row k its at' ep)=.ok (.none,.val) (SG row k its at2 ep')):
  Ze G "set_row_names" [.self,.vec "character" us a] (SG row k its at' ep)=.ok (.none,.val) (SG row k its at2 ep'):=by
 conv=>lhs;whnf
 rw [h];rfl
end
theorem Q1 {i:Int}(h0:0≤i)(h1:i < 10 ^ 18):(Zg i).length≤18:=by
 obtain ⟨m,rfl⟩:=Int.eq_ofNat_of_zero_le h0;have e:=(Nat.length_repr_le_iff (n:=m) (by decide:0 < 18)).mpr (by omega);have e2:(Zg (m:Int)).cps.toList=(Nat.repr m).toList.map Char.toNat:=by
  unfold Zg;rw [signs_ofString];rfl
 show (Zg (m:Int)).cps.size≤18;rw [←Array.length_toList,e2,List.length_map,String.length_toList];exact e
theorem Z9 (x:Str):Str.empty++x=x:=Str.append_left_empty rfl
def Z5 (s:Nat):T:=.tup [.int (2 * (s:Int)+1),.int 2]
section
variable (G:Calls)(σ:Sg)
theorem Zj3 (s:Nat):Int.fdiv (Int.natAbs (2 * (s:Int)+1):Int) 2=s:=by
 rw [Int.fdiv_eq_ediv_of_nonneg _ (by omega)];omega
theorem Zj8 (its:List T)(a:T)(K:Out→Lv→M (T×Kd))(hK:∀o L',K o L'=match o with | .next=>cSs G ((Zs "extents").drop 4) L' (fun o _=>outT o) | o=>outT o):∀(l:List Nat) (acc:List Int) (L:Lv),acc.length+l.length < 1000→
  (∃t0,L={ loc:=[("value",.vec "double" its a),("item",t0)],own:=[("dims",.list (acc.map .int),.own)],mv:=mvOf "extents",hot:=false })∨(∃t0 t1,L={ loc:=[("value",.vec "double" its a),("item",t0),("found",t1)],own:=[("dims",.list (acc.map .int),.own)],mv:=mvOf "extents",hot:=false })→
  cFor "item" (fun L k=>cSs G (Zm ((Zs "extents")[3]?)) L k) (l.map Z5) L K σ=.ok (.list ((acc++l.map fun (s:Nat)=>(s:Int)).map .int),.own) σ
 |[],acc,L,_,hL=>by
  rw [List.map_nil,List.map_nil,List.append_nil];unfold cFor;rw [hK];rcases hL with ⟨t0,rfl⟩ | ⟨t0,t1,rfl⟩
  ·conv=>lhs;whnf
  ·conv=>lhs;whnf
 |s::r,acc,L,hl,hL=>by
  have hl':(acc.map T.int).length < 2000:=by simp at hl ⊢;omega
  have ih:=fun L'=>Zj8 its a K hK r (acc++[(s:Int)]) L' (by simp at hl ⊢;omega)
  rw [show acc++(s::r).map (fun (s:Nat)=>(s:Int))=(acc++[(s:Int)])++r.map fun (s:Nat)=>(s:Int) by simp];rcases hL with ⟨t0,rfl⟩ | ⟨t0,t1,rfl⟩
  ·rw [←ih _ (.inr ⟨.int s,.int s,rfl⟩)]
   conv=>lhs;whnf
   rw [Z4 hl',Zj3];rw [List.map_append];kernel_rfl
  ·rw [←ih _ (.inr ⟨.int s,.int s,rfl⟩)]
   conv=>lhs;whnf
   rw [Z4 hl',Zj3];rw [List.map_append];kernel_rfl
theorem Zsg (l:List Nat)(a:T)(hl:l.length < 1000)(hne:l≠[]):Ze G "extents" [.vec "double" (l.map Z5) a] σ=.ok (.list ((l.map fun (s:Nat)=>(s:Int)).map .int),.own) σ:=by
 have hz:decide (((l.map Z5).length:Int)=0)=false:=dF (by
  have:=List.length_pos_iff.mpr hne;simp;omega)
 have hm:l.map Z5≠[]:=by simpa using hne
 have e:=Zj8 G σ (l.map Z5) a _ (fun _ _=>rfl) l [] _ (by simpa using hl) (.inl ⟨.none,rfl⟩);rw [List.nil_append] at e;rw [←e]
 conv=>lhs;whnf
 rw [hz]
 conv=>lhs;whnf
 rw [Zcf .none hm];kernel_rfl
theorem Zkb (k':Str)(hk:k'="integer"∨k'="logical"∨k'="double")(a:T):Ze G "extents" [.vec k' [] a] σ=.exn "length-0 dimension vector is invalid" σ:=by
 rcases hk with rfl | rfl | rfl<;>kernel_rfl
theorem Zka (k':Str)(hk:k'="character"∨k'="list")(us:List T)(a:T):Ze G "extents" [.vec k' us a] σ=.exn "invalid second argument, must be vector or NULL" σ:=by
 rcases hk with rfl | rfl<;>kernel_rfl
end
def msgD (a:Int)(b:Nat):Str:=((("dims [product "++Zg a)++"] do not match the length of object [")++Zg b)++"]"
section
variable (G:Calls)
theorem Znl (row)(k:Str)(its at' ep)(value:T)(m:Str)(h:G "extents" [value] (SG row k its at' ep)=.exn m (SG row k its at' ep)):
  Ze G "set_dim" [.self,value] (SG row k its at' ep)=.exn m (SG row k its at' ep):=by
 conv=>lhs;whnf
 rw [h]
def Zo (l:List Int)(t:Int):Int:=l.foldl (· * ·) t
theorem Zgt (σ:Sg)(value:T)(ds:T)(K:Out→Lv→M (T×Kd)):∀(l:List Int) (t:Int) (L:Lv),(∀i,i≤l.length→Zj (Zo (l.take i) t)=true)→
  (∃t0,L={ loc:=[("v",.self),("value",value),("dims",ds),("total",.int t),("extent",t0)],own:=[],mv:=mvOf "set_dim",hot:=false })→
  ∃t0,cFor "extent" (fun L k=>cSs G (Zm ((Zs "set_dim")[3]?)) L k) (l.map .int) L K σ=K .next { loc:=[("v",.self),("value",value),("dims",ds),("total",.int (Zo l t)),("extent",t0)],own:=[],mv:=mvOf "set_dim",hot:=false } σ
 |[],t,L,_,⟨t0,e⟩=>⟨t0,by subst e;rfl⟩
 |i::r,t,L,hs,⟨t0,e⟩=>by
  have h0:Zj t=true:=hs 0 (by omega);have hb:binT .Mult (.int t) (.int i)=some (.int (t * i),.val):=by
   show (if Zj t=true then some (T.int (t * i),Kd.val) else none)=_;rw [if_pos h0]
  obtain ⟨t1,e1⟩:=Zgt σ value ds K r (t * i) { loc:=[("v",.self),("value",value),("dims",ds),("total",.int (t * i)),("extent",.int i)],own:=[],mv:=mvOf "set_dim",hot:=false } (fun j hj=>hs (j+1) (by simp;omega)) ⟨_,rfl⟩;refine ⟨t1,?_⟩;subst e;rw [show Zo (i::r) t=Zo r (t * i) from rfl,←e1]
  conv=>lhs;whnf
  rw [hb];kernel_rfl
end
theorem Zb {α β:Type}{m:M α}{f:α→M β}(a:α){σ σ':Sg}{R:Res β}(e:m σ=.ok a σ')(h:f a σ'=R):M.bind m f σ=R:=by
 unfold M.bind;rw [e];exact h
theorem Zln {α β:Type}{m:M α}{f:α→M β}{x:Str}{σ σ':Sg}(e:m σ=.exn x σ'):M.bind m f σ=.exn x σ':=by
 unfold M.bind;rw [e]
theorem Zvf {p x:Str}{m:Nat}(hx:x.length≤18)(hp:p.length≤m)(hm:m≤900):(p++x).length≤Zc:=by
 rw [Str.length_append];unfold Zc;omega
theorem Zan:("dims [product ":Str).length=14:=by decide +kernel
theorem Zb8:("] do not match the length of object [":Str).length=37:=by decide +kernel
theorem Zdb:("]":Str).length=1:=by decide +kernel
theorem Zab (x:Str)(kd:Kd)(σ:Sg):strM (.str x,kd) σ=.ok x σ:=rfl
section
variable {G:Calls}(W:Low G)
include W
theorem Znk (row)(k:Str)(its at' ep)(value:T)(ds:List Int)(hne:ds≠[])(hp:∀i,i≤ds.length→Zj (Zo (ds.take i) 1)=true)(ht:Zo ds 1=its.length)
  (h:G "extents" [value] (SG row k its at' ep)=.ok (.list (ds.map .int),.own) (SG row k its at' ep)) (h2:G "length" [.self] (SG row k its at' ep)=.ok (.int its.length,.val) (SG row k its at' ep)) (hz2:((Z1 (Z1 at' "names") "dimnames").getD []).length < 1000):
  ∃ep',Ze G "set_dim" [.self,value] (SG row k its at' ep)=.ok (.none,.val) (SG row k its (putA (Z1 (Z1 at' "names") "dimnames") "dim" (.vec "integer" (ds.map .int) .none)) ep'):=by
 obtain ⟨ep1,e1⟩:=W.drop "names" row k its at' ep;obtain ⟨ep2,e2⟩:=W.drop "dimnames" row k its (Z1 at' "names") ep1;obtain ⟨ep3,e3⟩:=W.put "dim" "integer" (ds.map .int) .none row k its (Z1 (Z1 at' "names") "dimnames") ep2 hz2;refine ⟨ep3,?_⟩
 conv=>lhs;whnf
 rw [h]
 conv=>lhs;whnf
 rw [Zcf .none (by simpa using hne)];obtain ⟨t0,e0⟩:=Zgt G (SG row k its at' ep) value (.list (ds.map .int)) _ ds 1 _ hp ⟨.none,rfl⟩;refine e0.trans ?_
 conv=>lhs;whnf
 refine Zb (T.int its.length) (σ':=SG row k its at' ep) ?_ ?_
 ·conv=>lhs;whnf
  refine Zb (T.int its.length,Kd.val) (σ':=SG row k its at' ep) (evalE_c.trans ?_) rfl
  conv=>lhs;whnf
  rw [h2];rfl
 ·conv=>lhs;whnf
  rw [show decide (Zo ds 1=(its.length:Int))=true from dT ht]
  conv=>lhs;whnf
  rw [e1]
  conv=>lhs;whnf
  rw [e2]
  conv=>lhs;whnf
  rw [W.int]
  conv=>lhs;whnf
  rw [e3];rfl
omit W
theorem Znm (row)(k:Str)(its at' ep)(value:T)(ds:List Int)(hne:ds≠[])(hp:∀i,i≤ds.length→Zj (Zo (ds.take i) 1)=true)(ht:Zo ds 1≠its.length)(h0:0≤Zo ds 1)(hl:its.length < 1000)
  (h:G "extents" [value] (SG row k its at' ep)=.ok (.list (ds.map .int),.own) (SG row k its at' ep)) (h2:G "length" [.self] (SG row k its at' ep)=.ok (.int its.length,.val) (SG row k its at' ep)):
  Ze G "set_dim" [.self,value] (SG row k its at' ep)=.exn (msgD (Zo ds 1) its.length) (SG row k its at' ep):=by
 conv=>lhs;whnf
 rw [h]
 conv=>lhs;whnf
 rw [Zcf .none (by simpa using hne)];obtain ⟨t0,e0⟩:=Zgt G (SG row k its at' ep) value (.list (ds.map .int)) _ ds 1 _ hp ⟨.none,rfl⟩;refine e0.trans ?_
 conv=>lhs;whnf
 have hs:Zj (Zo ds 1)=true:=by
  have:=hp ds.length (Nat.le_refl _)
  rwa [List.take_length] at this
 have hs1:Zo ds 1 < 10 ^ 18:=by
  unfold Zj at hs;have:=of_decide_eq_true hs;omega
 refine Zb (T.int its.length) (σ':=SG row k its at' ep) ?_ ?_
 ·conv=>lhs;whnf
  refine Zb (T.int its.length,Kd.val) (σ':=SG row k its at' ep) (evalE_c.trans ?_) rfl
  conv=>lhs;whnf
  rw [h2];rfl
 ·conv=>lhs;whnf
  rw [show decide (Zo ds 1=(its.length:Int))=false from dF ht]
  conv=>lhs;whnf
  have l1:=Q1 h0 hs1;have l2:=Q1 (i:=(its.length:Int)) (by omega) (by omega);have f0:(Str.empty++"dims [product ":Str).length≤Zc:=by rw [Z9,Zan];decide
  have f1:((Str.empty++"dims [product ")++Zg (Zo ds 1):Str).length≤Zc:=by rw [Z9,Str.length_append,Zan];unfold Zc;omega
  have f2:(((Str.empty++"dims [product ")++Zg (Zo ds 1))++"] do not match the length of object [":Str).length≤Zc:=by rw [Z9,Str.length_append,Str.length_append,Zan,Zb8];unfold Zc;omega
  have f3:((((Str.empty++"dims [product ")++Zg (Zo ds 1))++"] do not match the length of object [")++Zg its.length:Str).length≤Zc:=by rw [Z9,Str.length_append,Str.length_append,Str.length_append,Zan,Zb8];unfold Zc;omega
  have f4:(((((Str.empty++"dims [product ")++Zg (Zo ds 1))++"] do not match the length of object [")++Zg its.length)++"]":Str).length≤Zc:=by rw [Z9,Str.length_append,Str.length_append,Str.length_append,Str.length_append,Zan,Zb8,Zdb];unfold Zc;omega
  refine Eq.trans (b:=(if (Str.empty++"dims [product ":Str).length≤Zc then fmtM (.int (Zo ds 1),.val)>>=fun t=>strM t>>=fun x=>if ((Str.empty++"dims [product ")++x:Str).length≤Zc then
   (if (((Str.empty++"dims [product ")++x)++"] do not match the length of object [":Str).length≤Zc then
    G "length" [.self]>>=fun t=>fmtM t>>=fun t=>strM t>>=fun y=>if ((((Str.empty++"dims [product ")++x)++"] do not match the length of object [")++y:Str).length≤Zc then
     (if (((((Str.empty++"dims [product ")++x)++"] do not match the length of object [")++y)++"]":Str).length≤Zc then
      Jc (((((Str.empty++"dims [product ")++x)++"] do not match the length of object [")++y)++"]") else stuck) else stuck
    else stuck) else stuck else stuck:M (T×Kd)) (SG row k its at' ep)) ?_ ?_
  ·kernel_rfl
  ·rw [if_pos f0,Zh (Jx hs),Zh (Zab _ _ _),if_pos f1,if_pos f2,Zh h2,Zh (Jx (Jl hl)),Zh (Zab _ _ _),if_pos f3,if_pos f4];show Res.exn _ _=_;rw [Z9];rfl
end
theorem Zda (es:List (Str×T))(k:Str)(t:T)(y:Str):(dput es k t).lookup y=if y=k then some t else es.lookup y:=by
 induction es with
 |nil=>
  show List.lookup y [(k,t)]=_;rw [List.lookup_cons]
  by_cases h:y=k
  ·subst h;simp
  ·have:(y == k)=false:=by simpa using h
   rw [this,if_neg h]
 |cons p es ih=>
  obtain ⟨k',t'⟩:=p;unfold dput
  by_cases hk:k'=k
  ·subst hk;rw [if_pos rfl,List.lookup_cons,List.lookup_cons]
   by_cases h:y=k'
   ·subst h;simp
   ·have:(y == k')=false:=by simpa using h
    rw [this,if_neg h]
  ·rw [if_neg hk,List.lookup_cons,List.lookup_cons]
   by_cases h:y=k'
   ·subst h;rw [if_neg hk];simp
   ·have:(y == k')=false:=by simpa using h
    rw [this];exact ih
theorem Zbj (es:List (Str×T))(k:Str)(t:T):(dput es k t).length≤es.length+1:=by
 induction es with
 |nil=>simp [dput]
 |cons p es ih=>
  obtain ⟨k',t'⟩:=p;unfold dput;split
  ·simp
  ·simp;omega
theorem Zs5 (es:List (Str×T))(k:Str)(t:T):(dput es k t).map (·.1)=if k∈es.map (·.1) then es.map (·.1) else es.map (·.1)++[k]:=by
 induction es with
 |nil=>simp [dput]
 |cons p es ih=>
  obtain ⟨k',t'⟩:=p;unfold dput
  by_cases hk:k'=k
  ·subst hk;simp
  ·rw [if_neg hk,List.map_cons,ih];have:¬k=k':=fun e=>hk e.symm
   by_cases hm:k∈es.map (·.1)
   ·rw [if_pos hm,if_pos (by simp only [List.map_cons,List.mem_cons];exact .inr hm)];rfl
   ·rw [if_neg hm,if_neg (by simp only [List.map_cons,List.mem_cons];exact fun q=>q.elim this hm)];rfl
theorem Zes (es:List (Str×T))(k:Str)(t:T)(h:(es.map (·.1)).Nodup):((dput es k t).map (·.1)).Nodup:=by
 rw [Zs5];split
 ·exact h
 ·rename_i hm;rw [List.nodup_append];refine ⟨h,by simp,?_⟩;intro a ha b hb e;simp only [List.mem_singleton] at hb;subst hb;subst e;exact hm ha
theorem Zi5 {es:List (Str×T)}{k:Str}(h:k∉es.map (·.1)):es.lookup k=none:=by
 induction es with
 |nil=>rfl
 |cons p es ih=>
  obtain ⟨k',t'⟩:=p;simp only [List.map_cons,List.mem_cons,not_or] at h;rw [List.lookup_cons];have:(k == k')=false:=by simpa using h.1
  rw [this];exact ih h.2
theorem Zgu (es:List (Str×T))(k:Str):∃l,(ddel es k).map (·.1)=l∧l.Sublist (es.map (·.1)):=by
 refine ⟨_,rfl,?_⟩
 induction es with
 |nil=>exact List.Sublist.refl _
 |cons p es ih=>
  obtain ⟨k',t'⟩:=p;unfold ddel;split
  ·exact List.sublist_cons_self _ _
  ·exact ih.cons_cons _
theorem Zev (es:List (Str×T))(k:Str)(h:(es.map (·.1)).Nodup):((ddel es k).map (·.1)).Nodup:=by
 obtain ⟨l,e,hs⟩:=Zgu es k;rw [e];exact hs.nodup h
theorem Zew (es:List (Str×T))(k:Str)(y:Str)(h:(es.map (·.1)).Nodup):(ddel es k).lookup y=if y=k then none else es.lookup y:=by
 induction es with
 |nil=>unfold ddel;split<;>rfl
 |cons p es ih=>
  obtain ⟨k',t'⟩:=p;rw [List.map_cons,List.nodup_cons] at h;unfold ddel
  by_cases hk:k'=k
  ·subst hk;rw [if_pos rfl,List.lookup_cons]
   by_cases hy:y=k'
   ·subst hy;rw [if_pos rfl];exact Zi5 h.1
   ·have:(y == k')=false:=by simpa using hy
    rw [this,if_neg hy]
  ·rw [if_neg hk,List.lookup_cons,List.lookup_cons]
   by_cases hy:y=k'
   ·subst hy;rw [if_neg hk];simp
   ·have:(y == k')=false:=by simpa using hy
    rw [this];exact ih h.2
theorem Zs3 (at':Option (List (Str×T)))(k y:Str)(h:((at'.getD []).map (·.1)).Nodup):((Z1 at' k).getD []).lookup y=if y=k then none else (at'.getD []).lookup y:=by
 cases at' with
 |none=>simp [Z1]
 |some es=>
  unfold Z1;dsimp only [Option.getD]
  by_cases h1:(es.lookup k).isSome=true
  ·rw [if_pos h1];rw [←Zew es k y h]
   by_cases h2:(ddel es k).length=0
   ·rw [if_pos h2,List.length_eq_zero_iff.mp h2]
   ·rw [if_neg h2]
  ·rw [if_neg h1];show List.lookup y es=_
   by_cases hy:y=k
   ·subst hy;rw [if_pos rfl];exact Option.not_isSome_iff_eq_none.mp h1
   ·rw [if_neg hy]
theorem Zc8 (at':Option (List (Str×T)))(k:Str)(h:((at'.getD []).map (·.1)).Nodup):(((Z1 at' k).getD []).map (·.1)).Nodup:=by
 cases at' with
 |none=>exact h
 |some es=>
  unfold Z1;dsimp only [Option.getD]
  by_cases h1:(es.lookup k).isSome=true
  ·rw [if_pos h1]
   by_cases h2:(ddel es k).length=0
   ·rw [if_pos h2];simp
   ·rw [if_neg h2];exact Zev es k h
  ·rw [if_neg h1];exact h
theorem Zc9 (at':Option (List (Str×T)))(k:Str):((Z1 at' k).getD []).length≤(at'.getD []).length:=by
 cases at' with
 |none=>exact Nat.le_refl _
 |some es=>
  have hd:(ddel es k).length≤es.length:=by
   obtain ⟨l,e,hs⟩:=Zgu es k;have:=hs.length_le;rw [←e,List.length_map,List.length_map] at this;exact this
  unfold Z1;dsimp only [Option.getD]
  by_cases h1:(es.lookup k).isSome=true
  ·rw [if_pos h1]
   by_cases h2:(ddel es k).length=0
   ·rw [if_pos h2];simp
   ·rw [if_neg h2];exact hd
  ·rw [if_neg h1];exact Nat.le_refl _
theorem Zoc (at':Option (List (Str×T)))(k y:Str)(t:T):((putA at' k t).getD []).lookup y=if y=k then some t else (at'.getD []).lookup y:=Zda _ _ _ _
theorem Zif (at':Option (List (Str×T)))(k:Str)(t:T)(h:((at'.getD []).map (·.1)).Nodup):(((putA at' k t).getD []).map (·.1)).Nodup:=Zes _ _ _ h
def keyT:T→Str
 |.str x=>"="++x
 |_=>"?"
def labT (t:T):Prop:=t=.none∨∃x:Str,t=.str x∧x.length≤100
def dupR:List T→List T→Option Nat
 |_,[]=>none
 |done,u::r=>if (done.any fun w=>decide (keyT w=keyT u))=true then some done.length else dupR (done++[u]) r
def msgL (i:Nat):Str:=("factor level ["++Zg ((i:Int)+1))++"] is duplicated"
theorem Zcu:("factor level [":Str).length=14:=by decide +kernel
theorem Zi7:("] is duplicated":Str).length=15:=by decide +kernel
theorem Zdo {x y:Str}(h:x.length+y.length≤Zc):binT .Add (.str x) (.str y)=some (.str (x++y),.val):=by
 show (if x.length+y.length≤Zc then some (T.str (x++y),Kd.val) else none)=_;rw [if_pos h]
theorem Jh {n:Nat}(h:n < 1000)(σ:Sg):Qm (.range 0 (n:Int)) σ=.ok ((List.range' 0 n).map fun i:Nat=>T.int (i:Int)) σ:=by
 show Zl (if (Zj 0&&Zj (n:Int)&&decide ((n:Int) - 0≤(Zc:Int)))=true then some ((Qa 0 (n:Int)).map T.int) else none) σ=_;have h1:Zj 0=true:=by decide
 rw [h1,Jl h,dT (show ((n:Int) - 0≤(Zc:Int)) from by unfold Zc;omega)];show Res.ok _ _=_;congr 1;unfold Qa;rw [List.map_map,Int.sub_zero,Int.toNat_natCast,List.range_eq_range'];congr 1;funext i;show T.int (0+(i:Int))=_;rw [Int.zero_add]
theorem eq1:("=":Str).length=1:=by decide +kernel
theorem Zv {us:List T}{i:Nat}{u:T}{σ:Sg}(h:us[i]?=some u):Ju (.list us) (.int (i:Int)) σ=.ok (u,.val) σ:=by
 show (if (0:Int)≤(i:Int) then (match us[(i:Int).toNat]? with | some t=>Res.ok (t,Kd.val) σ | none=>.stuck) else .stuck)=_;rw [if_pos (Int.natCast_nonneg i),Int.toNat_natCast,h]
theorem Zve (k:Str)(es:List (Str×T))(σ:Sg):cmpK .In (.str k,.val) (.dict es) σ=.ok (.bool (es.lookup k).isSome) σ:=rfl
section
variable (G:Calls)
theorem Zjb (row)(k:Str)(its at' at2 ep ep')(a:T)(us:List T)(hus:∀u∈us,labT u)(hn:us.length < 1000)(K:Out→Lv→M (T×Kd))(hK:∀o L',K o L'=match o with | .next=>cSs G (((Zs "set_levels").drop 1)) L' (fun o _=>outT o) | o=>outT o)
  (hp:G "put_attr" [.self,.str "levels",.vec "character" us a] (SG row k its at' ep)=.ok (.none,.val) (SG row k its at2 ep')):∀(todo done:List T) (es:List (Str×T)) (L:Lv),us=done++todo→(∀κ,(es.lookup κ).isSome=done.any fun w=>decide (keyT w=κ))→es.length≤done.length→
  ((L={ loc:=[("v",.self),("value",.vec "character" us a)],own:=[("seen",.dict es,.own)],mv:=mvOf "set_levels",hot:=false })∨(∃t0 t1,L={ loc:=[("v",.self),("value",.vec "character" us a),("place",t0),("key",t1)],own:=[("seen",.dict es,.own)],mv:=mvOf "set_levels",hot:=false }))→
  cFor "place" (fun L k=>cSs G (Zm ((match (Zs "set_levels")[0]? with | some (.If _ b _ _)=>b | _=>[])[1]?)) L k) ((List.range' done.length todo.length).map fun i:Nat=>T.int (i:Int)) L K (SG row k its at' ep)=match dupR done todo with
   |some i=>.exn (msgL i) (SG row k its at' ep)
   |none=>.ok (.none,.val) (SG row k its at2 ep')
 |[],done,es,L,e,he,hl,hL=>by
  show K .next L _=_;rw [hK];rcases hL with rfl | ⟨t0,t1,rfl⟩
  ·conv=>lhs;whnf
   rw [hp];rfl
  ·conv=>lhs;whnf
   rw [hp];rfl
 |u::r,done,es,L,e,he,hl,hL=>by
  have hu:us[done.length]?=some u:=by subst e;simp
  have hlab:=hus u (by subst e;simp);have hdl:done.length < 1000:=by subst e;simp at hn;omega
  have ih:=fun L'=>Zjb row k its at' at2 ep ep' a us hus hn K hK hp r (done++[u]) (dput es (keyT u) (.bool true)) L' (by subst e;simp) (fun κ=>by
   rw [Zda,List.any_append,List.any_cons,List.any_nil,Bool.or_false]
   by_cases h:κ=keyT u
   ·rw [if_pos h,dT h.symm];simp
   ·rw [if_neg h,dF (fun q=>h q.symm),Bool.or_false];exact he κ) (by have:=Zbj es (keyT u) (.bool true);simp;omega)
  rw [List.length_append] at ih;have hany:(es.lookup (keyT u)).isSome=done.any fun w=>decide (keyT w=keyT u):=he (keyT u)
  have hsz:es.length < Zc:=by unfold Zc;omega
  unfold dupR;have l1:=Q1 (i:=(done.length:Int)+1) (by omega) (by omega);have f0:(Str.empty++"factor level [":Str).length≤Zc:=by rw [Z9,Zcu];decide
  have f1:((Str.empty++"factor level [")++Zg ((done.length:Int)+1):Str).length≤Zc:=by rw [Z9,Str.length_append,Zcu];unfold Zc;omega
  have f2:(((Str.empty++"factor level [")++Zg ((done.length:Int)+1))++"] is duplicated":Str).length≤Zc:=by rw [Z9,Str.length_append,Str.length_append,Zcu,Zi7];unfold Zc;omega
  have hs1:Zj ((done.length:Int)+1)=true:=by
   rw [show (done.length:Int)+1=((done.length+1:Nat):Int) by omega];unfold Zj;exact dT (by omega)
  rcases hlab with rfl | ⟨x,rfl,hx⟩
  ·rcases hL with rfl | ⟨t0,t1,rfl⟩
   ·skip
    conv=>lhs;whnf
    refine Zb (.none,Kd.val) (Zv hu) ?_
    conv=>lhs;whnf
    cases hd:done.any fun w=>decide (keyT w=keyT .none) with
    |false=>
     rw [if_neg (by simp)];rw [←ih _ (.inr ⟨.int (done.length:Int),.str "?",rfl⟩)]
     conv=>lhs;whnf
     rw [show (es.lookup ("?":Str)).isSome=false from hany.trans hd]
     conv=>lhs;whnf
     rw [Subsingleton.elim (Nat.decLt _ _) (isTrue hsz)];rfl
    |true=>
     rw [if_pos rfl]
     conv=>lhs;whnf
     rw [show (es.lookup ("?":Str)).isSome=true from hany.trans hd];refine Eq.trans (b:=(if (Str.empty++"factor level [":Str).length≤Zc then fmtM (.int ((done.length:Int)+1),.val)>>=fun t=>strM t>>=fun x=>if ((Str.empty++"factor level [")++x:Str).length≤Zc then
      (if (((Str.empty++"factor level [")++x)++"] is duplicated":Str).length≤Zc then Jc (((Str.empty++"factor level [")++x)++"] is duplicated") else stuck) else stuck else stuck:M (T×Kd)) (SG row k its at' ep)) ?_ ?_
     ·kernel_rfl
     ·rw [if_pos f0,Zh (Jx hs1),Zh (Zab _ _ _),if_pos f1,if_pos f2];show Res.exn _ _=_;rw [Z9];rfl
   ·skip
    conv=>lhs;whnf
    refine Zb (.none,Kd.val) (Zv hu) ?_
    conv=>lhs;whnf
    cases hd:done.any fun w=>decide (keyT w=keyT .none) with
    |false=>
     rw [if_neg (by simp)];rw [←ih _ (.inr ⟨.int (done.length:Int),.str "?",rfl⟩)]
     conv=>lhs;whnf
     rw [show (es.lookup ("?":Str)).isSome=false from hany.trans hd]
     conv=>lhs;whnf
     rw [Subsingleton.elim (Nat.decLt _ _) (isTrue hsz)];rfl
    |true=>
     rw [if_pos rfl]
     conv=>lhs;whnf
     rw [show (es.lookup ("?":Str)).isSome=true from hany.trans hd];refine Eq.trans (b:=(if (Str.empty++"factor level [":Str).length≤Zc then fmtM (.int ((done.length:Int)+1),.val)>>=fun t=>strM t>>=fun x=>if ((Str.empty++"factor level [")++x:Str).length≤Zc then
      (if (((Str.empty++"factor level [")++x)++"] is duplicated":Str).length≤Zc then Jc (((Str.empty++"factor level [")++x)++"] is duplicated") else stuck) else stuck else stuck:M (T×Kd)) (SG row k its at' ep)) ?_ ?_
     ·kernel_rfl
     ·rw [if_pos f0,Zh (Jx hs1),Zh (Zab _ _ _),if_pos f1,if_pos f2];show Res.exn _ _=_;rw [Z9];rfl
  ·rcases hL with rfl | ⟨t0,t1,rfl⟩
   ·skip
    conv=>lhs;whnf
    refine Zb ((.str x),Kd.val) (Zv hu) ?_
    conv=>lhs;whnf
    refine Zb ((.str x),Kd.val) (Zv hu) ?_
    conv=>lhs;whnf
    rw [Zdo (x:="=") (y:=x) (by rw [eq1];unfold Zc;omega)]
    conv=>lhs;whnf
    cases hd:done.any fun w=>decide (keyT w=keyT (.str x)) with
    |false=>
     rw [if_neg (by simp)];rw [←ih _ (.inr ⟨.int (done.length:Int),.str ("="++x),rfl⟩)]
     conv=>lhs;whnf
     rw [show (es.lookup (("="++x):Str)).isSome=false from hany.trans hd]
     conv=>lhs;whnf
     rw [Subsingleton.elim (Nat.decLt _ _) (isTrue hsz)];rfl
    |true=>
     rw [if_pos rfl]
     conv=>lhs;whnf
     rw [show (es.lookup ("="++x:Str)).isSome=true from hany.trans hd];refine Eq.trans (b:=(if (Str.empty++"factor level [":Str).length≤Zc then fmtM (.int ((done.length:Int)+1),.val)>>=fun t=>strM t>>=fun x=>if ((Str.empty++"factor level [")++x:Str).length≤Zc then
      (if (((Str.empty++"factor level [")++x)++"] is duplicated":Str).length≤Zc then Jc (((Str.empty++"factor level [")++x)++"] is duplicated") else stuck) else stuck else stuck:M (T×Kd)) (SG row k its at' ep)) ?_ ?_
     ·kernel_rfl
     ·rw [if_pos f0,Zh (Jx hs1),Zh (Zab _ _ _),if_pos f1,if_pos f2];show Res.exn _ _=_;rw [Z9];rfl
   ·skip
    conv=>lhs;whnf
    refine Zb ((.str x),Kd.val) (Zv hu) ?_
    conv=>lhs;whnf
    refine Zb ((.str x),Kd.val) (Zv hu) ?_
    conv=>lhs;whnf
    rw [Zdo (x:="=") (y:=x) (by rw [eq1];unfold Zc;omega)]
    conv=>lhs;whnf
    cases hd:done.any fun w=>decide (keyT w=keyT (.str x)) with
    |false=>
     rw [if_neg (by simp)];rw [←ih _ (.inr ⟨.int (done.length:Int),.str ("="++x),rfl⟩)]
     conv=>lhs;whnf
     rw [show (es.lookup (("="++x):Str)).isSome=false from hany.trans hd]
     conv=>lhs;whnf
     rw [Subsingleton.elim (Nat.decLt _ _) (isTrue hsz)];rfl
    |true=>
     rw [if_pos rfl]
     conv=>lhs;whnf
     rw [show (es.lookup ("="++x:Str)).isSome=true from hany.trans hd];refine Eq.trans (b:=(if (Str.empty++"factor level [":Str).length≤Zc then fmtM (.int ((done.length:Int)+1),.val)>>=fun t=>strM t>>=fun x=>if ((Str.empty++"factor level [")++x:Str).length≤Zc then
      (if (((Str.empty++"factor level [")++x)++"] is duplicated":Str).length≤Zc then Jc (((Str.empty++"factor level [")++x)++"] is duplicated") else stuck) else stuck else stuck:M (T×Kd)) (SG row k its at' ep)) ?_ ?_
     ·kernel_rfl
     ·rw [if_pos f0,Zh (Jx hs1),Zh (Zab _ _ _),if_pos f1,if_pos f2];show Res.exn _ _=_;rw [Z9];rfl
theorem Znh (row)(k:Str)(its at' at2 ep ep')(a:T)(us:List T)(hus:∀u∈us,labT u)(hn:us.length < 1000)(hp:G "put_attr" [.self,.str "levels",.vec "character" us a] (SG row k its at' ep)=.ok (.none,.val) (SG row k its at2 ep')):
  Ze G "set_levels" [.self,.vec "character" us a] (SG row k its at' ep)=match dupR [] us with
   |some i=>.exn (msgL i) (SG row k its at' ep)
   |none=>.ok (.none,.val) (SG row k its at2 ep'):=by
 rw [←Zjb G row k its at' at2 ep ep' a us hus hn _ (fun _ _=>rfl) hp us [] [] _ rfl (fun κ=>by simp) (by simp) (.inl rfl)]
 conv=>lhs;whnf
 refine Zb _ (Jh hn _) ?_;refine congrFun (congrArg (cFor "place" _ _ _) ?_) _;funext o L';cases o<;>rfl
end
theorem Q6:("length of 'dimnames' [":Str).length=22:=by decide +kernel
theorem Zii:("] not equal to array extent":Str).length=27:=by decide +kernel
theorem Zbu:("] must match that of 'dims' [":Str).length=29:=by decide +kernel
def msgP (i:Nat):Str:=("length of 'dimnames' ["++Zg ((i:Int)+1))++"] not equal to array extent"
def msgQ (a b:Nat):Str:=((("length of 'dimnames' ["++Zg a)++"] must match that of 'dims' [")++Zg b)++"]"
def optV:Option (List T)→T
 |none=>.null
 |some us=>.vec "character" us .none
def Qc (p:Option (List T))(e:Int)(i:Nat):Str ⊕ T:=match p with
 |none=>.inr .null
 |some us=>if (us.length:Int)≠e∧0 < us.length then .inl (msgP i) else .inr (.vec "character" us .none)
theorem Zco {n:Nat}(h:n < 1000):Zj ((n:Int)+1)=true:=by
 unfold Zj;exact dT (by omega)
section
variable (G:Calls)
theorem Zoi (σ:Sg)(e:Int)(i:Int):Ze G "dimname_part" [.null,.int e,.int i] σ=.ok (.null,.val) σ:=by kernel_rfl
theorem Zoj (σ:Sg)(us:List T)(a:T)(e:Int)(i:Nat)(hi:i < 900)(h:G "atomic_labels" [.vec "character" us a,.str "dimnames"] σ=.ok (.list us,.own) σ)(h2:G "character" [.list us] σ=.ok (.vec "character" us .none,.ownIo) σ):
  Ze G "dimname_part" [.vec "character" us a,.int e,.int ((i:Int)+1)] σ=match Qc (some us) e i with
   |.inl m=>.exn m σ
   |.inr t=>.ok (t,.ownIo) σ:=by
 unfold Qc;dsimp only
 conv=>lhs;whnf
 rw [h]
 conv=>lhs;whnf
 have l1:=Q1 (i:=(i:Int)+1) (by omega) (by omega);have f0:(Str.empty++"length of 'dimnames' [":Str).length≤Zc:=by rw [Z9,Q6];decide
 have f1:((Str.empty++"length of 'dimnames' [")++Zg ((i:Int)+1):Str).length≤Zc:=by rw [Z9,Str.length_append,Q6];unfold Zc;omega
 have f2:(((Str.empty++"length of 'dimnames' [")++Zg ((i:Int)+1))++"] not equal to array extent":Str).length≤Zc:=by rw [Z9,Str.length_append,Str.length_append,Q6,Zii];unfold Zc;omega
 by_cases he:(us.length:Int)=e
 ·rw [show decide ((us.length:Int)=e)=true from dT he];rw [if_neg (fun q=>q.1 he)]
  conv=>lhs;whnf
  rw [h2];rfl
 ·rw [show decide ((us.length:Int)=e)=false from dF he]
  conv=>lhs;whnf
  by_cases hz:0 < us.length
  ·rw [show decide ((0:Int) < (us.length:Int))=true from dT (by omega)];rw [if_pos ⟨he,hz⟩]
   conv=>lhs;whnf
   refine Eq.trans (b:=(if (Str.empty++"length of 'dimnames' [":Str).length≤Zc then fmtM (.int ((i:Int)+1),.val)>>=fun t=>strM t>>=fun x=>if ((Str.empty++"length of 'dimnames' [")++x:Str).length≤Zc then
      (if (((Str.empty++"length of 'dimnames' [")++x)++"] not equal to array extent":Str).length≤Zc then Jc (((Str.empty++"length of 'dimnames' [")++x)++"] not equal to array extent") else stuck) else stuck else stuck:M (T×Kd)) σ) ?_ ?_
   ·kernel_rfl
   ·rw [if_pos f0,Zh (Jx (Zco (by omega))),Zh (Zab _ _ _),if_pos f1,if_pos f2];show Res.exn _ _=_;rw [Z9];rfl
  ·rw [show decide ((0:Int) < (us.length:Int))=false from dF (by omega)];rw [if_neg (fun q=>hz q.2)]
   conv=>lhs;whnf
   rw [h2];rfl
def dnR:List (Option (List T))→List Int→Nat→List T→Str ⊕ List T
 |_,[],_,acc=>.inr acc
 |[],_::r,i,acc=>dnR [] r (i+1) (acc++[.null])
 |p::ps,e::r,i,acc=>match Qc p e i with
  |.inl m=>.inl m
  |.inr t=>dnR ps r (i+1) (acc++[if t matches .vec _ [] _ then .null else t])
theorem Ztb (row)(k:Str)(its at' ep)(value:T)(hd:G "dim_of" [.self] (SG row k its at' ep)=.ok (.none,.val) (SG row k its at' ep)):Ze G "set_dimnames" [.self,value] (SG row k its at' ep)=.exn "'dimnames' applied to non-array" (SG row k its at' ep):=by
 conv=>lhs;whnf
 rw [hd];rfl
theorem Ztd (row)(k:Str)(its at' ep)(ds:List T)(k':Str)(us:List T)(a:T)(hk:k'≠"list")(hd:G "dim_of" [.self] (SG row k its at' ep)=.ok (.list ds,.own) (SG row k its at' ep)):Ze G "set_dimnames" [.self,.vec k' us a] (SG row k its at' ep)=.exn "'dimnames' must be a list" (SG row k its at' ep):=by
 conv=>lhs;whnf
 rw [hd]
 conv=>lhs;whnf
 rw [dF hk];rfl
theorem Zte (row)(k:Str)(its at' at2 ep ep')(ds:List T)(a:T)(hd:G "dim_of" [.self] (SG row k its at' ep)=.ok (.list ds,.own) (SG row k its at' ep))(h:G "drop_attr" [.self,.str "dimnames"] (SG row k its at' ep)=.ok (.none,.val) (SG row k its at2 ep')):
  Ze G "set_dimnames" [.self,.vec "list" [] a] (SG row k its at' ep)=.ok (.none,.val) (SG row k its at2 ep'):=by
 conv=>lhs;whnf
 rw [hd]
 conv=>lhs;whnf
 rw [h];rfl
theorem Ztc (row)(k:Str)(its at' ep)(ds ps:List T)(a:T)(hd:G "dim_of" [.self] (SG row k its at' ep)=.ok (.list ds,.own) (SG row k its at' ep))(hl:ds.length < ps.length)(hb:ps.length < 900):
  Ze G "set_dimnames" [.self,.vec "list" ps a] (SG row k its at' ep)=.exn (msgQ ps.length ds.length) (SG row k its at' ep):=by
 conv=>lhs;whnf
 rw [hd]
 conv=>lhs;whnf
 rw [show decide ((ps.length:Int)=0)=false from dF (by omega)]
 conv=>lhs;whnf
 rw [show decide ((ds.length:Int) < (ps.length:Int))=true from dT (by omega)]
 conv=>lhs;whnf
 have l1:=Q1 (i:=(ps.length:Int)) (by omega) (by omega);have l2:=Q1 (i:=(ds.length:Int)) (by omega) (by omega);have f0:(Str.empty++"length of 'dimnames' [":Str).length≤Zc:=by rw [Z9,Q6];decide
 have f1:((Str.empty++"length of 'dimnames' [")++Zg ps.length:Str).length≤Zc:=by rw [Z9,Str.length_append,Q6];unfold Zc;omega
 have f2:(((Str.empty++"length of 'dimnames' [")++Zg ps.length)++"] must match that of 'dims' [":Str).length≤Zc:=by rw [Z9,Str.length_append,Str.length_append,Q6,Zbu];unfold Zc;omega
 have f3:((((Str.empty++"length of 'dimnames' [")++Zg ps.length)++"] must match that of 'dims' [")++Zg ds.length:Str).length≤Zc:=by rw [Z9,Str.length_append,Str.length_append,Str.length_append,Q6,Zbu];unfold Zc;omega
 have f4:(((((Str.empty++"length of 'dimnames' [")++Zg ps.length)++"] must match that of 'dims' [")++Zg ds.length)++"]":Str).length≤Zc:=by rw [Z9,Str.length_append,Str.length_append,Str.length_append,Str.length_append,Q6,Zbu,Zdb];unfold Zc;omega
 refine Eq.trans (b:=(if (Str.empty++"length of 'dimnames' [":Str).length≤Zc then fmtM (.int ps.length,.val)>>=fun t=>strM t>>=fun x=>if ((Str.empty++"length of 'dimnames' [")++x:Str).length≤Zc then
   (if (((Str.empty++"length of 'dimnames' [")++x)++"] must match that of 'dims' [":Str).length≤Zc then
    fmtM (.int ds.length,.val)>>=fun t=>strM t>>=fun y=>if ((((Str.empty++"length of 'dimnames' [")++x)++"] must match that of 'dims' [")++y:Str).length≤Zc then
     (if (((((Str.empty++"length of 'dimnames' [")++x)++"] must match that of 'dims' [")++y)++"]":Str).length≤Zc then
      Jc (((((Str.empty++"length of 'dimnames' [")++x)++"] must match that of 'dims' [")++y)++"]") else stuck) else stuck
    else stuck) else stuck else stuck:M (T×Kd)) (SG row k its at' ep)) ?_ ?_
 ·kernel_rfl
 ·rw [if_pos f0,Zh (Jx (Jl (by omega))),Zh (Zab _ _ _),if_pos f1,if_pos f2,Zh (Jx (Jl (by omega))),Zh (Zab _ _ _),if_pos f3,if_pos f4];show Res.exn _ _=_;rw [Z9];rfl
end
def isV:T→Bool
 |.vec ..=>true
 |_=>false
def thin:T→T
 |.vec _ [] _=>.null
 |t=>t
def dnS:List (Option (List T))→List Int→Nat→List T→Str ⊕ List T
 |_,[],_,acc=>.inr acc
 |[],_::r,i,acc=>dnS [] r (i+1) (acc++[.null])
 |p::ps,e::r,i,acc=>match Qc p e i with
  |.inl m=>.inl m
  |.inr t=>dnS ps r (i+1) (acc++[thin t])
structure Dn (G:Calls) (σ:Sg):Prop where
 null:G "null" [] σ=.ok (.null,.val) σ
 len0:G "length" [.null] σ=.ok (.int 0,.val) σ
 len:∀us a,G "length" [.vec "character" us a] σ=.ok (.int (us.length:Nat),.val) σ
 sh0:G "share" [.null] σ=.ok (.null,.val) σ
 sh:∀us a,G "share" [.vec "character" us a] σ=.ok (.vec "character" us a,.val) σ
 part0:∀e i:Int,G "dimname_part" [.null,.int e,.int i] σ=.ok (.null,.val) σ
 part:∀us (e:Int) (i:Nat),i < 900→(∀u∈us,labT u)→G "dimname_part" [.vec "character" us .none,.int e,.int ((i:Int)+1)] σ=match Qc (some us) e i with
   |.inl m=>.exn m σ
   |.inr t=>.ok (t,.ownIo) σ
def Za7:Option Stmt:=(Zs "set_dimnames")[8]?
def LS (value ds ps:T)(acc:List T)(L:Lv):Prop:=
 L={ loc:=[("v",.self),("value",value),("dims",ds),("parts",ps),("some",.bool (acc.any isV))],own:=[("checked",.vec "list" acc .none,.ownIo)],mv:=mvOf "set_dimnames",hot:=false } ∨
 ∃t0 t1,L={ loc:=[("v",.self),("value",value),("dims",ds),("parts",ps),("some",.bool (acc.any isV)),("place",t0),("part",t1)],own:=[("checked",.vec "list" acc .none,.ownIo)],mv:=mvOf "set_dimnames",hot:=false }
theorem Zlh (acc:List T)(t:T):(acc++[t]).any isV=(acc.any isV||isV t):=by simp
section
variable {G:Calls}{σ:Sg}(W:Dn G σ)
include W
theorem Zgp (value:T)(PS:List (Option (List T)))(DS:List Int)(hlab:∀us,some us∈PS→∀u∈us,labT u)(hsz:DS.length < 900)(K:Out→Lv→M (T×Kd)):∀(ds:List Int) (i:Nat) (acc:List T) (L:Lv),acc.length=i→DS.drop i=ds→i+ds.length=DS.length→LS value (.list (DS.map .int)) (.list (PS.map optV)) acc L→
  (∀m,dnS (PS.drop i) ds i acc=.inl m→cFor "place" (fun L k=>cSs G (Zm Za7) L k) ((List.range' i ds.length).map fun i:Nat=>T.int (i:Int)) L K σ=.exn m σ)∧
  (∀acc',dnS (PS.drop i) ds i acc=.inr acc'→∃L',LS value (.list (DS.map .int)) (.list (PS.map optV)) acc' L'∧cFor "place" (fun L k=>cSs G (Zm Za7) L k) ((List.range' i ds.length).map fun i:Nat=>T.int (i:Int)) L K σ=K .next L' σ)
 |[],i,acc,L,ha,hd,hi,hL=>by
  unfold dnS;refine ⟨fun m e=>(nomatch e),fun acc' e=>⟨L,?_,rfl⟩⟩;cases e;exact hL
 |e::r,i,acc,L,ha,hd,hi,hL=>by
  have he:(DS.map T.int)[i]?=some (.int e):=by
   have:=congrArg (fun l=>l[0]?) hd;simp only [List.getElem?_drop,Nat.add_zero,List.getElem?_cons_zero] at this;rw [List.getElem?_map,this];rfl
  have hr:DS.drop (i+1)=r:=by
   have:=congrArg (List.drop 1) hd
   rwa [List.drop_drop,List.drop_one,List.tail_cons] at this
  have hi2:i < 900:=by simp at hi;omega
  have ih:=fun (t:T) (L':Lv)=>Zgp value PS DS hlab hsz K r (i+1) (acc++[t]) L' (by simp;omega) hr (by simp at hi;omega)
  have hac:acc.length < Zc:=by unfold Zc;omega
  have nul:∀c:Bool,(acc++[T.null]).any isV=acc.any isV:=fun _=>by rw [Zlh];exact Bool.or_false _
  by_cases hp:PS.length≤i
  ·have h1:dnS (PS.drop i) (e::r) i acc=dnS (PS.drop (i+1)) r (i+1) (acc++[.null]):=by
    rw [List.drop_eq_nil_of_le hp,List.drop_eq_nil_of_le (by omega)];kernel_rfl
   rw [h1];have key:∃L',LS value (.list (DS.map .int)) (.list (PS.map optV)) (acc++[.null]) L'∧cFor "place" (fun L k=>cSs G (Zm Za7) L k) ((List.range' i (e::r).length).map fun i:Nat=>T.int (i:Int)) L K σ=cFor "place" (fun L k=>cSs G (Zm Za7) L k) ((List.range' (i+1) r.length).map fun i:Nat=>T.int (i:Int)) L' K σ:=by
    rcases hL with rfl | ⟨t0,t1,rfl⟩<;>refine ⟨_,.inr ⟨.int i,.null,rfl⟩,?_⟩<;>rw [nul true]
    all_goals (
     conv=>lhs;whnf
     rw [show decide (((PS.map optV).length:Int)≤(i:Int))=true from dT (by simp;omega)]
     conv=>lhs;whnf
     rw [W.null]
     conv=>lhs;whnf
     refine Zb (.int e,Kd.val) (Zv he) ?_
     conv=>lhs;whnf
     rw [W.part0]
     conv=>lhs;whnf
     rw [W.len0]
     conv=>lhs;whnf
     rw [W.null]
     conv=>lhs;whnf
     rw [Subsingleton.elim (Nat.decLt _ _) (isTrue hac)]
     conv=>lhs;whnf
     rw [W.sh0];kernel_rfl)
   obtain ⟨L',s1,s2⟩:=key;rw [s2];exact ih .null L' s1
  ·obtain ⟨p,hpp⟩:∃p,PS[i]?=some p:=⟨_,List.getElem?_eq_getElem (by omega)⟩;have hpt:(PS.map optV)[i]?=some (optV p):=by rw [List.getElem?_map,hpp];rfl
   have hdp:PS.drop i=p::PS.drop (i+1):=by
    rw [List.drop_eq_getElem_cons (by omega)];congr 1;rw [List.getElem?_eq_getElem (by omega)] at hpp;exact Option.some.inj hpp
   have hd0:decide (((PS.map optV).length:Int)≤(i:Int))=false:=dF (by simp;omega)
   have h1:dnS (PS.drop i) (e::r) i acc=match Qc p e i with
     |.inl m=>.inl m
     |.inr t=>dnS (PS.drop (i+1)) r (i+1) (acc++[thin t]):=by rw [hdp];rfl
   rw [h1]
   cases p with
   |none=>
    have key:∃L',LS value (.list (DS.map .int)) (.list (PS.map optV)) (acc++[.null]) L'∧cFor "place" (fun L k=>cSs G (Zm Za7) L k) ((List.range' i (e::r).length).map fun i:Nat=>T.int (i:Int)) L K σ=cFor "place" (fun L k=>cSs G (Zm Za7) L k) ((List.range' (i+1) r.length).map fun i:Nat=>T.int (i:Int)) L' K σ:=by
     rcases hL with rfl | ⟨t0,t1,rfl⟩<;>refine ⟨_,.inr ⟨.int i,.null,rfl⟩,?_⟩<;>rw [nul true]
     all_goals (
      conv=>lhs;whnf
      rw [hd0]
      conv=>lhs;whnf
      refine Zb (.null,Kd.val) (Zv hpt) ?_
      conv=>lhs;whnf
      refine Zb (.int e,Kd.val) (Zv he) ?_
      conv=>lhs;whnf
      rw [W.part0]
      conv=>lhs;whnf
      rw [W.len0]
      conv=>lhs;whnf
      rw [W.null]
      conv=>lhs;whnf
      rw [Subsingleton.elim (Nat.decLt _ _) (isTrue hac)]
      conv=>lhs;whnf
      rw [W.sh0];kernel_rfl)
    obtain ⟨L',s1,s2⟩:=key;rw [s2];exact ih .null L' s1
   |some us=>
    have hq:=W.part us e i hi2 (hlab us (List.mem_of_getElem? hpp))
    cases hs:Qc (some us) e i with
    |inl m=>
     refine ⟨fun m' em=>?_,fun acc' em=>(nomatch em)⟩;cases em;rw [hs] at hq;rcases hL with rfl | ⟨t0,t1,rfl⟩
     all_goals (
      conv=>lhs;whnf
      rw [hd0]
      conv=>lhs;whnf
      refine Zb (.vec "character" us .none,Kd.val) (Zv hpt) ?_
      conv=>lhs;whnf
      refine Zb (.int e,Kd.val) (Zv he) ?_
      conv=>lhs;whnf
      rw [hq])
    |inr t=>
     rw [hs] at hq;have ht:t=.vec "character" us .none:=by
      unfold Qc at hs;dsimp only at hs;split at hs
      ·cases hs
      ·cases hs;rfl
     subst ht;have key:∃L',LS value (.list (DS.map .int)) (.list (PS.map optV)) (acc++[thin (.vec "character" us .none)]) L'∧cFor "place" (fun L k=>cSs G (Zm Za7) L k) ((List.range' i (e::r).length).map fun i:Nat=>T.int (i:Int)) L K σ=cFor "place" (fun L k=>cSs G (Zm Za7) L k) ((List.range' (i+1) r.length).map fun i:Nat=>T.int (i:Int)) L' K σ:=by
      cases us with
      |nil=>
       rcases hL with rfl | ⟨t0,t1,rfl⟩<;>refine ⟨_,.inr ⟨.int i,.null,rfl⟩,?_⟩<;>rw [show thin (.vec "character" [] .none)=.null from rfl,nul true]
       all_goals (
        conv=>lhs;whnf
        rw [hd0]
        conv=>lhs;whnf
        refine Zb (.vec "character" [] .none,Kd.val) (Zv hpt) ?_
        conv=>lhs;whnf
        refine Zb (.int e,Kd.val) (Zv he) ?_
        conv=>lhs;whnf
        rw [hq]
        conv=>lhs;whnf
        rw [W.len]
        conv=>lhs;whnf
        rw [W.null]
        conv=>lhs;whnf
        rw [Subsingleton.elim (Nat.decLt _ _) (isTrue hac)]
        conv=>lhs;whnf
        rw [W.sh0];kernel_rfl)
      |cons u us=>
       rcases hL with rfl | ⟨t0,t1,rfl⟩<;>refine ⟨_,.inr ⟨.int i,.vec "character" (u::us) .none,rfl⟩,?_⟩<;>rw [show thin (.vec "character" (u::us) .none)=.vec "character" (u::us) .none from rfl,Zlh,show isV (.vec "character" (u::us) .none)=true from rfl,Bool.or_true]
       all_goals (
        conv=>lhs;whnf
        rw [hd0]
        conv=>lhs;whnf
        refine Zb (.vec "character" (u::us) .none,Kd.val) (Zv hpt) ?_
        conv=>lhs;whnf
        refine Zb (.int e,Kd.val) (Zv he) ?_
        conv=>lhs;whnf
        rw [hq]
        conv=>lhs;whnf
        rw [W.len]
        conv=>lhs;whnf
        rw [Subsingleton.elim (Nat.decLt _ _) (isTrue hac)]
        conv=>lhs;whnf
        rw [W.sh];kernel_rfl)
     obtain ⟨L',s1,s2⟩:=key;rw [s2];exact ih (thin (.vec "character" us .none)) L' s1
end
def dnIf:Option Stmt:=(Zs "set_dimnames")[10]?
def dnWh:Option Stmt:=(match dnIf with | some (.If _ b _ _)=>b | _=>[])[1]?
section
variable (G:Calls)(σ:Sg)
theorem Zfn (v value:T)(rest:List (Str×T))(ck:T)(ds:List T)(hb:ds.length < 1000)(k:Out→Lv→M (T×Kd)):∀(m n:Nat) (ts:List T),ts.length+m=ds.length→m < n→
  Zce (Zbp dnWh) (fun L=>evalT G L.ev (Zbp dnWh) (Za G L.ev (Zbp dnWh))) (fun L k=>cSs G (Zhe dnWh) L k) n
   { loc:=("v",v)::("value",value)::("dims",.list ds)::rest,own:=[("texts",.list ts,.own),("checked",ck,.ownIo)],mv:=mvOf "set_dimnames",hot:=false } k σ=
  k .next { loc:=("v",v)::("value",value)::("dims",.list ds)::rest,own:=[("texts",.list (ts++List.replicate m (.str "")),.own),("checked",ck,.ownIo)],mv:=mvOf "set_dimnames",hot:=false } σ
 |0,n+1,ts,h,_=>by
  rw [List.replicate_zero,List.append_nil]
  conv=>lhs;whnf
  rw [show decide ((ts.length:Int) < (ds.length:Int))=false from dF (by omega)];rfl
 |m+1,n+1,ts,h,hn=>by
  have ih:=Zfn v value rest ck ds hb k m n (ts++[.str ""]) (by simp;omega) (by omega);rw [show ts++List.replicate (m+1) (T.str "")=(ts++[.str ""])++List.replicate m (T.str "") by simp [List.replicate_succ],←ih]
  conv=>lhs;whnf
  rw [show decide ((ts.length:Int) < (ds.length:Int))=true from dT (by omega)]
  conv=>lhs;whnf
  rw [Z4 (by omega)];rfl
end
def dnK1 (G:Calls):Out→Lv→M (T×Kd):=fun o L'=>match o with
 |.next=>cSs G ((Zs "set_dimnames").drop 11) L' (fun o _=>outT o)
 |o=>outT o
def dnK2 (G:Calls):Out→Lv→M (T×Kd):=fun o L'=>match o with
 |.next=>cSs G ((match dnIf with | some (.If _ b _ _)=>b | _=>[]).drop 2) L' (dnK1 G)
 |o=>dnK1 G o L'
def Zx (h:Option (List T)):T:=match h with
 |none=>.none
 |some hs=>.dict [("names",.vec "character" hs .none)]
def Zj1 (h:Option (List T)):T:=match h with
 |none=>.none
 |some hs=>.vec "character" hs .none
def padH (h:Option (List T))(n:Nat):Option (List T):=h.map fun hs=>hs++List.replicate (n - hs.length) (.str "")
section
variable {G:Calls}(row:Option (List Int))(k:Str)(its:List T)(at':Option (List (Str×T)))(ep:Nat)(W:Dn G (SG row k its at' ep))
include W
theorem Zs9 (PS:List (Option (List T)))(h:Option (List T))(DS:List Int)(m:Str)(hlab:∀us,some us∈PS→∀u∈us,labT u)(hsz:DS.length < 900)(hd:G "dim_of" [.self] (SG row k its at' ep)=.ok (.list (DS.map .int),.own) (SG row k its at' ep))(hl:PS.length≤DS.length)(hne:PS≠[])(he:dnS PS DS 0 []=.inl m):
  Ze G "set_dimnames" [.self,.vec "list" (PS.map optV) (Zx h)] (SG row k its at' ep)=.exn m (SG row k its at' ep):=by
 have hpos:=List.length_pos_iff.mpr hne
 conv=>lhs;whnf
 rw [hd]
 conv=>lhs;whnf
 rw [show decide (((PS.map optV).length:Int)=0)=false from dF (by simp;omega)]
 conv=>lhs;whnf
 rw [show decide (((DS.map T.int).length:Int) < ((PS.map optV).length:Int))=false from dF (by simp;omega)]
 conv=>lhs;whnf
 refine Zb _ (Jh (by simpa using (by omega:DS.length < 1000)) _) ?_;rw [List.length_map];exact (Zgp W _ PS DS hlab hsz _ DS 0 [] _ rfl rfl (by omega) (.inl rfl)).1 m he
theorem Zko (PS:List (Option (List T)))(h:Option (List T))(DS:List Int)(acc:List T)(hlab:∀us,some us∈PS→∀u∈us,labT u)(hsz:DS.length < 30)(hd:G "dim_of" [.self] (SG row k its at' ep)=.ok (.list (DS.map .int),.own) (SG row k its at' ep))(hl:PS.length≤DS.length)(hne:PS≠[])(he:dnS PS DS 0 []=.inr acc)
  (hh:∀hs,h=some hs→hs.length≤DS.length) (hg:G "get_attr" [.vec "list" (PS.map optV) (Zx h),.str "names"] (SG row k its at' ep)=.ok (Zj1 h,.val) (SG row k its at' ep)) (hc:∀ts,G "character" [.list ts] (SG row k its at' ep)=.ok (.vec "character" ts .none,.ownIo) (SG row k its at' ep)) (at2:Option (List (Str×T))) (ep2:Nat)
  (hfin:(if (h.isSome||acc.any isV)=true then G "put_attr" [.self,.str "dimnames",.vec "list" acc (Zx (padH h DS.length))] else G "drop_attr" [.self,.str "dimnames"]) (SG row k its at' ep)=.ok (.none,.val) (SG row k its at2 ep2)):
  Ze G "set_dimnames" [.self,.vec "list" (PS.map optV) (Zx h)] (SG row k its at' ep)=.ok (.none,.val) (SG row k its at2 ep2):=by
 have hpos:=List.length_pos_iff.mpr hne
 conv=>lhs;whnf
 rw [hd]
 conv=>lhs;whnf
 rw [show decide (((PS.map optV).length:Int)=0)=false from dF (by simp;omega)]
 conv=>lhs;whnf
 rw [show decide (((DS.map T.int).length:Int) < ((PS.map optV).length:Int))=false from dF (by simp;omega)]
 conv=>lhs;whnf
 refine Zb _ (Jh (by simpa using (by omega:DS.length < 1000)) _) ?_;rw [List.length_map];obtain ⟨L',s1,s2⟩:=(Zgp W _ PS DS hlab (by omega) _ DS 0 [] _ rfl rfl (by omega) (.inl rfl)).2 acc he;refine s2.trans ?_
 cases h with
 |none=>
  rcases s1 with rfl | ⟨t0,t1,rfl⟩
  all_goals (
   conv=>lhs;whnf
   rw [hg]
   conv=>lhs;whnf
   cases hv:acc.any isV with
   |true=>
    rw [hv] at hfin
    conv=>lhs;whnf
    rw [show G "put_attr" [.self,.str "dimnames",.vec "list" acc .none] (SG row k its at' ep)=_ from hfin];rfl
   |false=>
    rw [hv] at hfin
    conv=>lhs;whnf
    rw [show G "drop_attr" [.self,.str "dimnames"] (SG row k its at' ep)=_ from hfin];rfl)
 |some hs=>
  have hh':=hh hs rfl;rcases s1 with rfl | ⟨t0,t1,rfl⟩
  ·conv=>lhs;whnf
   rw [hg];refine (Zfn G _ .self (.vec "list" (PS.map optV) (Zx (some hs))) [("parts",.list (PS.map optV)),("some",.bool (acc.any isV)),("heads",.vec "character" hs .none)] (.vec "list" acc .none) (DS.map .int) (by simp;omega) (dnK2 G) (DS.length - hs.length) 40 hs (by simp;omega) (by omega)).trans ?_
   conv=>lhs;whnf
   refine Zb (.dict [("names",.vec "character" (hs++List.replicate (DS.length - hs.length) (.str "")) .none)],Kd.own) (σ':=SG row k its at' ep) ?_ ?_
   ·conv=>lhs;whnf
    refine Zb ([("names",.vec "character" (hs++List.replicate (DS.length - hs.length) (.str "")) .none)]:List (Str×T)) (σ':=SG row k its at' ep) ?_ rfl
    conv=>lhs;whnf
    refine Zb (T.vec "character" (hs++List.replicate (DS.length - hs.length) (.str "")) .none,Kd.ownIo) (σ':=SG row k its at' ep) (evalE_c.trans ?_) rfl
    conv=>lhs;whnf
    rw [hc];rfl
   conv=>lhs;whnf
   exact Zb (T.none,Kd.val) hfin rfl
  ·conv=>lhs;whnf
   rw [hg];refine (Zfn G _ .self (.vec "list" (PS.map optV) (Zx (some hs))) [("parts",.list (PS.map optV)),("some",.bool (acc.any isV)),("place",t0),("part",t1),("heads",.vec "character" hs .none)] (.vec "list" acc .none) (DS.map .int) (by simp;omega) (dnK2 G) (DS.length - hs.length) 40 hs (by simp;omega) (by omega)).trans ?_
   conv=>lhs;whnf
   refine Zb (.dict [("names",.vec "character" (hs++List.replicate (DS.length - hs.length) (.str "")) .none)],Kd.own) (σ':=SG row k its at' ep) ?_ ?_
   ·conv=>lhs;whnf
    refine Zb ([("names",.vec "character" (hs++List.replicate (DS.length - hs.length) (.str "")) .none)]:List (Str×T)) (σ':=SG row k its at' ep) ?_ rfl
    conv=>lhs;whnf
    refine Zb (T.vec "character" (hs++List.replicate (DS.length - hs.length) (.str "")) .none,Kd.ownIo) (σ':=SG row k its at' ep) (evalE_c.trans ?_) rfl
    conv=>lhs;whnf
    rw [hc];rfl
   conv=>lhs;whnf
   exact Zb (T.none,Kd.val) hfin rfl
end
def Qk:List (Option (List T))→List T→Option (List T)
 |[],acc=>some acc
 |some [u]::r,acc=>Qk r (acc++[u])
 |_::_,_=>none
structure At (G:Calls) (σ:Sg):Prop where
 at0:G "is_atomic" [.null] σ=.ok (.bool false,.val) σ
 at1:∀us a,G "is_atomic" [.vec "character" us a] σ=.ok (.bool true,.val) σ
 atl:∀us a,G "is_atomic" [.vec "list" us a] σ=.ok (.bool false,.val) σ
 len:∀us a,G "length" [.vec "character" us a] σ=.ok (.int (us.length:Nat),.val) σ
 lab:∀us,(∀u∈us,labT u)→G "label_texts" [.vec "character" us .none] σ=.ok (.list us,.own) σ
def Ji:Option Stmt→List Stmt
 |some (.If _ b _ _)=>b
 |_=>[]
def Zu5:Option Stmt:=(Ji ((Zs "atomic_labels")[1]?))[1]?
def alK1 (G:Calls):Out→Lv→M (T×Kd):=fun o L'=>match o with
 |.next=>cSs G ((Zs "atomic_labels").drop 2) L' (fun o _=>outT o)
 |o=>outT o
def alK2 (G:Calls):Out→Lv→M (T×Kd):=fun o L'=>match o with
 |.next=>cSs G ((Ji ((Zs "atomic_labels")[1]?)).drop 2) L' (alK1 G)
 |o=>alK1 G o L'
section
variable {G:Calls}{σ:Sg}(W:At G σ)
include W
theorem Zjj (its:List T)(a:T):∀(PS:List (Option (List T))) (acc:List T) (L:Lv),(∀us,some us∈PS→∀u∈us,labT u)→acc.length+PS.length < 1000→
  ((L={ loc:=[("value",.vec "list" its a),("what",.str "names")],own:=[("texts",.list acc,.own)],mv:=mvOf "atomic_labels",hot:=false })∨∃t0,L={ loc:=[("value",.vec "list" its a),("what",.str "names"),("item",t0)],own:=[("texts",.list acc,.own)],mv:=mvOf "atomic_labels",hot:=false })→
  cFor "item" (fun L k=>cSs G (Zm Zu5) L k) (PS.map optV) L (alK2 G) σ=match Qk PS acc with
   |some ws=>.ok (.list ws,.own) σ
   |none=>.exn "invalid type (list) to set 'names' attribute" σ
 |[],acc,L,_,_,hL=>by
  show alK2 G .next L σ=_;rcases hL with rfl | ⟨t0,rfl⟩
  ·conv=>lhs;whnf
   rfl
  ·conv=>lhs;whnf
   rfl
 |p::r,acc,L,hlab,hl,hL=>by
  have hac:acc.length < 2000:=by simp at hl;omega
  rcases p with _ | us
  ·unfold Qk;rcases hL with rfl | ⟨t0,rfl⟩
   all_goals (
    conv=>lhs;whnf
    refine Zb _ (W.at0 ..) ?_;kernel_rfl)
  ·rcases us with _ | ⟨u,_ | ⟨u2,us⟩⟩
   ·unfold Qk;rcases hL with rfl | ⟨t0,rfl⟩
    all_goals (
     conv=>lhs;whnf
     refine Zb _ (W.at1 ..) ?_
     conv=>lhs;whnf
     refine Zb _ (W.len ..) ?_;kernel_rfl)
   ·have ih:=Zjj its a r (acc++[u]) _ (fun us hu=>hlab us (by simp [hu])) (by simp at hl ⊢;omega) (.inr ⟨.vec "character" [u] .none,rfl⟩);rw [show Qk (some [u]::r) acc=Qk r (acc++[u]) from rfl,←ih];have hlu:=W.lab [u] (hlab [u] (by simp));rcases hL with rfl | ⟨t0,rfl⟩
    all_goals (
     conv=>lhs;whnf
     refine Zb _ (W.at1 ..) ?_
     conv=>lhs;whnf
     refine Zb _ (W.len ..) ?_
     conv=>lhs;whnf
     refine Zb _ hlu ?_
     conv=>lhs;whnf
     rw [Z4 hac];rfl)
   ·rw [show Qk (some (u::u2::us)::r) acc=none from rfl];have hn:((u::u2::us).length:Int)≠1:=by simp;omega
    rcases hL with rfl | ⟨t0,rfl⟩
    all_goals (
     conv=>lhs;whnf
     refine Zb _ (W.at1 ..) ?_
     conv=>lhs;whnf
     refine Zb _ (W.len ..) ?_
     conv=>lhs;whnf
     try rw [show decide (((u::u2::us).length:Int)=1)=false from dF hn]
     kernel_rfl)
theorem Zq6 (PS:List (Option (List T)))(a:T)(hlab:∀us,some us∈PS→∀u∈us,labT u)(hl:PS.length < 1000):Ze G "atomic_labels" [.vec "list" (PS.map optV) a,.str "names"] σ=match Qk PS [] with
   |some ws=>.ok (.list ws,.own) σ
   |none=>.exn "invalid type (list) to set 'names' attribute" σ:=by
 rw [←Zjj W (PS.map optV) a PS [] _ hlab (by simpa using hl) (.inl rfl)]
 conv=>lhs;whnf
 refine Zb _ (W.atl ..) ?_;rfl
end
def rowI (l:List (Option Int)):List T:=match l with
 |[none,some x]=>(Qa 1 ((x.natAbs:Int)+1)).map .int
 |l=>l.map optT
section
variable (G:Calls)(row:Option (List Int))(k:Str)(its:List T)(at' at2:Option (List (Str×T)))(ep ep':Nat)
theorem Zny (l:List (Option Int))(a:T)(hr:∀i:Int,i < 1000→G "room" [.int i] (SG row k its at' ep)=.ok (.int i,.val) (SG row k its at' ep))(hi:∀ts,G "integer" [.list ts] (SG row k its at' ep)=.ok (.vec "integer" ts .none,.ownIo) (SG row k its at' ep))
  (hi2:∀a b:Int,Zj a=true→Zj b=true→b - a≤1000→G "integer" [.range a b] (SG row k its at' ep)=.ok (.vec "integer" ((Qa a b).map .int) .none,.ownIo) (SG row k its at' ep)) (hx:∀x,some x∈l→x.natAbs < 900)
  (h:G "put_attr" [.self,.str "row.names",.vec "integer" (rowI l) .none] (SG row k its at' ep)=.ok (.none,.val) (SG row k its at2 ep')):
  Ze G "set_row_names" [.self,.vec "integer" (l.map optT) a] (SG row k its at' ep)=.ok (.none,.val) (SG row k its at2 ep'):=by
 by_cases hl:l.length=2
 ·obtain ⟨p,q,rfl⟩:∃p q,l=[p,q]:=by
   rcases l with _ | ⟨p,_ | ⟨q,_ | ⟨w,l⟩⟩⟩<;>simp at hl
   exact ⟨p,q,rfl⟩
  cases p with
  |some x=>
   conv=>lhs;whnf
   refine Zb _ (hi _) ?_
   conv=>lhs;whnf
   exact Zb (T.none,Kd.val) h rfl
  |none=>
   cases q with
   |none=>
    conv=>lhs;whnf
    refine Zb _ (hi _) ?_
    conv=>lhs;whnf
    exact Zb (T.none,Kd.val) h rfl
   |some x=>
    have hx':=hx x (by simp)
    conv=>lhs;whnf
    refine Zb _ (hr (x.natAbs:Int) (by omega)) ?_
    conv=>lhs;whnf
    refine Zb _ (hi2 1 ((x.natAbs:Int)+1) (by decide) (Zco (by omega)) (by omega)) ?_
    conv=>lhs;whnf
    exact Zb (T.none,Kd.val) h rfl
 ·have hrow:rowI l=l.map optT:=by
   rcases l with _ | ⟨p,_ | ⟨q,_ | ⟨w,l⟩⟩⟩
   ·rfl
   ·cases p<;>rfl
   ·exact absurd rfl hl
   ·cases p<;>cases q<;>rfl
  rw [hrow] at h
  conv=>lhs;whnf
  rw [show decide (((l.map optT).length:Int)=2)=false from dF (by simp;omega)]
  conv=>lhs;whnf
  refine Zb _ (hi _) ?_
  conv=>lhs;whnf
  exact Zb (T.none,Kd.val) h rfl
theorem Znz (l:List Nat)(a:T)(hi:∀ts,G "integer" [.list ts] (SG row k its at' ep)=.ok (.vec "integer" ts .none,.ownIo) (SG row k its at' ep))
  (h:G "put_attr" [.self,.str "row.names",.vec "integer" (l.map fun _=>.none) .none] (SG row k its at' ep)=.ok (.none,.val) (SG row k its at2 ep')):
  Ze G "set_row_names" [.self,.vec "double" (l.map Z5) a] (SG row k its at' ep)=.ok (.none,.val) (SG row k its at2 ep'):=by
 have e:(l.map Z5).map (fun _=>T.none)=l.map fun _=>T.none:=by rw [List.map_map];rfl
 conv=>lhs;whnf
 rw [Qz (fun _=>T.none)]
 rotate_left
 ·intro t ht;rfl
 ·intro t ht;obtain ⟨s,hs,rfl⟩:=List.mem_map.mp ht;exact ⟨.val,by simp,by kernel_rfl⟩
 rw [e]
 by_cases hl:l.length=2
 ·obtain ⟨p,q,rfl⟩:∃p q,l=[p,q]:=by
   rcases l with _ | ⟨p,_ | ⟨q,_ | ⟨w,l⟩⟩⟩<;>simp at hl
   exact ⟨p,q,rfl⟩
  conv=>lhs;whnf
  refine Zb _ (hi _) ?_
  conv=>lhs;whnf
  exact Zb (T.none,Kd.val) h rfl
 ·conv=>lhs;whnf
  rw [show decide (((l.map fun _=>T.none).length:Int)=2)=false from dF (by simp;omega)]
  conv=>lhs;whnf
  refine Zb _ (hi _) ?_
  conv=>lhs;whnf
  exact Zb (T.none,Kd.val) h rfl
theorem Zh2 (k':Str)(hk:k'="logical"∨k'="list")(us:List T)(a:T):Ze G "set_row_names" [.self,.vec k' us a] (SG row k its at' ep)=.exn ("row names must be 'character' or 'integer', not '"++k'++"'") (SG row k its at' ep):=by
 rcases hk with rfl | rfl<;>kernel_rfl
end
inductive Vl where
 |chr (us:List T) | int (l:List (Option Int)) | dbl (l:List Nat) | lgl (l:List (Option Int)) | lst (ps:List (Option (List T))) (h:Option (List T)) | nul
def Vl.t:Vl→T
 |.chr us=>.vec "character" us .none
 |.int l=>.vec "integer" (l.map optT) .none
 |.dbl l=>.vec "double" (l.map Z5) .none
 |.lgl l=>.vec "logical" (l.map optT) .none
 |.lst ps h=>.vec "list" (ps.map optV) (Zx h)
 |.nul=>.null
def Vl.ok:Vl→Prop
 |.chr us=>us.length≤9∧∀u∈us,labT u
 |.int l=>l.length≤10∧∀x,some x∈l→x.natAbs≤20
 |.dbl l=>l≠[]∧l.length≤3∧∀s∈l,s≤8
 |.lgl l=>l.length≤9∧∀x,some x∈l→x=0∨x=1
 |.lst ps h=>ps.length≤3∧(∀us,some us∈ps→us.length≤8∧∀u∈us,labT u)∧∀hs,h=some hs→hs.length=ps.length∧∀u∈hs,labT u
 |.nul=>True
def hI:T→T
 |.int i=>.str (Zg i)
 |_=>.none
def hL:T→T
 |.int i=>.str (if i=1 then "TRUE" else "FALSE")
 |_=>.none
def hD:T→T
 |.tup [.int i,_]=>.str (Zg (Int.fdiv i 2)++".5")
 |_=>.none
def Jb:Vl→Option (List T)
 |.chr us=>some us
 |.int l=>some ((l.map optT).map hI)
 |.dbl l=>some ((l.map Z5).map hD)
 |.lgl l=>some ((l.map optT).map hL)
 |.lst ps _=>Qk ps []
 |.nul=>none
theorem Zr2:∀s:Nat,s < 9→hD (Z5 s)=.str (if s=0 then "0.5" else if s=1 then "1.5" else if s=2 then "2.5" else if s=3 then "3.5" else if s=4 then "4.5" else if s=5 then "5.5" else if s=6 then "6.5" else if s=7 then "7.5" else "8.5"):=by
 intro s hs;have h:s=0∨s=1∨s=2∨s=3∨s=4∨s=5∨s=6∨s=7∨s=8:=by omega
 rcases h with rfl | rfl | rfl | rfl | rfl | rfl | rfl | rfl | rfl<;>kernel_rfl
section
variable (d:Nat)(σ:Sg)
theorem Zon (s:Nat)(hs:s < 9):Zd (d+9) "number_text" [Z5 s,.int 15] σ=.ok (hD (Z5 s),.val) σ:=by
 rw [Zr2 s hs];have h:s=0∨s=1∨s=2∨s=3∨s=4∨s=5∨s=6∨s=7∨s=8:=by omega
 rcases h with rfl | rfl | rfl | rfl | rfl | rfl | rfl | rfl | rfl
 ·exact Zow d σ
 ·exact Zov d σ
 ·exact Zou d σ
 ·exact Zot d σ
 ·exact Zos d σ
 ·exact Zor d σ
 ·exact Zoq d σ
 ·exact Zop d σ
 ·exact Zoo d σ
theorem Zrc (s:Nat)(hs:s < 9):Zd (d+10) "label_text" [.str "double",Z5 s] σ=.ok (hD (Z5 s),.val) σ:=by
 rw [Zf]
 conv=>lhs;whnf
 exact Zb _ (Zon d σ s hs) rfl
theorem Ze9 (us:List T)(h:∀u∈us,labT u):Zd (d+11) "label_texts" [.vec "character" us .none] σ=.ok (.list us,.own) σ:=by
 rw [Zf];have e:=Zec (Zd (d+10)) σ "character" us id (by rw [Zf];exact Zc0 _ σ _ _ _) (fun t ht=>by
  rw [Zf];exact Zrb _ σ t (by rcases h t ht with rfl | ⟨x,rfl,_⟩;exact .inl rfl;exact .inr ⟨x,rfl⟩))
 rwa [List.map_id] at e
theorem Zmb (l:List (Option Int))(h:∀x,some x∈l→x.natAbs≤20):Zd (d+11) "label_texts" [.vec "integer" (l.map optT) .none] σ=.ok (.list ((l.map optT).map hI),.own) σ:=by
 rw [Zf];refine Zec (Zd (d+10)) σ "integer" (l.map optT) hI (by rw [Zf];exact Zc0 _ σ _ _ _) (fun t ht=>?_);obtain ⟨o,ho,rfl⟩:=List.mem_map.mp ht;rw [Zf]
 cases o with
 |none=>exact Zjk _ σ _
 |some i=>exact Zra _ σ i (dT (by have:=h i ho;omega))
theorem Zma (l:List (Option Int))(h:∀x,some x∈l→x=0∨x=1):Zd (d+11) "label_texts" [.vec "logical" (l.map optT) .none] σ=.ok (.list ((l.map optT).map hL),.own) σ:=by
 rw [Zf];refine Zec (Zd (d+10)) σ "logical" (l.map optT) hL (by rw [Zf];exact Zc0 _ σ _ _ _) (fun t ht=>?_);obtain ⟨o,ho,rfl⟩:=List.mem_map.mp ht;rw [Zf]
 cases o with
 |none=>exact Zjk _ σ _
 |some i=>exact Zq9 _ σ i (h i ho)
theorem Zmc (l:List Nat)(h:∀s∈l,s≤8):Zd (d+11) "label_texts" [.vec "double" (l.map Z5) .none] σ=.ok (.list ((l.map Z5).map hD),.own) σ:=by
 rw [Zf];refine Zec (Zd (d+10)) σ "double" (l.map Z5) hD (by rw [Zf];exact Zc0 _ σ _ _ _) (fun t ht=>?_);obtain ⟨s,hs,rfl⟩:=List.mem_map.mp ht;exact Zrc d σ s (by have:=h s hs;omega)
theorem Zux:At (Zd (d+11)) σ:=by
 refine ⟨?_,fun us a=>?_,fun us a=>?_,fun us a=>?_,fun us h=>Ze9 d σ us h⟩
 ·rw [Zf];exact Zrm _ σ
 ·rw [Zf];exact Zf6 _ σ us a
 ·rw [Zf];exact Zrn _ σ us a
 ·rw [Zf];exact Zjc _ σ us a
theorem Zq8 (v:Vl)(hv:v.ok)(hn:v.t≠.null):Zd (d+12) "atomic_labels" [v.t,.str "names"] σ=match Jb v with
   |some ws=>.ok (.list ws,.own) σ
   |none=>.exn "invalid type (list) to set 'names' attribute" σ:=by
 rw [Zf]
 cases v with
 |chr us=>exact Zdj _ σ _ _ _ _ _ (by rw [Zf];exact Zf6 _ σ _ _) (Ze9 d σ us hv.2)
 |int l=>exact Zdj _ σ _ _ _ _ _ (by rw [Zf];exact Zrp _ σ _ _) (Zmb d σ l hv.2)
 |dbl l=>exact Zdj _ σ _ _ _ _ _ (by rw [Zf];exact Zrq _ σ _ _) (Zmc d σ l hv.2.2)
 |lgl l=>exact Zdj _ σ _ _ _ _ _ (by rw [Zf];exact Zro _ σ _ _) (Zma d σ l hv.2)
 |lst ps h=>exact Zq6 (Zux d σ) ps _ (fun us hu=>(hv.2.1 us hu).2) (by have:=hv.1;omega)
 |nul=>exact absurd rfl hn
theorem Zq7 (us:List T)(h:∀u∈us,labT u):Zd (d+12) "atomic_labels" [.vec "character" us .none,.str "dimnames"] σ=.ok (.list us,.own) σ:=by
 rw [Zf];exact Zdj _ σ _ _ _ _ _ (by rw [Zf];exact Zf6 _ σ _ _) (Ze9 d σ us h)
end
section
variable (G:Calls)
def Q5 (r:Res (T×Kd)):Res (T×Kd):=match r with
 |.ok _ s=>.ok (.none,.val) s
 |.exn m s=>.exn m s
 |.stuck=>.stuck
theorem Zuq (row)(k:Str)(its at' ep)(t:T)(hk:k≠"NULL"):Ze G "set_attr" [.self,.str "names",t] (SG row k its at' ep)=Q5 (G "set_name_value" [.self,t] (SG row k its at' ep)):=by
 conv=>lhs;whnf
 rw [dF hk]
 conv=>lhs;whnf
 unfold Q5
 generalize G "set_name_value" [.self,t] (SG row k its at' ep)=r
 cases r<;>rfl
theorem Zuv (row)(k:Str)(its at' ep)(k':Str)(us:List T)(a:T)(hk:k≠"NULL")(hk2:k'≠"NULL"):Ze G "set_attr" [.self,.str "dim",.vec k' us a] (SG row k its at' ep)=Q5 (G "set_dim" [.self,.vec k' us a] (SG row k its at' ep)):=by
 conv=>lhs;whnf
 rw [dF hk]
 conv=>lhs;whnf
 rw [dF hk2]
 conv=>lhs;whnf
 unfold Q5
 generalize G "set_dim" [.self,.vec k' us a] (SG row k its at' ep)=r
 cases r<;>rfl
theorem Zuu (row)(k:Str)(its at' ep)(k':Str)(us:List T)(a:T)(hk:k≠"NULL")(hk2:k'≠"NULL"):Ze G "set_attr" [.self,.str "dimnames",.vec k' us a] (SG row k its at' ep)=Q5 (G "set_dimnames" [.self,.vec k' us a] (SG row k its at' ep)):=by
 conv=>lhs;whnf
 rw [dF hk]
 conv=>lhs;whnf
 rw [dF hk2]
 conv=>lhs;whnf
 unfold Q5
 generalize G "set_dimnames" [.self,.vec k' us a] (SG row k its at' ep)=r
 cases r<;>rfl
theorem Zuw (row)(k:Str)(its at' ep)(k':Str)(us:List T)(a:T)(hk:k≠"NULL")(hk2:k'≠"NULL"):Ze G "set_attr" [.self,.str "class",.vec k' us a] (SG row k its at' ep)=Q5 (G "set_class" [.self,.vec k' us a] (SG row k its at' ep)):=by
 conv=>lhs;whnf
 rw [dF hk]
 conv=>lhs;whnf
 rw [dF hk2]
 conv=>lhs;whnf
 unfold Q5
 generalize G "set_class" [.self,.vec k' us a] (SG row k its at' ep)=r
 cases r<;>rfl
theorem Zur (row)(k:Str)(its at' ep)(k':Str)(us:List T)(a:T)(hk:k≠"NULL")(hk2:k'≠"NULL"):Ze G "set_attr" [.self,.str "levels",.vec k' us a] (SG row k its at' ep)=Q5 (G "set_levels" [.self,.vec k' us a] (SG row k its at' ep)):=by
 conv=>lhs;whnf
 rw [dF hk]
 conv=>lhs;whnf
 rw [dF hk2]
 conv=>lhs;whnf
 unfold Q5
 generalize G "set_levels" [.self,.vec k' us a] (SG row k its at' ep)=r
 cases r<;>rfl
theorem Zun (row)(k:Str)(its at' ep)(k':Str)(us:List T)(a:T)(hk:k≠"NULL")(hk2:k'≠"NULL"):Ze G "set_attr" [.self,.str "row.names",.vec k' us a] (SG row k its at' ep)=Q5 (G "set_row_names" [.self,.vec k' us a] (SG row k its at' ep)):=by
 conv=>lhs;whnf
 rw [dF hk]
 conv=>lhs;whnf
 rw [dF hk2]
 conv=>lhs;whnf
 unfold Q5
 generalize G "set_row_names" [.self,.vec k' us a] (SG row k its at' ep)=r
 cases r<;>rfl
theorem Zum (row)(k:Str)(its at' ep)(k':Str)(us:List T)(a:T)(hk:k≠"NULL")(hk2:k'≠"NULL"):Ze G "set_attr" [.self,.str "unit",.vec k' us a] (SG row k its at' ep)=Q5 (G "put_attr" [.self,.str "unit",.vec k' us a] (SG row k its at' ep)):=by
 conv=>lhs;whnf
 rw [dF hk]
 conv=>lhs;whnf
 rw [dF hk2]
 conv=>lhs;whnf
 unfold Q5
 generalize G "put_attr" [.self,.str "unit",.vec k' us a] (SG row k its at' ep)=r
 cases r<;>rfl
theorem Zut (row)(k:Str)(its at' at2 ep ep')(name:Str)(hn:name∈(["dimnames","class","levels","row.names","unit"]:List Str))(hk:k≠"NULL")(h:G "drop_attr" [.self,.str name] (SG row k its at' ep)=.ok (.none,.val) (SG row k its at2 ep')):
  Ze G "set_attr" [.self,.str name,.null] (SG row k its at' ep)=.ok (.none,.val) (SG row k its at2 ep'):=by
 simp only [List.mem_cons,List.not_mem_nil,or_false] at hn;rcases hn with rfl | rfl | rfl | rfl | rfl
 all_goals (
  conv=>lhs;whnf
  rw [dF hk]
  conv=>lhs;whnf
  exact Zb _ h rfl)
theorem Zus (row)(k:Str)(its at' at2 at3 ep ep2 ep3)(hk:k≠"NULL")(h:G "drop_attr" [.self,.str "dim"] (SG row k its at' ep)=.ok (.none,.val) (SG row k its at2 ep2))(h2:G "drop_attr" [.self,.str "dimnames"] (SG row k its at2 ep2)=.ok (.none,.val) (SG row k its at3 ep3)):
  Ze G "set_attr" [.self,.str "dim",.null] (SG row k its at' ep)=.ok (.none,.val) (SG row k its at3 ep3):=by
 conv=>lhs;whnf
 rw [dF hk]
 conv=>lhs;whnf
 refine Zb _ h ?_
 conv=>lhs;whnf
 exact Zb _ h2 rfl
theorem Zup (name:Str)(σ:Sg):Ze G "set_attr" [.null,.str name,.null] σ=.ok (.none,.val) σ:=by kernel_rfl
theorem Zuo (name:Str)(σ:Sg)(k':Str)(us:List T)(a:T)(hk2:k'≠"NULL"):Ze G "set_attr" [.null,.str name,.vec k' us a] σ=.exn "attempt to set an attribute on NULL" σ:=by
 conv=>lhs;whnf
 rw [dF hk2];rfl
end
abbrev Lk:=Str→Option T
abbrev Eff:=Str ⊕ List (Str×Option T)
abbrev At0:=Option (List (Str×T))
def lkA (at':At0):Lk:=fun y=>(at'.getD []).lookup y
def app (u:List (Str×Option T))(lk:Lk):Lk:=fun y=>match u.lookup y with
 |some r=>r
 |none=>lk y
def dimL (lk:Lk):Option (List T):=match lk "dim" with
 |some (.vec _ ds _)=>some ds
 |_=>none
def Jg (lk:Lk):Bool:=match dimL lk with
 |some ds=>decide (ds.length=1)
 |none=>false
def Q7 (lk:Lk):Str:=if Jg lk=true then "dimnames" else "names"
def Zak (lk:Lk)(ws:List T):T:=if Jg lk=true then .vec "list" [.vec "character" ws .none] .none else .vec "character" ws .none
theorem Zhd:∀(ps:List (Option (List T))) (acc ws:List T),Qk ps acc=some ws→ws.length=acc.length+ps.length
 |[],acc,ws,h=>by cases h;rfl
 |none::r,acc,ws,h=>by cases h
 |some []::r,acc,ws,h=>by cases h
 |some [u]::r,acc,ws,h=>by
  have:=Zhd r (acc++[u]) ws h;rw [this];simp;omega
 |some (u::u2::us)::r,acc,ws,h=>by cases h
theorem Ze5 {v:Vl}(hv:v.ok){ws:List T}(h:Jb v=some ws):ws.length < 20:=by
 cases v with
 |chr us=>cases h;have:=hv.1;omega
 |int l=>cases h;have:=hv.1;simp;omega
 |dbl l=>cases h;have:=hv.2.1;simp;omega
 |lgl l=>cases h;have:=hv.1;simp;omega
 |lst ps hh=>have:=Zhd _ _ _ h;have:=hv.1;simp at *;omega
 |nul=>cases h
def Q2 (lk:Lk)(n:Nat):Vl→Eff
 |.nul=>.inr [(Q7 lk,none)]
 |v=>match Jb v with
  |none=>.inl "invalid type (list) to set 'names' attribute"
  |some ws=>if n < ws.length then .inl (msgN ws.length n) else
   .inr [(Q7 lk,some (Zak lk (ws++List.replicate (n - ws.length) .none)))]
def Jk:Vl→Str ⊕ List Int
 |.int l=>if l.length=0 then .inl "length-0 dimension vector is invalid" else J8 l []
 |.lgl l=>if l.length=0 then .inl "length-0 dimension vector is invalid" else J8 l []
 |.dbl l=>.inr (l.map fun (s:Nat)=>(s:Int))
 |_=>.inl "invalid second argument, must be vector or NULL"
def Zb7 (n:Nat):Vl→Eff
 |.nul=>.inr [("dim",none),("dimnames",none)]
 |v=>match Jk v with
  |.inl m=>.inl m
  |.inr ds=>if Zo ds 1=(n:Int) then .inr [("dim",some (.vec "integer" (ds.map .int) .none)),("names",none),("dimnames",none)] else .inl (msgD (Zo ds 1) n)
def Zal (ts:List T):List Int:=ts.map fun t=>match t with | .int i=>i | _=>0
def Za6 (lk:Lk):Vl→Eff
 |.nul=>.inr [("dimnames",none)]
 |v=>match dimL lk with
  |none=>.inl "'dimnames' applied to non-array"
  |some ds=>match v with
   |.lst ps h=>if ps.length=0 then .inr [("dimnames",none)] else if ds.length < ps.length then .inl (msgQ ps.length ds.length) else
    (match dnS ps (Zal ds) 0 [] with
    |.inl m=>.inl m
    |.inr acc=>if (h.isSome||acc.any isV)=true then .inr [("dimnames",some (.vec "list" acc (Zx (padH h ds.length))))] else .inr [("dimnames",none)])
   |_=>.inl "'dimnames' must be a list"
def Zer (k:Str):Vl→Eff
 |.nul=>.inr [("class",none)]
 |.chr us=>if us.length=0 then .inr [("class",none)] else if us.any (isK "factor")=true∧k≠"integer" then .inl "adding class \"factor\" to an invalid object" else .inr [("class",some (.vec "character" us .none))]
 |_=>.inl "attempt to set invalid 'class' attribute"
def Zeq:Vl→Eff
 |.nul=>.inr [("levels",none)]
 |.chr us=>(match dupR [] us with
  |some i=>.inl (msgL i)
  |none=>.inr [("levels",some (.vec "character" us .none))])
 |v=>.inr [("levels",some v.t)]
def Zre:Vl→Str
 |.lgl _=>"logical"
 |_=>"list"
def Zeo:Vl→Eff
 |.nul=>.inr [("row.names",none)]
 |.chr us=>.inr [("row.names",some (.vec "character" us .none))]
 |.int l=>.inr [("row.names",some (.vec "integer" (rowI l) .none))]
 |.dbl l=>.inr [("row.names",some (.vec "integer" (l.map fun _=>.none) .none))]
 |v=>.inl ("row names must be 'character' or 'integer', not '"++Zre v++"'")
def Zc5:Vl→Eff
 |.nul=>.inr [("unit",none)]
 |v=>.inr [("unit",some v.t)]
structure Ok (k:Str) (n:Nat) (its:List T) (at':At0):Prop where
 hk:k∈(["integer","double","character","logical","list"]:List Str)
 len:its.length=n
 n8:n≤8
 sz:(at'.getD []).length < 100
 nd:((at'.getD []).map (·.1)).Nodup
 dim:lkA at' "dim"=none∨∃ds:List Int,ds≠[]∧ds.length≤10∧lkA at' "dim"=some (.vec "integer" (ds.map .int) .none)
theorem Ok.nul {k n its at'}(h:Ok k n its at'):k≠"NULL"∧k≠"language"∧k≠"environment":=by
 have:=h.hk;simp only [List.mem_cons,List.not_mem_nil,or_false] at this;rcases this with rfl | rfl | rfl | rfl | rfl<;>decide +kernel
def PRes (R:Res (T×Kd))(row:Option (List Int))(k:Str)(its:List T)(at':At0)(ep:Nat)(e:Eff):Prop:=match e with
 |.inl m=>R=.exn m (SG row k its at' ep)
 |.inr u=>∃at2 ep2,R=.ok (.none,.val) (SG row k its at2 ep2)∧((at2.getD []).map (·.1)).Nodup∧(∀y,lkA at2 y=app u (lkA at') y)∧(at2.getD []).length≤(at'.getD []).length+1
theorem Jq (x y:Str)(r:Option T)(lk:Lk):app [(x,r)] lk y=if y=x then r else lk y:=by
 unfold app;rw [List.lookup_cons]
 by_cases h:y=x
 ·subst h;simp
 ·have:(y == x)=false:=by simpa using h
  rw [this,if_neg h];rfl
theorem Zch (x y:Str)(r:Option T)(u:List (Str×Option T))(lk:Lk):app ((x,r)::u) lk y=if y=x then r else app u lk y:=by
 unfold app;rw [List.lookup_cons]
 by_cases h:y=x
 ·subst h;simp
 ·have:(y == x)=false:=by simpa using h
  rw [this,if_neg h]
theorem Zvr (y:Str)(lk:Lk):app [] lk y=lk y:=rfl
theorem Zcv (at':At0)(k y:Str)(h:((at'.getD []).map (·.1)).Nodup):lkA (Z1 at' k) y=if y=k then none else lkA at' y:=Zs3 at' k y h
theorem Zi8 (at':At0)(k y:Str)(t:T):lkA (putA at' k t) y=if y=k then some t else lkA at' y:=Zoc at' k y t
theorem Zcs {R:Res (T×Kd)}{row k its at' ep}{x:Str}(hnd:((at'.getD []).map (·.1)).Nodup)(h:∃ep2,R=.ok (.none,.val) (SG row k its (Z1 at' x) ep2)):PRes R row k its at' ep (.inr [(x,none)]):=by
 obtain ⟨ep2,e⟩:=h;exact ⟨_,ep2,e,Zc8 at' x hnd,fun y=>by rw [Jq,Zcv at' x y hnd],Nat.le_succ_of_le (Zc9 at' x)⟩
theorem Zag {R:Res (T×Kd)}{row k its at' ep}{x:Str}{t:T}(hnd:((at'.getD []).map (·.1)).Nodup)(h:∃ep2,R=.ok (.none,.val) (SG row k its (putA at' x t) ep2)):PRes R row k its at' ep (.inr [(x,some t)]):=by
 obtain ⟨ep2,e⟩:=h;exact ⟨_,ep2,e,Zif at' x t hnd,fun y=>by rw [Jq,Zi8 at' x y t],Zbj _ _ _⟩
section
variable (d:Nat)(row:Option (List Int)){k:Str}{n:Nat}{its:List T}{at':At0}(ep:Nat)(O:Ok k n its at')
include O
theorem Zdc:Zd (d+2) "dim_of" [.self] (SG row k its at' ep)=match dimL (lkA at') with
  |none=>.ok (.none,.val) (SG row k its at' ep)
  |some ds=>.ok (.list ds,.own) (SG row k its at' ep):=by
 unfold dimL;rcases O.dim with h | ⟨ds,_,_,h⟩
 ·rw [h]
  cases at' with
  |none=>exact Zth d row k its ep
  |some es=>exact Zti d row k its es ep h
 ·rw [h]
  cases at' with
  |none=>cases h
  |some es=>exact Ztg d row k its es ep h
theorem Zjd:Zd (d+1) "length" [.self] (SG row k its at' ep)=.ok (.int its.length,.val) (SG row k its at' ep):=by
 rw [Zf];exact Zqj _ row k its at' ep O.nul.1
theorem Zo8 (v:Vl)(hv:v.ok):PRes (Zd (d+14) "set_attr" [.self,.str "names",v.t] (SG row k its at' ep)) row k its at' ep (Q2 (lkA at') n v):=by
 have W:=Zi4 (d+9);have hd:=Zdc (d+9) row ep O;rw [Zf,Zuq _ row k its at' ep _ O.nul.1];rw [Zf];have hz:(at'.getD []).length < 1000:=by have:=O.sz;omega
 by_cases hn:v=.nul
 ·subst hn;have e:∃ep',Zd (d+12) "set_names" [.self,.none] (SG row k its at' ep)=.ok (.none,.val) (SG row k its (Z1 at' (Q7 (lkA at'))) ep'):=by
   rw [Zf];unfold Q7 Jg
   cases hdl:dimL (lkA at') with
   |none=>rw [hdl] at hd;exact Zm9 W row k its at' ep O.nul.2.1 hd
   |some ds=>
    rw [hdl] at hd;obtain ⟨ep',e⟩:=Zm8 W row k its at' ep ds O.nul.2.1 hd;refine ⟨ep',e.trans ?_⟩
    by_cases h1:ds.length=1
    ·rw [if_pos h1,if_pos (dT h1)]
    ·rw [if_neg h1,if_neg (by simpa using h1)]
  obtain ⟨ep',e⟩:=e;refine Zcs O.nd ⟨ep',?_⟩;rw [show (Vl.nul).t=.null from rfl,Znd _ its row k at' _ ep ep' e];rfl
 ·obtain ⟨k',us,a,hk',e⟩:∃(k':Str) (us:List T) (a:T),k'≠"NULL"∧v.t=.vec k' us a:=by
   cases v<;>first | exact absurd rfl hn | exact ⟨_,_,_,by decide +kernel,rfl⟩
  have hl:=Zq8 d (SG row k its at' ep) v hv (by rw [e];intro q;cases q)
  have he:Q2 (lkA at') n v=match Jb v with
   |none=>.inl "invalid type (list) to set 'names' attribute"
   |some ws=>if n < ws.length then .inl (msgN ws.length n) else
    .inr [(Q7 (lkA at'),some (Zak (lkA at') (ws++List.replicate (n - ws.length) .none)))]:=by
   cases v<;>first | exact absurd rfl hn | rfl
  rw [he];rw [e] at hl ⊢;have hlen:=Zjd (d+11) row ep O
  cases hw:Jb v with
  |none=>
   rw [hw] at hl;show _=_;rw [Znc _ k' us a _ its row k at' ep hk' hl];rfl
  |some ws=>
   rw [hw] at hl;dsimp only;have hws:ws.length < 20:=by
    exact Ze5 hv hw
   by_cases hc:n < ws.length
   ·rw [if_pos hc];show _=_;rw [Zne _ k' us ws a its row k at' ep hk' hl hlen (by rw [O.len];exact hc) hws,O.len];rfl
   ·rw [if_neg hc];have e:∃ep',Zd (d+12) "set_names" [.self,.list (ws++List.replicate (its.length - ws.length) .none)] (SG row k its at' ep)=.ok (.none,.val) (SG row k its (putA at' (Q7 (lkA at')) (Zak (lkA at') (ws++List.replicate (n - ws.length) .none))) ep'):=by
     rw [Zf,O.len];unfold Q7 Zak Jg
     cases hdl:dimL (lkA at') with
     |none=>rw [hdl] at hd;exact Znb W row k its at' ep _ O.nul.2.1 hz hd
     |some ds=>
      rw [hdl] at hd;obtain ⟨ep',e⟩:=Zna W row k its at' ep ds (ws++List.replicate (n - ws.length) .none) O.nul.2.1 hz hd;refine ⟨ep',?_⟩;dsimp only
      by_cases h1:ds.length=1
      ·rw [if_pos h1] at e;rw [if_pos (dT h1),if_pos (dT h1)];exact e
      ·rw [if_neg h1] at e;rw [if_neg (by simpa using h1),if_neg (by simpa using h1)];exact e
    obtain ⟨ep',e⟩:=e;refine Zag O.nd ⟨ep',?_⟩;rw [Znf _ k' us ws a its row k at' _ ep ep' hk' hl hlen (by rw [O.len];omega) (by rw [O.len];have:=O.n8;omega) e];rfl
end
theorem Zgs:∀(l:List (Option Int)) (acc ds:List Int),J8 l acc=.inr ds→(∀x,some x∈l→x.natAbs≤20)→(∀x∈acc,0≤x∧x≤20)→(∀x∈ds,0≤x∧x≤20)∧ds.length=acc.length+l.length
 |[],acc,ds,h,_,ha=>by
  cases h;exact ⟨ha,by simp⟩
 |none::_,_,_,h,_,_=>by cases h
 |some i::r,acc,ds,h,hl,ha=>by
  unfold J8 at h;split at h
  ·cases h
  ·rename_i hi;have hi2:=hl i (by simp);obtain ⟨h1,h2⟩:=Zgs r (acc++[i]) ds h (fun x hx=>hl x (by simp [hx])) (fun x hx=>by
    rcases List.mem_append.mp hx with q | q
    ·exact ha x q
    ·rw [List.mem_singleton.mp q];omega)
   exact ⟨h1,by rw [h2];simp;omega⟩
theorem Zgr {v:Vl}(hv:v.ok){ds:List Int}(h:Jk v=.inr ds):(∀x∈ds,0≤x∧x≤20)∧ds.length≤10∧ds≠[]:=by
 cases v with
 |int l=>
  unfold Jk at h;dsimp only at h;split at h
  ·cases h
  ·obtain ⟨h1,h2⟩:=Zgs l [] ds h hv.2 (fun x hx=>absurd hx List.not_mem_nil);have:=hv.1;exact ⟨h1,by simp at h2;omega,fun e=>by subst e;simp at h2;omega⟩
 |lgl l=>
  unfold Jk at h;dsimp only at h;split at h
  ·cases h
  ·obtain ⟨h1,h2⟩:=Zgs l [] ds h (fun x hx=>by have:=hv.2 x hx;omega) (fun x hx=>absurd hx List.not_mem_nil);have:=hv.1;exact ⟨h1,by simp at h2;omega,fun e=>by subst e;simp at h2;omega⟩
 |dbl l=>
  cases h;refine ⟨fun x hx=>?_,by have:=hv.2.1;simp;omega,by simpa using hv.1⟩;obtain ⟨s,hs,rfl⟩:=List.mem_map.mp hx;have:=hv.2.2 s hs;omega
 |chr us=>cases h
 |lst ps hh=>cases h
 |nul=>cases h
theorem Zfk:∀(l:List Int) (t:Int),(∀x∈l,0≤x∧x≤20)→0≤t→0≤Zo l t∧Zo l t≤t * 20 ^ l.length
 |[],t,_,ht=>⟨ht,by show t≤_;simp⟩
 |x::r,t,h,ht=>by
  have hx:=h x (by simp);have h0:0≤t * x:=Int.mul_nonneg ht hx.1;obtain ⟨h1,h2⟩:=Zfk r (t * x) (fun y hy=>h y (by simp [hy])) h0;refine ⟨h1,Int.le_trans h2 ?_⟩;have e:t * 20 ^ (x::r).length=(t * 20) * 20 ^ r.length:=by
   rw [List.length_cons,Int.pow_succ,Int.mul_comm (20 ^ r.length) 20,Int.mul_assoc]
  rw [e];exact Int.mul_le_mul_of_nonneg_right (Int.mul_le_mul_of_nonneg_left hx.2 ht) (Int.pow_nonneg (by decide))
theorem Zih {ds:List Int}(h:∀x∈ds,0≤x∧x≤20)(hl:ds.length≤10):(∀i,i≤ds.length→Zj (Zo (ds.take i) 1)=true)∧0≤Zo ds 1:=by
 refine ⟨fun i hi=>?_,(Zfk ds 1 h (by decide)).1⟩;obtain ⟨h1,h2⟩:=Zfk (ds.take i) 1 (fun x hx=>h x (List.mem_of_mem_take hx)) (by decide);have h3:(20:Int) ^ (ds.take i).length≤20 ^ 10:=by
  have:(20:Nat) ^ (ds.take i).length≤20 ^ 10:=Nat.pow_le_pow_right (by decide) (by simp;omega)
  exact_mod_cast this
 unfold Zj;refine dT ?_;have:(20:Int) ^ 10=10240000000000:=by decide
 omega
theorem Zrt (G:Calls)(σ:Sg)(a b:Int)(ha:Zj a=true)(hb:Zj b=true)(hab:b - a≤1000):Ze G "integer" [.range a b] σ=.ok (.vec "integer" ((Qa a b).map .int) .none,.ownIo) σ:=by
 conv=>lhs;whnf
 refine Zb (T.list ((Qa a b).map .int),Kd.own) (σ':=σ) ?_ rfl;show (if (Zj a&&Zj b&&decide (b - a≤(Zc:Int)))=true then ownV (.list ((Qa a b).map .int)) else stuck) σ=_;rw [ha,hb,dT (show b - a≤(Zc:Int) from hab)];rfl
section
variable (d:Nat)(σ:Sg)
theorem Zsh (v:Vl)(hv:v.ok)(hn:v≠.nul):Zd (d+1) "extents" [v.t] σ=match Jk v with
  |.inl m=>.exn m σ
  |.inr ds=>.ok (.list (ds.map .int),.own) σ:=by
 rw [Zf]
 cases v with
 |int l=>
  show _=match (if l.length=0 then _ else _:Str ⊕ List Int) with | .inl m=>_ | .inr ds=>_
  by_cases hl:l.length=0
  ·rw [if_pos hl];rw [List.length_eq_zero_iff] at hl;subst hl;exact Zkb _ σ _ (.inl rfl) _
  ·rw [if_neg hl];exact Zj7 _ σ _ (.inl rfl) l _ (by have:=hv.1;omega) (fun e=>hl (by rw [e];rfl))
 |lgl l=>
  show _=match (if l.length=0 then _ else _:Str ⊕ List Int) with | .inl m=>_ | .inr ds=>_
  by_cases hl:l.length=0
  ·rw [if_pos hl];rw [List.length_eq_zero_iff] at hl;subst hl;exact Zkb _ σ _ (.inr (.inl rfl)) _
  ·rw [if_neg hl];exact Zj7 _ σ _ (.inr rfl) l _ (by have:=hv.1;omega) (fun e=>hl (by rw [e];rfl))
 |dbl l=>exact Zsg _ σ l _ (by have:=hv.2.1;omega) hv.1
 |chr us=>exact Zka _ σ _ (.inl rfl) _ _
 |lst ps h=>exact Zka _ σ _ (.inr rfl) _ _
 |nul=>exact absurd rfl hn
end
section
variable (d:Nat)(row:Option (List Int)){k:Str}{n:Nat}{its:List T}{at':At0}(ep:Nat)(O:Ok k n its at')
include O
theorem Zc7 (x:Str):∃ep',Zd (d+1) "drop_attr" [.self,.str x] (SG row k its at' ep)=.ok (.none,.val) (SG row k its (Z1 at' x) ep'):=Zgn d row k its ep x at'
theorem Zbe (x:Str)(k':Str)(ts:List T)(a:T):∃ep',Zd (d+2) "put_attr" [.self,.str x,.vec k' ts a] (SG row k its at' ep)=.ok (.none,.val) (SG row k its (putA at' x (.vec k' ts a)) ep'):=Zid d row k its ep x k' ts a at' (by have:=O.sz;omega)
theorem Zbq {v:Vl}(hn:v≠.nul):∃(k':Str) (us:List T) (a:T),k'≠"NULL"∧v.t=.vec k' us a:=by
 cases v<;>first | exact absurd rfl hn | exact ⟨_,_,_,by decide +kernel,rfl⟩
theorem Zc6 (x:Str)(hx:x∈(["dimnames","class","levels","row.names","unit"]:List Str)):PRes (Zd (d+14) "set_attr" [.self,.str x,.null] (SG row k its at' ep)) row k its at' ep (.inr [(x,none)]):=by
 obtain ⟨ep',e⟩:=Zc7 (d+12) row ep O x;refine Zcs O.nd ⟨ep',?_⟩;rw [Zf];exact Zut _ row k its at' _ ep ep' x hx O.nul.1 e
theorem Ztf (v:Vl)(hv:v.ok):PRes (Zd (d+14) "set_attr" [.self,.str "dim",v.t] (SG row k its at' ep)) row k its at' ep (Zb7 n v):=by
 by_cases hn:v=.nul
 ·subst hn;obtain ⟨ep2,e2⟩:=Zc7 (d+12) row ep O "dim";obtain ⟨ep3,e3⟩:=Zgn (d+12) row k its ep2 "dimnames" (Z1 at' "dim");have nd2:=Zc8 at' "dim" O.nd;refine ⟨Z1 (Z1 at' "dim") "dimnames",ep3,?_,Zc8 _ _ nd2,fun y=>?_,?_⟩
  ·rw [Zf];exact Zus _ row k its at' _ _ ep ep2 ep3 O.nul.1 e2 e3
  ·rw [Zch,Jq,Zcv _ _ _ nd2,Zcv _ _ _ O.nd];split<;>split<;>rfl
  ·exact Nat.le_succ_of_le (Nat.le_trans (Zc9 _ _) (Zc9 _ _))
 ·have he:Zb7 n v=match Jk v with
   |.inl m=>.inl m
   |.inr ds=>if Zo ds 1=(n:Int) then .inr [("dim",some (.vec "integer" (ds.map .int) .none)),("names",none),("dimnames",none)] else .inl (msgD (Zo ds 1) n):=by
   cases v<;>first | exact absurd rfl hn | rfl
  rw [he];have hx:=Zsh (d+11) (SG row k its at' ep) v hv hn;obtain ⟨k',us,a,hk',e⟩:=Zbq O hn;rw [Zf,e,Zuv _ row k its at' ep _ _ _ O.nul.1 hk',Zf,←e];have hlen:=Zjd (d+11) row ep O
  cases hd:Jk v with
  |inl m=>
   rw [hd] at hx;show _=_;rw [Znl _ row k its at' ep _ m hx];rfl
  |inr ds=>
   rw [hd] at hx;obtain ⟨b1,b2,b3⟩:=Zgr hv hd;obtain ⟨s1,s2⟩:=Zih b1 b2;dsimp only;have nd2:=Zc8 at' "names" O.nd;have nd3:=Zc8 _ "dimnames" nd2;have sz3:=Nat.le_trans (Zc9 (Z1 at' "names") "dimnames") (Zc9 at' "names")
   by_cases hp:Zo ds 1=(n:Int)
   ·rw [if_pos hp];obtain ⟨ep',e'⟩:=Znk (Zi4 (d+10)) row k its at' ep v.t ds b3 s1 (by rw [O.len];exact hp) hx hlen (by have:=O.sz;omega);refine ⟨putA (Z1 (Z1 at' "names") "dimnames") "dim" (.vec "integer" (ds.map .int) .none),ep',?_,Zif _ _ _ nd3,fun y=>?_,?_⟩
    ·rw [e'];rfl
    ·rw [Zch,Zch,Jq,Zi8,Zcv _ _ _ nd2,Zcv _ _ _ O.nd];split
     ·rfl
     ·split<;>split<;>rfl
    ·exact Nat.le_trans (Zbj _ _ _) (by omega)
   ·rw [if_neg hp];show _=_;rw [Znm row k its at' ep v.t ds b3 s1 (by rw [O.len];exact hp) s2 (by rw [O.len];have:=O.n8;omega) hx hlen,O.len];rfl
theorem Ztv (v:Vl)(hv:v.ok):PRes (Zd (d+14) "set_attr" [.self,.str "class",v.t] (SG row k its at' ep)) row k its at' ep (Zer k v):=by
 by_cases hn:v=.nul
 ·subst hn;exact Zc6 d row ep O "class" (by simp)
 ·obtain ⟨k',us,a,hk',e⟩:=Zbq O hn;rw [Zf,e,Zuw _ row k its at' ep _ _ _ O.nul.1 hk',Zf,←e]
  cases v with
  |chr us=>
   show PRes _ _ _ _ _ _ (if us.length=0 then _ else if us.any (isK "factor")=true∧k≠"integer" then _ else _);have hfl:us.all Q9=true:=by
    rw [List.all_eq_true];intro u hu;rcases hv.2 u hu with rfl | ⟨x,rfl,_⟩<;>rfl
   by_cases h0:us.length=0
   ·rw [if_pos h0];rw [List.length_eq_zero_iff] at h0;subst h0;obtain ⟨ep',e'⟩:=Zc7 (d+11) row ep O "class";refine Zcs O.nd ⟨ep',?_⟩;rw [show (Vl.chr []).t=.vec "character" [] .none from rfl,Znp _ k its at' _ ep ep' row .none e'];rfl
   ·rw [if_neg h0];have hne:us≠[]:=fun q=>h0 (by rw [q];rfl)
    by_cases hc:us.any (isK "factor")=true∧k≠"integer"
    ·rw [if_pos hc];show _=_;rw [show (Vl.chr us).t=.vec "character" us .none from rfl,Znq _ k its at' ep row us .none hfl hne hc.1 hc.2];rfl
    ·rw [if_neg hc];obtain ⟨ep',e'⟩:=Zbe (d+10) row ep O "class" "character" us .none;refine Zag O.nd ⟨ep',?_⟩;rw [show (Vl.chr us).t=.vec "character" us .none from rfl,Znn _ k its at' _ ep ep' row us .none hfl hne (by
      by_cases hb:us.any (isK "factor")=true
      ·exact .inr (Classical.byContradiction fun q=>hc ⟨hb,q⟩)
      ·exact .inl (Bool.eq_false_iff.mpr hb)) e']
     rfl
  |nul=>exact absurd rfl hn
  |_=>
   show _=_;unfold Vl.t;dsimp only;rw [Zno _ k its at' ep row _ _ _ (by decide +kernel)];rfl
theorem Zqi (v:Vl)(hv:v.ok):PRes (Zd (d+14) "set_attr" [.self,.str "levels",v.t] (SG row k its at' ep)) row k its at' ep (Zeq v):=by
 by_cases hn:v=.nul
 ·subst hn;exact Zc6 d row ep O "levels" (by simp)
 ·obtain ⟨k',us,a,hk',e⟩:=Zbq O hn;obtain ⟨ep',e'⟩:=Zbe (d+10) row ep O "levels" k' us a;rw [Zf,e,Zur _ row k its at' ep _ _ _ O.nul.1 hk',Zf]
  cases v with
  |chr us'=>
   cases e;have q:=Znh (Zd (d+12)) row k its at' _ ep ep' .none us hv.2 (by have:=hv.1;omega) e';rw [q];show PRes _ _ _ _ _ _ (match dupR [] us with | some i=>_ | none=>_)
   cases dupR [] us with
   |some i=>rfl
   |none=>exact Zag O.nd ⟨ep',rfl⟩
  |nul=>exact absurd rfl hn
  |_=>
   show PRes _ _ _ _ _ _ (.inr [("levels",some _)]);refine Zag O.nd ⟨ep',?_⟩;cases e;rw [Zng _ row k its at' _ ep ep' _ _ _ (by decide +kernel) e'];rfl
theorem Zl6 (v:Vl):PRes (Zd (d+14) "set_attr" [.self,.str "unit",v.t] (SG row k its at' ep)) row k its at' ep (Zc5 v):=by
 by_cases hn:v=.nul
 ·subst hn;exact Zc6 d row ep O "unit" (by simp)
 ·obtain ⟨k',us,a,hk',e⟩:=Zbq O hn;obtain ⟨ep',e'⟩:=Zbe (d+11) row ep O "unit" k' us a;have he:Zc5 v=.inr [("unit",some v.t)]:=by cases v<;>first | exact absurd rfl hn | rfl
  rw [he];refine Zag O.nd ⟨ep',?_⟩;rw [Zf,e,Zum _ row k its at' ep _ _ _ O.nul.1 hk',e'];rfl
theorem Znv (v:Vl)(hv:v.ok):PRes (Zd (d+14) "set_attr" [.self,.str "row.names",v.t] (SG row k its at' ep)) row k its at' ep (Zeo v):=by
 by_cases hn:v=.nul
 ·subst hn;exact Zc6 d row ep O "row.names" (by simp)
 ·obtain ⟨k',us,a,hk',e⟩:=Zbq O hn;rw [Zf,e,Zun _ row k its at' ep _ _ _ O.nul.1 hk',Zf,←e];have hi:∀ts,Zd (d+12) "integer" [.list ts] (SG row k its at' ep)=.ok (.vec "integer" ts .none,.ownIo) (SG row k its at' ep):=fun ts=>by rw [Zf];exact Zjv _ _ ts
  cases v with
  |chr us'=>
   obtain ⟨ep',e'⟩:=Zbe (d+10) row ep O "row.names" "character" us' .none;refine Zag O.nd ⟨ep',?_⟩;rw [show (Vl.chr us').t=.vec "character" us' .none from rfl,Zn0 _ row k its at' _ ep ep' us' .none e'];rfl
  |int l=>
   obtain ⟨ep',e'⟩:=Zbe (d+10) row ep O "row.names" "integer" (rowI l) .none;refine Zag O.nd ⟨ep',?_⟩;rw [show (Vl.int l).t=.vec "integer" (l.map optT) .none from rfl,Zny _ row k its at' _ ep ep' l .none (fun i hi=>by rw [Zf];exact Zn2 _ _ i hi) hi (fun a b ha hb hab=>by
    rw [Zf];exact Zrt _ _ a b ha hb hab) (fun x hx=>by have:=hv.2 x hx;omega) e']
   rfl
  |dbl l=>
   obtain ⟨ep',e'⟩:=Zbe (d+10) row ep O "row.names" "integer" (l.map fun _=>.none) .none;refine Zag O.nd ⟨ep',?_⟩;rw [show (Vl.dbl l).t=.vec "double" (l.map Z5) .none from rfl,Znz _ row k its at' _ ep ep' l .none hi e'];rfl
  |lgl l=>
   show _=_;rw [show (Vl.lgl l).t=.vec "logical" (l.map optT) .none from rfl,Zh2 _ row k its at' ep _ (.inl rfl) _ _];rfl
  |lst ps h=>
   show _=_;rw [show (Vl.lst ps h).t=.vec "list" (ps.map optV) (Zx h) from rfl,Zh2 _ row k its at' ep _ (.inr rfl) _ _];rfl
  |nul=>exact absurd rfl hn
end
theorem Zjt (ds:List Int):Zal (ds.map .int)=ds:=by
 unfold Zal;rw [List.map_map];exact List.map_id _
theorem Zs6 (d:Nat)(σ:Sg):Dn (Zd (d+13)) σ:=by
 refine ⟨?_,?_,fun us a=>?_,?_,fun us a=>?_,fun e i=>?_,fun us e i hi hu=>?_⟩
 ·rw [Zf];exact Zox _ σ
 ·rw [Zf];exact Zqk _ σ
 ·rw [Zf];exact Zjc _ σ us a
 ·rw [Zf];exact Zm4 _ σ
 ·rw [Zf];exact Zhu _ σ _ us a
 ·rw [Zf];exact Zoi _ σ e i
 ·rw [Zf];exact Zoj _ σ us .none e i hi (Zq7 d σ us hu) (by rw [Zf];exact Zg0 _ σ us)
section
variable (d:Nat)(row:Option (List Int)){k:Str}{n:Nat}{its:List T}{at':At0}(ep:Nat)(O:Ok k n its at')
include O
theorem Zta (v:Vl)(hv:v.ok):PRes (Zd (d+15) "set_attr" [.self,.str "dimnames",v.t] (SG row k its at' ep)) row k its at' ep (Za6 (lkA at') v):=by
 by_cases hn:v=.nul
 ·subst hn;exact Zc6 (d+1) row ep O "dimnames" (by simp)
 ·obtain ⟨k',us,a,hk',e⟩:=Zbq O hn;rw [Zf,e,Zuu _ row k its at' ep _ _ _ O.nul.1 hk',Zf,←e];have hd:=Zdc (d+11) row ep O
  have he:Za6 (lkA at') v=match dimL (lkA at') with
   |none=>.inl "'dimnames' applied to non-array"
   |some ds=>match v with
    |.lst ps h=>if ps.length=0 then .inr [("dimnames",none)] else if ds.length < ps.length then .inl (msgQ ps.length ds.length) else
     (match dnS ps (Zal ds) 0 [] with
     |.inl m=>.inl m
     |.inr acc=>if (h.isSome||acc.any isV)=true then .inr [("dimnames",some (.vec "list" acc (Zx (padH h ds.length))))] else .inr [("dimnames",none)])
    |_=>.inl "'dimnames' must be a list":=by
   cases v<;>first | exact absurd rfl hn | rfl
  rw [he];rcases O.dim with hdim | ⟨DS,b1,b2,hdim⟩
  ·have hdl:dimL (lkA at')=none:=by unfold dimL;rw [hdim]
   rw [hdl] at hd ⊢;show _=_;rw [Ztb _ row k its at' ep _ hd];rfl
  ·have hdl:dimL (lkA at')=some (DS.map .int):=by unfold dimL;rw [hdim]
   rw [hdl] at hd ⊢;dsimp only
   cases v with
   |lst ps h=>
    dsimp only;obtain ⟨v1,v2,v3⟩:=hv;rw [show (Vl.lst ps h).t=.vec "list" (ps.map optV) (Zx h) from rfl]
    by_cases h0:ps.length=0
    ·rw [if_pos h0];rw [List.length_eq_zero_iff] at h0;subst h0;obtain ⟨ep',e'⟩:=Zc7 (d+12) row ep O "dimnames";refine Zcs O.nd ⟨ep',?_⟩;rw [show ([]:List (Option (List T))).map optV=[] from rfl,Zte _ row k its at' _ ep ep' (DS.map .int) _ hd e'];rfl
    ·rw [if_neg h0]
     by_cases hl:(DS.map T.int).length < ps.length
     ·rw [if_pos hl];show _=_;have q:=Ztc (Zd (d+13)) row k its at' ep (DS.map .int) (ps.map optV) (Zx h) hd (by simpa using hl) (by simp;omega);rw [q,List.length_map];rfl
     ·rw [if_neg hl,Zjt];have hl':ps.length≤DS.length:=by simpa using hl
      have hne:ps≠[]:=fun q=>h0 (by rw [q];rfl)
      have W:=Zs6 d (SG row k its at' ep);have hlab:∀us,some us∈ps→∀u∈us,labT u:=fun us hu=>(v2 us hu).2
      cases hdn:dnS ps DS 0 [] with
      |inl m=>
       show _=_;rw [Zs9 row k its at' ep W ps h DS m hlab (by omega) hd hl' hne hdn];rfl
      |inr acc=>
       dsimp only;have hg:Zd (d+13) "get_attr" [.vec "list" (ps.map optV) (Zx h),.str "names"] (SG row k its at' ep)=.ok (Zj1 h,.val) (SG row k its at' ep):=by
        rw [Zf]
        cases h with
        |none=>exact Zc0 _ _ _ _ _
        |some hs=>exact Zr4 _ _ _ _ _ _
       have hc:∀ts,Zd (d+13) "character" [.list ts] (SG row k its at' ep)=.ok (.vec "character" ts .none,.ownIo) (SG row k its at' ep):=fun ts=>by rw [Zf];exact Zg0 _ _ ts
       have hh:∀hs,h=some hs→hs.length≤DS.length:=fun hs e=>by have:=(v3 hs e).1;omega
       rw [List.length_map]
       by_cases hs:(h.isSome||acc.any isV)=true
       ·rw [if_pos hs];obtain ⟨ep',e'⟩:=Zbe (d+11) row ep O "dimnames" "list" acc (Zx (padH h DS.length));refine Zag O.nd ⟨ep',?_⟩;rw [Zko row k its at' ep W ps h DS acc hlab (by omega) hd hl' hne hdn hh hg hc _ ep' (by rw [if_pos hs];exact e')];rfl
       ·rw [if_neg hs];obtain ⟨ep',e'⟩:=Zc7 (d+12) row ep O "dimnames";refine Zcs O.nd ⟨ep',?_⟩;rw [Zko row k its at' ep W ps h DS acc hlab (by omega) hd hl' hne hdn hh hg hc _ ep' (by rw [if_neg hs];exact e')];rfl
   |nul=>exact absurd rfl hn
   |_=>
    show _=_;unfold Vl.t;dsimp only;rw [Ztd _ row k its at' ep _ _ _ _ (by decide +kernel) hd];rfl
def eff (lk:Lk)(k:Str)(n:Nat)(name:Str)(v:Vl):Eff:=
 if name="names" then Q2 lk n v else if name="dim" then Zb7 n v else if name="dimnames" then Za6 lk v else if name="class" then Zer k v else if name="levels" then Zeq v else if name="row.names" then Zeo v else Zc5 v
theorem Zm7 (name:Str)(hname:name∈(["names","dim","dimnames","class","levels","row.names","unit"]:List Str))(v:Vl)(hv:v.ok):PRes (Zd (d+15) "set_attr" [.self,.str name,v.t] (SG row k its at' ep)) row k its at' ep (eff (lkA at') k n name v):=by
 simp only [List.mem_cons,List.not_mem_nil,or_false] at hname;rcases hname with rfl | rfl | rfl | rfl | rfl | rfl | rfl
 ·exact Zo8 (d+1) row ep O v hv
 ·exact Ztf (d+1) row ep O v hv
 ·exact Zta d row ep O v hv
 ·exact Ztv (d+1) row ep O v hv
 ·exact Zqi (d+1) row ep O v hv
 ·exact Znv (d+1) row ep O v hv
 ·exact Zl6 (d+1) row ep O v
end
def vw0:T→T
 |.null=>.str "NULL"
 |.vec k its _=>.tup [.str k,.list its,.dict []]
 |t=>t
def vwA:T→List (Str×T)
 |.dict es=>es.map fun p=>(p.1,vw0 p.2)
 |_=>[]
def vw:T→T
 |.null=>.str "NULL"
 |.vec k its a=>.tup [.str k,.list (if k="list" then its.map vw0 else its),.dict (vwA a)]
 |t=>t
theorem Zkn {es:List (Str×T)}{k:Str}{t:T}(h:k∉es.map (·.1)):dput es k t=es++[(k,t)]:=by
 induction es with
 |nil=>rfl
 |cons p es ih=>
  obtain ⟨k',t'⟩:=p;simp only [List.map_cons,List.mem_cons,not_or] at h;unfold dput;rw [if_neg (fun e=>h.1 e.symm),ih h.2];rfl
theorem Ze8 {f:T→M Bool}{k g:T→M (T×Kd)}{σ:Sg}(h:Str×T→T):∀(es:List (Str×T)) (acc:List (Str×T)),((acc++es).map (·.1)).Nodup→(∀p∈es,f (.str p.1) σ=.ok true σ)→(∀p∈es,∃kd,k (.str p.1) σ=.ok (.str p.1,kd) σ)→(∀p∈es,∃kd,kd≠Kd.h∧g (.str p.1) σ=.ok (h p,kd) σ)→
  Qx f k g acc (es.map fun p=>.str p.1) σ=.ok (acc++es.map fun p=>(p.1,h p)) σ
 |[],acc,_,_,_,_=>by
  rw [List.map_nil,List.map_nil,List.append_nil];rfl
 |p::r,acc,hn,h1,h2,h3=>by
  obtain ⟨kd2,e2⟩:=h2 p (by simp);obtain ⟨kd3,hk3,e3⟩:=h3 p (by simp);have hnew:p.1∉acc.map (·.1):=by
   rw [List.map_append,List.nodup_append] at hn;intro hm;exact hn.2.2 _ hm p.1 (by simp) rfl
  have ih:=Ze8 h r (acc++[(p.1,h p)]) (by simpa using hn) (fun q hq=>h1 q (by simp [hq])) (fun q hq=>h2 q (by simp [hq])) (fun q hq=>h3 q (by simp [hq]))
  show (f (.str p.1)>>=fun b=>if b=true then k (.str p.1)>>=fun x=>match x with
   |(.str x,_)=>g (.str p.1)>>=fun b=>solid b>>=fun b=>Qx f k g (dput acc x b.1) (r.map fun p=>.str p.1)
   |_=>stuck else Qx f k g acc (r.map fun p=>.str p.1)) σ=_
  rw [Zh (h1 p (by simp)),if_pos rfl,Zh e2];dsimp only;rw [Zh e3];have e4:solid (h p,kd3) σ=.ok (h p,kd3) σ:=by unfold solid;rw [if_neg hk3];rfl
  rw [Zh e4,Zkn hnew,ih];simp
theorem Zoa {α:Type}{f:T→M α}{t:T}{row:Option (List Int)}{v:SelfSt}{r:α}(h:f t ⟨row,some { v with ep:=0 }⟩=.ok r ⟨row,some { v with ep:=0 }⟩):quiet .h f t ⟨row,some v⟩=.ok r ⟨row,some v⟩:=by
 unfold quiet Zby still;rw [if_pos rfl];show (match (match f t ⟨row,some { v with ep:=0 }⟩ with | .ok a s'=>_ | _=>_:Res α) with | .exn _ _=>_ | r=>r)=_;rw [h];rfl
theorem Jt {es:List (Str×T)}(hn:(es.map (·.1)).Nodup){p:Str×T}(hp:p∈es):es.lookup p.1=some p.2:=by
 induction es with
 |nil=>exact absurd hp List.not_mem_nil
 |cons q es ih=>
  obtain ⟨k,t⟩:=q;rw [List.map_cons,List.nodup_cons] at hn;rw [List.lookup_cons];rcases List.mem_cons.mp hp with rfl | hm
  ·simp
  ·have:(p.1 == k)=false:=by
    rw [beq_eq_false_iff_ne];intro e;exact hn.1 (e▸List.mem_map_of_mem (f:=(·.1)) hm)
   rw [this];exact ih hn.2 hm
theorem Qw {es:List (Str×T)}{x:Str}{t:T}{σ:Sg}(h:es.lookup x=some t):Ju (.dict es) (.str x) σ=.ok (t,.val) σ:=by
 show (match es.lookup x with | some t=>(Res.ok (t,Kd.val) σ:Res (T×Kd)) | none=>.stuck)=_;rw [h]
section
variable (G:Calls)(σ:Sg)
theorem Zlr:Ze G "_law_view" [.null] σ=.ok (.str "NULL",.val) σ:=by kernel_rfl
theorem Ze7 (ts:List T):Ze G "_law_view" [.vec "character" ts .none] σ=.ok (.tup [.str "character",.list ts,.dict []],.val) σ:=by kernel_rfl
theorem Zhi (ts:List T):Ze G "_law_view" [.vec "integer" ts .none] σ=.ok (.tup [.str "integer",.list ts,.dict []],.val) σ:=by kernel_rfl
theorem Zhj (ts:List T):Ze G "_law_view" [.vec "double" ts .none] σ=.ok (.tup [.str "double",.list ts,.dict []],.val) σ:=by kernel_rfl
theorem Zhh (ts:List T):Ze G "_law_view" [.vec "logical" ts .none] σ=.ok (.tup [.str "logical",.list ts,.dict []],.val) σ:=by kernel_rfl
theorem Zls (ts:List T)(h:Option (List T))(hp:∀t∈ts,G "_law_view" [t] σ=.ok (vw0 t,.val) σ)(hh:∀hs,h=some hs→G "_law_view" [.vec "character" hs .none] σ=.ok (vw0 (.vec "character" hs .none),.val) σ):
  Ze G "_law_view" [.vec "list" ts (Zx h)] σ=.ok (vw (.vec "list" ts (Zx h)),.val) σ:=by
 cases h with
 |none=>
  conv=>lhs;whnf
  rw [Qz vw0]
  ·rfl
  ·intro t ht;rfl
  ·intro t ht;refine ⟨.val,by simp,?_⟩;refine Qi ?_;refine evalE_c.trans ?_
   conv=>lhs;whnf
   rw [hp t ht];rfl
 |some hs=>
  have e:=hh hs rfl
  conv=>lhs;whnf
  refine Zb _ (Ze8 (fun p=>vw0 p.2) [("names",.vec "character" hs .none)] [] (by simp) ?_ ?_ ?_) ?_
  ·intro p hp;rfl
  ·intro p hp;rw [List.mem_singleton] at hp;subst hp;exact ⟨.val,rfl⟩
  ·intro p hp;rw [List.mem_singleton] at hp;subst hp;refine ⟨.val,by simp,?_⟩;refine Qi ?_;refine evalE_c.trans ?_
   conv=>lhs;whnf
   exact Zb _ e rfl
  conv=>lhs;whnf
  rw [Qz vw0]
  ·rfl
  ·intro t ht;rfl
  ·intro t ht;refine ⟨.val,by simp,?_⟩;refine Qi ?_;refine evalE_c.trans ?_
   conv=>lhs;whnf
   rw [hp t ht];rfl
def Znr (k:Str)(its:List T):List T:=if k="list" then its.map vw0 else its
theorem Zlq (row)(k:Str)(its:List T)(at':At0)(ep:Nat)(hk:k∈(["integer","double","character","logical","list"]:List Str))(hnd:((at'.getD []).map (·.1)).Nodup)(hi:k="list"→∀t∈its,G "_law_view" [t] (SG row k its at' ep)=.ok (vw0 t,.val) (SG row k its at' ep))(hp:∀p∈at'.getD [],G "_law_view" [p.2] (SG row k its at' 0)=.ok (vw p.2,.val) (SG row k its at' 0)):
  Ze G "_law_view" [.self] (SG row k its at' ep)=.ok (.tup [.str k,.list (Znr k its),.dict ((at'.getD []).map fun p=>(p.1,vw p.2))],.val) (SG row k its at' ep):=by
 simp only [List.mem_cons,List.not_mem_nil,or_false] at hk
 cases at' with
 |none=>
  rcases hk with rfl | rfl | rfl | rfl | rfl
  ·kernel_rfl
  ·kernel_rfl
  ·kernel_rfl
  ·kernel_rfl
  ·conv=>lhs;whnf
   rw [Qz vw0]
   ·rfl
   ·intro t ht;rfl
   ·intro t ht;refine ⟨.val,by simp,?_⟩;refine Qi ?_;refine evalE_c.trans ?_
    conv=>lhs;whnf
    rw [hi rfl t ht];rfl
 |some es=>
  have hlk:∀p∈es,es.lookup p.1=some p.2:=fun p hp=>Jt hnd hp
  rcases hk with rfl | rfl | rfl | rfl | rfl
  all_goals (
   conv=>lhs;whnf
   refine Zb _ (Ze8 (fun p=>vw p.2) es [] (by simpa using hnd) ?_ ?_ ?_) ?_
   ·intro p hp;rfl
   ·intro p hp;exact ⟨.val,rfl⟩
   ·intro p hpp;refine ⟨.val,by simp,?_⟩;refine Zoa ?_;refine evalE_c.trans ?_
    conv=>lhs;whnf
    refine Zb (p.2,Kd.val) (σ':=SG row _ its (some es) 0) (Qw (hlk p hpp)) ?_
    conv=>lhs;whnf
    exact Zb _ (hp p hpp) rfl)
  iterate 4 (
   conv=>lhs;whnf
   rfl)
  conv=>lhs;whnf
  rw [Qz vw0]
  ·rfl
  ·intro t ht;rfl
  ·intro t ht;refine ⟨.val,by simp,?_⟩;refine Qi ?_;refine evalE_c.trans ?_
   conv=>lhs;whnf
   rw [hi rfl t ht];rfl
end
def msgW:Str:="invalid type (list) to set 'names' attribute"
def lwK1 (G:Calls):Out→Lv→M (T×Kd):=fun o L'=>match o with
 |.next=>cSs G ((Zs "_law_words").drop 1) L' (fun o _=>outT o)
 |o=>outT o
def lwK2 (G:Calls):Out→Lv→M (T×Kd):=fun o L'=>match o with
 |.next=>cSs G ((Ji ((Zs "_law_words")[0]?)).drop 2) L' (lwK1 G)
 |o=>lwK1 G o L'
def lwK3 (G:Calls):Out→Lv→M (T×Kd):=fun o L'=>match o with
 |.next=>cSs G ((Zs "_law_words").drop 3) L' (fun o _=>outT o)
 |o=>outT o
def Zpq:Option Stmt:=(Ji ((Zs "_law_words")[0]?))[1]?
def oneT (p:Option (List T)):Option T:=match p with
 |some [u]=>some u
 |_=>none
def Zeg:T→T
 |.vec _ (u::_) _=>u
 |_=>.none
def Qr:Option (List T)→Bool
 |some [_]=>true
 |_=>false
theorem Ze6:∀(ps:List (Option (List T))) (acc:List T),Qk ps acc=if ps.all Qr=true then some (acc++(ps.map optV).map Zeg) else none
 |[],acc=>by simp [Qk]
 |none::r,acc=>by simp [Qk,Qr]
 |some []::r,acc=>by simp [Qk,Qr]
 |some [u]::r,acc=>by
  rw [show Qk (some [u]::r) acc=Qk r (acc++[u]) from rfl,Ze6 r];rw [List.all_cons,show Qr (some [u])=true from rfl,Bool.true_and];simp [optV,Zeg]
 |some (u::u2::us)::r,acc=>by simp [Qk,Qr]
theorem Zga (s:Nat):Int.fdiv (2 * (s:Int)+1) 2=s:=by
 rw [Int.fdiv_eq_ediv_of_nonneg _ (by omega)];omega
section
variable (G:Calls)(σ:Sg)
theorem Zi0 (its:List T)(a:T)(ps0:List (Option (List T)))(hits:its=ps0.map optV)(h0:ps0.all Qr=true→∀p∈ps0,Qr p=true):∀(ps:List (Option (List T))) (L:Lv),(ps0.all Qr=ps.all Qr)→
  ((L={ loc:=[("value",.vec "list" its a),("what",.str "names")],own:=[],mv:=mvOf "_law_words",hot:=false })∨∃t0,L={ loc:=[("value",.vec "list" its a),("what",.str "names"),("item",t0)],own:=[],mv:=mvOf "_law_words",hot:=false })→
  cFor "item" (fun L k=>cSs G (Zm Zpq) L k) (ps.map optV) L (lwK2 G) σ=match (if ps.all Qr=true then some (its.map Zeg) else none:Option (List T)) with
   |some ws=>.ok (.list ws,.own) σ
   |none=>.ok (.str msgW,.val) σ
 |[],L,he,hL=>by
  have hall:∀p∈ps0,Qr p=true:=h0 (by rw [he];rfl);rw [if_pos (show ([]:List (Option (List T))).all Qr=true from rfl)];show lwK2 G .next L σ=_;rcases hL with rfl | ⟨t0,rfl⟩
  all_goals (
   conv=>lhs;whnf
   rw [Qz Zeg]
   ·rfl
   ·intro t ht;rfl
   ·intro t ht;rw [hits] at ht;obtain ⟨p,hp,rfl⟩:=List.mem_map.mp ht;have hq:=hall p hp;rcases p with _ | _ | ⟨u,_ | ⟨u2,us⟩⟩<;>first | cases hq | skip
    exact ⟨.val,by simp,by kernel_rfl⟩)
 |p::r,L,he,hL=>by
  rcases p with _ | _ | ⟨u,_ | ⟨u2,us⟩⟩
  ·rw [if_neg (by simp [Qr])];rcases hL with rfl | ⟨t0,rfl⟩<;>kernel_rfl
  ·rw [if_neg (by simp [Qr])];rcases hL with rfl | ⟨t0,rfl⟩<;>kernel_rfl
  ·have ih:=Zi0 its a ps0 hits h0 r _ (by rw [he,List.all_cons];rfl) (.inr ⟨.vec "character" [u] .none,rfl⟩);rw [show (some [u]::r).all Qr=r.all Qr from by rw [List.all_cons];rfl,←ih];rcases hL with rfl | ⟨t0,rfl⟩<;>rfl
  ·rw [if_neg (by simp [Qr])];rcases hL with rfl | ⟨t0,rfl⟩<;>kernel_rfl
theorem Zqs (ps:List (Option (List T)))(a:T):Ze G "_law_words" [.vec "list" (ps.map optV) a,.str "names"] σ=match Qk ps [] with
   |some ws=>.ok (.list ws,.own) σ
   |none=>.ok (.str msgW,.val) σ:=by
 rw [Ze6,List.nil_append,←Zi0 G σ (ps.map optV) a ps rfl (fun h p hp=>List.all_eq_true.mp h p hp) ps _ rfl (.inl rfl)];kernel_rfl
def IT (k':Str)(h:T→T)(t:T):Prop:=
 (k'="character"∧h t=t∧labT t)∨(t=.none∧h t=.none)∨(k'="logical"∧(t=.int 0∨t=.int 1)∧h t=hL t)∨(k'="integer"∧(∃i:Int,Zj i=true∧t=.int i)∧h t=hI t)∨(k'="double"∧(∃s:Nat,s < 9∧t=Z5 s)∧h t=hD t)
theorem Ziz (k':Str)(hk:k'∈(["character","integer","double","logical"]:List Str))(its:List T)(a:T)(h:T→T):∀(l acc:List T) (L:Lv),(∀t∈l,IT k' h t)→acc.length+l.length < 1000→
  ((L={ loc:=[("value",.vec k' its a),("what",.str "names")],own:=[("found",.list acc,.own)],mv:=mvOf "_law_words",hot:=false })∨∃t0,L={ loc:=[("value",.vec k' its a),("what",.str "names"),("item",t0)],own:=[("found",.list acc,.own)],mv:=mvOf "_law_words",hot:=false })→
  cFor "item" (fun L k=>cSs G (Zm ((Zs "_law_words")[2]?)) L k) l L (lwK3 G) σ=.ok (.list (acc++l.map h),.own) σ
 |[],acc,L,_,_,hL=>by
  rw [List.map_nil,List.append_nil];show lwK3 G .next L σ=_;rcases hL with rfl | ⟨t0,rfl⟩<;>rfl
 |t::r,acc,L,hi,hl,hL=>by
  have hac:acc.length < 2000:=by simp at hl;omega
  have ih:=Ziz k' hk its a h r (acc++[h t]) _ (fun t ht=>hi t (by simp [ht])) (by simp at hl ⊢;omega) (.inr ⟨t,rfl⟩);rw [show acc++(t::r).map h=(acc++[h t])++r.map h by simp,←ih];simp only [List.mem_cons,List.not_mem_nil,or_false] at hk;rcases hi t (by simp) with ⟨rfl,e,hlab⟩ | ⟨rfl,e⟩ | ⟨rfl,h01,e⟩ | ⟨rfl,⟨i,his,rfl⟩,e⟩ | ⟨rfl,⟨s,hs,rfl⟩,e⟩
  ·rw [e];rcases hlab with rfl | ⟨x,rfl,_⟩
   ·rcases hL with rfl | ⟨t0,rfl⟩
    all_goals (
     conv=>lhs;whnf
     rw [Z4 hac];kernel_rfl)
   ·rcases hL with rfl | ⟨t0,rfl⟩
    all_goals (
     conv=>lhs;whnf
     rw [Z4 hac];kernel_rfl)
  ·rw [e];rcases hL with rfl | ⟨t0,rfl⟩
   all_goals (
    conv=>lhs;whnf
    rw [Z4 hac];kernel_rfl)
  ·rw [e];rcases h01 with rfl | rfl
   ·rcases hL with rfl | ⟨t0,rfl⟩
    all_goals (
     conv=>lhs;whnf
     rw [Z4 hac];kernel_rfl)
   ·rcases hL with rfl | ⟨t0,rfl⟩
    all_goals (
     conv=>lhs;whnf
     rw [Z4 hac];kernel_rfl)
  ·rw [e];rcases hL with rfl | ⟨t0,rfl⟩
   all_goals (
    conv=>lhs;whnf
    refine Zb (T.str (Zg i),Kd.val) (σ':=σ) (str_int G σ i _ his) ?_
    conv=>lhs;whnf
    rw [Z4 hac];kernel_rfl)
  ·rw [e];have hq:=Zga s;have hsm:Zj (Int.fdiv (2 * (s:Int)+1) 2)=true:=by rw [hq];exact Jl (by omega)
   have hln:(Zg (Int.fdiv (2 * (s:Int)+1) 2)).length+(".5":Str).length≤Zc:=by
    have:=Q1 (i:=Int.fdiv (2 * (s:Int)+1) 2) (by rw [hq];omega) (by rw [hq];omega);have h5:(".5":Str).length=2:=by decide +kernel
    unfold Zc;omega
   rcases hL with rfl | ⟨t0,rfl⟩
   all_goals (
    conv=>lhs;whnf
    refine Zb (T.str (Zg (Int.fdiv (2 * (s:Int)+1) 2)),Kd.val) (σ':=σ) (str_int G σ _ _ hsm) ?_
    conv=>lhs;whnf
    rw [Zdo hln]
    conv=>lhs;whnf
    rw [Z4 hac];kernel_rfl)
theorem Zea (k':Str)(hk:k'∈(["character","integer","double","logical"]:List Str))(its:List T)(a:T)(h:T→T)(hi:∀t∈its,IT k' h t)(hl:its.length < 1000):Ze G "_law_words" [.vec k' its a,.str "names"] σ=.ok (.list (its.map h),.own) σ:=by
 rw [←List.nil_append (its.map h),←Ziz G σ k' hk its a h its [] _ hi (by simpa using hl) (.inl rfl)];simp only [List.mem_cons,List.not_mem_nil,or_false] at hk;rcases hk with rfl | rfl | rfl | rfl<;>rfl
end
section
variable (d:Nat)(σ:Sg)
theorem Zqt (v:Vl)(hv:v.ok)(hn:v≠.nul):Zd (d+1) "_law_words" [v.t,.str "names"] σ=match Jb v with
   |some ws=>.ok (.list ws,.own) σ
   |none=>.ok (.str msgW,.val) σ:=by
 rw [Zf]
 cases v with
 |chr us=>
  have e:=Zea (Zd d) σ "character" (by simp) us .none id (fun t ht=>.inl ⟨rfl,rfl,hv.2 t ht⟩) (by have:=hv.1;omega);rw [List.map_id] at e;exact e
 |int l=>
  refine Zea (Zd d) σ "integer" (by simp) (l.map optT) .none hI (fun t ht=>?_) (by have:=hv.1;simp;omega);obtain ⟨o,ho,rfl⟩:=List.mem_map.mp ht
  cases o with
  |none=>exact .inr (.inl ⟨rfl,rfl⟩)
  |some i=>exact .inr (.inr (.inr (.inl ⟨rfl,⟨i,dT (by have:=hv.2 i ho;omega),rfl⟩,rfl⟩)))
 |lgl l=>
  refine Zea (Zd d) σ "logical" (by simp) (l.map optT) .none hL (fun t ht=>?_) (by have:=hv.1;simp;omega);obtain ⟨o,ho,rfl⟩:=List.mem_map.mp ht
  cases o with
  |none=>exact .inr (.inl ⟨rfl,rfl⟩)
  |some i=>exact .inr (.inr (.inl ⟨rfl,by rcases hv.2 i ho with rfl | rfl;exact .inl rfl;exact .inr rfl,rfl⟩))
 |dbl l=>
  refine Zea (Zd d) σ "double" (by simp) (l.map Z5) .none hD (fun t ht=>?_) (by have:=hv.2.1;simp;omega);obtain ⟨s,hs,rfl⟩:=List.mem_map.mp ht;exact .inr (.inr (.inr (.inr ⟨rfl,⟨s,by have:=hv.2.2 s hs;omega,rfl⟩,rfl⟩)))
 |lst ps h=>exact Zqs (Zd d) σ ps _
 |nul=>exact absurd rfl hn
end
def ldK (G:Calls):Out→Lv→M (T×Kd):=fun o L'=>match o with
 |.next=>cSs G ((Zs "_law_dims").drop 4) L' (fun o _=>outT o)
 |o=>outT o
section
variable (G:Calls)(σ:Sg)
theorem Zf1 (k':Str)(its:List T)(a:T)(hk:k'="integer"∨k'="logical"):∀(l:List (Option Int)) (acc:List Int) (L:Lv),acc.length+l.length < 1000→
  ((L={ loc:=[("value",.vec k' its a)],own:=[("sides",.list (acc.map .int),.own)],mv:=mvOf "_law_dims",hot:=false })∨∃t0,L={ loc:=[("value",.vec k' its a),("item",t0)],own:=[("sides",.list (acc.map .int),.own)],mv:=mvOf "_law_dims",hot:=false })→
  cFor "item" (fun L k=>cSs G (Zm ((Zs "_law_dims")[3]?)) L k) (l.map optT) L (ldK G) σ=match J8 l acc with
   |.inl m=>.ok (.str m,.val) σ
   |.inr ds=>.ok (.list (ds.map .int),.own) σ
 |[],acc,L,_,hL=>by
  rcases hL with rfl | ⟨t0,rfl⟩<;>rfl
 |none::r,acc,L,_,hL=>by
  rcases hk with rfl | rfl<;>rcases hL with rfl | ⟨t0,rfl⟩<;>kernel_rfl
 |some i::r,acc,L,hl,hL=>by
  have hl':(acc.map T.int).length < 2000:=by simp at hl ⊢;omega
  unfold J8
  by_cases hi:i < 0
  ·rw [if_pos hi];rcases hk with rfl | rfl<;>rcases hL with rfl | ⟨t0,rfl⟩
   all_goals (
    conv=>lhs;whnf
    rw [show decide (i < 0)=true from dT hi];kernel_rfl)
  ·rw [if_neg hi];have ih:=Zf1 k' its a hk r (acc++[i]) _ (by simp at hl ⊢;omega) (.inr ⟨.int i,rfl⟩);rw [List.map_append] at ih;rw [←ih];rcases hk with rfl | rfl<;>rcases hL with rfl | ⟨t0,rfl⟩
   all_goals (
    conv=>lhs;whnf
    rw [show decide (i < 0)=false from dF hi]
    conv=>lhs;whnf
    rw [Z4 hl'];kernel_rfl)
theorem Zjg (its:List T)(a:T):∀(l:List Nat) (acc:List Int) (L:Lv),acc.length+l.length < 1000→
  ((L={ loc:=[("value",.vec "double" its a)],own:=[("sides",.list (acc.map .int),.own)],mv:=mvOf "_law_dims",hot:=false })∨∃t0,L={ loc:=[("value",.vec "double" its a),("item",t0)],own:=[("sides",.list (acc.map .int),.own)],mv:=mvOf "_law_dims",hot:=false })→
  cFor "item" (fun L k=>cSs G (Zm ((Zs "_law_dims")[3]?)) L k) (l.map Z5) L (ldK G) σ=.ok (.list ((acc++l.map fun (s:Nat)=>(s:Int)).map .int),.own) σ
 |[],acc,L,_,hL=>by
  rw [List.map_nil,List.map_nil,List.append_nil];rcases hL with rfl | ⟨t0,rfl⟩<;>rfl
 |s::r,acc,L,hl,hL=>by
  have hl':(acc.map T.int).length < 2000:=by simp at hl ⊢;omega
  have ih:=Zjg its a r (acc++[(s:Int)]) _ (by simp at hl ⊢;omega) (.inr ⟨.int s,rfl⟩);rw [show acc++(s::r).map (fun (s:Nat)=>(s:Int))=(acc++[(s:Int)])++r.map fun (s:Nat)=>(s:Int) by simp,←ih,List.map_append];rcases hL with rfl | ⟨t0,rfl⟩
  all_goals (
   conv=>lhs;whnf
   try rw [show decide (Int.fdiv (2 * (s:Int)+1) 2 < 0)=false from dF (by rw [Zga];omega)]
   try (conv=>lhs;whnf)
   rw [Z4 hl',Zga];kernel_rfl)
theorem Zq0 (v:Vl)(hv:v.ok)(hn:v≠.nul):Ze G "_law_dims" [v.t] σ=match Jk v with
  |.inl m=>.ok (.str m,.val) σ
  |.inr ds=>.ok (.list (ds.map .int),.own) σ:=by
 cases v with
 |int l=>
  show _=match (if l.length=0 then _ else _:Str ⊕ List Int) with | .inl m=>_ | .inr ds=>_
  by_cases hl:l.length=0
  ·rw [if_pos hl];rw [List.length_eq_zero_iff] at hl;subst hl;kernel_rfl
  ·rw [if_neg hl,←Zf1 G σ "integer" (l.map optT) .none (.inl rfl) l [] _ (by have:=hv.1;simp;omega) (.inl rfl)]
   cases l with
   |nil=>exact absurd rfl hl
   |cons o l=>rfl
 |lgl l=>
  show _=match (if l.length=0 then _ else _:Str ⊕ List Int) with | .inl m=>_ | .inr ds=>_
  by_cases hl:l.length=0
  ·rw [if_pos hl];rw [List.length_eq_zero_iff] at hl;subst hl;kernel_rfl
  ·rw [if_neg hl,←Zf1 G σ "logical" (l.map optT) .none (.inr rfl) l [] _ (by have:=hv.1;simp;omega) (.inl rfl)]
   cases l with
   |nil=>exact absurd rfl hl
   |cons o l=>rfl
 |dbl l=>
  show _=Res.ok (T.list ((l.map fun (s:Nat)=>(s:Int)).map .int),Kd.own) σ;rw [←List.nil_append (l.map fun (s:Nat)=>(s:Int)),←Zjg G σ (l.map Z5) .none l [] _ (by have:=hv.2.1;simp;omega) (.inl rfl)]
  cases l with
  |nil=>exact absurd rfl hv.1
  |cons o l=>rfl
 |chr us=>kernel_rfl
 |lst ps h=>kernel_rfl
 |nul=>exact absurd rfl hn
end
theorem Qy {x y:Str}{σ:Sg}(h:x.length+y.length≤Zc):Zl (binT .Add (.str x) (.str y)) σ=.ok (.str (x++y),.val) σ:=by
 rw [Zdo h];rfl
theorem Zd5:("'names' attribute [":Str).length=19:=by decide +kernel
theorem Zfs:("] must be the same length as the vector [":Str).length=41:=by decide +kernel
theorem Zs4 (es:List (Str×T))(x:Str)(t u:T):dput (dput es x t) x u=dput es x u:=by
 induction es with
 |nil=>
  show dput [(x,t)] x u=[(x,u)];unfold dput;rw [if_pos rfl]
 |cons p es ih=>
  obtain ⟨y,w⟩:=p;show dput (if y=x then (y,t)::es else (y,w)::dput es x t) x u=if y=x then (y,u)::es else (y,w)::dput es x u
  by_cases h:y=x
  ·rw [if_pos h,if_pos h];show (if y=x then (y,u)::es else _)=_;rw [if_pos h]
  ·rw [if_neg h,if_neg h];show (if y=x then _ else (y,w)::dput (dput es x t) x u)=_;rw [if_neg h,ih]
def LRes (R:Res (T×Kd))(σ:Sg)(seen:List (Str×T))(lk:Lk)(e:Eff):Prop:=match e with
 |.inl m=>R=.ok (.str m,.val) σ
 |.inr u=>∃seen2 kd,kd≠Kd.h∧R=.ok (.dict seen2,kd) σ∧(seen2.map (·.1)).Nodup∧(∀y,seen2.lookup y=(app u lk y).map vw)∧seen2.length≤seen.length+1
structure Seen (seen:List (Str×T)) (lk:Lk):Prop where
 nd:(seen.map (·.1)).Nodup
 at':∀y,seen.lookup y=(lk y).map vw
 sz:seen.length < 100
 dim:lk "dim"=none∨∃ds:List Int,ds≠[]∧ds.length≤10∧lk "dim"=some (.vec "integer" (ds.map .int) .none)
theorem Zkw (es:List (Str×T))(k:Str):(ddel es k).length≤es.length:=by
 obtain ⟨l,e,hs⟩:=Zgu es k;have:=hs.length_le;rw [←e,List.length_map,List.length_map] at this;exact this
theorem Zqe {R:Res (T×Kd)}{σ:Sg}{seen:List (Str×T)}{lk:Lk}(S:Seen seen lk){x:Str}{kd:Kd}(hk:kd≠.h)(h:R=.ok (.dict (ddel seen x),kd) σ):LRes R σ seen lk (.inr [(x,none)]):=
 ⟨_,kd,hk,h,Zev _ _ S.nd,fun y=>by rw [Zew _ _ _ S.nd,Jq,S.at'];split<;>rfl,Nat.le_succ_of_le (Zkw _ _)⟩
theorem Zfw {R:Res (T×Kd)}{σ:Sg}{seen:List (Str×T)}{lk:Lk}(S:Seen seen lk){x:Str}{t t':T}{kd:Kd}(hk:kd≠.h)(ht:vw t=t')(h:R=.ok (.dict (dput seen x t'),kd) σ):LRes R σ seen lk (.inr [(x,some t)]):=
 ⟨_,kd,hk,h,Zes _ _ _ S.nd,fun y=>by rw [Zda,Jq,S.at',←ht];split<;>rfl,Zbj _ _ _⟩
theorem Zpl {n:Int}(h0:0≤n)(h1:n≤1000):binT .Mult (.list [.none]) (.int n)=some (.list (List.replicate n.toNat .none),.own):=by
 show (if n≤(Zc:Int)∧-9223372036854775808≤n then some (T.list (List.replicate n.toNat .none),Kd.own) else none)=_;rw [if_pos ⟨h1,by omega⟩]
theorem Zja {x y:List T}(h:x.length+y.length≤1000):binT .Add (.list x) (.list y)=some (.list (x++y),.own):=by
 show (if x.length+y.length≤Zc then some (T.list (x++y),Kd.own) else none)=_;rw [if_pos (show x.length+y.length≤Zc from h)]
section
variable {G:Calls}(σ:Sg){seen:List (Str×T)}{lk:Lk}(S:Seen seen lk)(n:Nat)(hn:n≤8)
include S hn
theorem Zqw:LRes (Ze G "_law_names_set" [.dict seen,.int n,.null] σ) σ seen lk (Q2 lk n .nul):=by
 refine Zqe S (x:=Q7 lk) (kd:=.own) (by simp) ?_;unfold Q7 Jg dimL;rcases S.dim with h | ⟨ds,h1,h2,h⟩
 ·have hs:seen.lookup ("dim":Str)=none:=by rw [S.at',h];rfl
  rw [h]
  conv=>lhs;whnf
  rw [hs]
  conv=>lhs;whnf
  kernel_rfl
 ·have hs:seen.lookup ("dim":Str)=some (.tup [.str "integer",.list (ds.map .int),.dict []]):=by rw [S.at',h];rfl
  rw [h]
  conv=>lhs;whnf
  rw [hs]
  conv=>lhs;whnf
  refine Zb (T.int (ds.map T.int).length,Kd.val) (σ':=σ) ?_ ?_
  ·conv=>lhs;whnf
   refine Zb (T.list (ds.map T.int)) (σ':=σ) ?_ rfl
   conv=>lhs;whnf
   refine Zb (T.list (ds.map T.int),Kd.val) (σ':=σ) (evalE_c.trans ?_) rfl
   conv=>lhs;whnf
   exact Zb _ (Qw hs) rfl
  conv=>lhs;whnf
  by_cases h1:(ds.map T.int).length=1
  ·rw [show decide (((ds.map T.int).length:Int)=1)=true from dT (by omega),if_pos (dT h1)];kernel_rfl
  ·rw [show decide (((ds.map T.int).length:Int)=1)=false from dF (by omega),if_neg (by simpa using h1)];kernel_rfl
omit S hn
theorem Zep {v:Vl}(hv:v≠.nul):Q2 lk n v=match Jb v with
  |none=>.inl "invalid type (list) to set 'names' attribute"
  |some ws=>if n < ws.length then .inl (msgN ws.length n) else .inr [(Q7 lk,some (Zak lk (ws++List.replicate (n - ws.length) .none)))]:=by
 cases v<;>first | exact absurd rfl hv | rfl
theorem Zck {v:Vl}(hn:v≠.nul):∃(k':Str) (us:List T) (a:T),k'≠"NULL"∧v.t=.vec k' us a:=by
 cases v<;>first | exact absurd rfl hn | exact ⟨_,_,_,by decide +kernel,rfl⟩
include S hn
theorem Zqz (v:Vl)(hv:v≠.nul)(hw:Jb v=none)(h:G "_law_words" [v.t,.str "names"] σ=.ok (.str msgW,.val) σ):LRes (Ze G "_law_names_set" [.dict seen,.int n,v.t] σ) σ seen lk (Q2 lk n v):=by
 have he:Q2 lk n v=.inl msgW:=by
  rw [Zep n hv,hw];rfl
 rw [he];show _=_;obtain ⟨k',us,a,hk',e⟩:=Zck hv;rw [e] at h ⊢
 conv=>lhs;whnf
 rw [dF hk']
 conv=>lhs;whnf
 exact Zb _ h rfl
theorem Zqx (v:Vl)(hv:v.ok)(hv2:v≠.nul)(ws:List T)(hw:Jb v=some ws)(hl:n < ws.length)(h:G "_law_words" [v.t,.str "names"] σ=.ok (.list ws,.own) σ):LRes (Ze G "_law_names_set" [.dict seen,.int n,v.t] σ) σ seen lk (Q2 lk n v):=by
 have he:Q2 lk n v=.inl (msgN ws.length n):=by
  rw [Zep n hv2,hw];dsimp only;rw [if_pos hl]
 rw [he];show _=_;have hws:=Ze5 hv hw;have l1:=Q1 (i:=(ws.length:Int)) (by omega) (by omega);have l2:=Q1 (i:=(n:Int)) (by omega) (by omega);have f1:("'names' attribute [":Str).length+(Zg ws.length).length≤Zc:=by rw [Zd5];unfold Zc;omega
 have f2:("'names' attribute ["++Zg ws.length:Str).length+("] must be the same length as the vector [":Str).length≤Zc:=by rw [Str.length_append,Zd5,Zfs];unfold Zc;omega
 have f3:(("'names' attribute ["++Zg ws.length)++"] must be the same length as the vector [":Str).length+(Zg n).length≤Zc:=by rw [Str.length_append,Str.length_append,Zd5,Zfs];unfold Zc;omega
 have f4:((("'names' attribute ["++Zg ws.length)++"] must be the same length as the vector [")++Zg n:Str).length+("]":Str).length≤Zc:=by rw [Str.length_append,Str.length_append,Str.length_append,Zd5,Zfs,Zdb];unfold Zc;omega
 obtain ⟨k',us,a,hk',e⟩:=Zck hv2;rw [e] at h ⊢
 conv=>lhs;whnf
 rw [dF hk']
 conv=>lhs;whnf
 refine Zb _ h ?_
 conv=>lhs;whnf
 rw [show decide ((n:Int) < (ws.length:Int))=true from dT (by omega)]
 conv=>lhs;whnf
 refine Eq.trans (b:=(Z2 G "str" [(.int ws.length,.val)]>>=fun a=>Zl (binT .Add (.str "'names' attribute [") a.1)>>=fun b=>Zl (binT .Add b.1 (.str "] must be the same length as the vector ["))>>=fun b2=>Z2 G "str" [(.int n,.val)]>>=fun c=>Zl (binT .Add b2.1 c.1)>>=fun b3=>Zl (binT .Add b3.1 (.str "]"))>>=fun r=>solid r>>=fun r=>pure (r.1,r.2):M (T×Kd)) σ) ?_ ?_
 ·kernel_rfl
 ·rw [Zh (str_int G σ _ _ (Jl (by omega))),Zh (Qy f1),Zh (Qy f2),Zh (str_int G σ _ _ (Jl (by omega))),Zh (Qy f3),Zh (Qy f4)];unfold msgN;rw [Z9];kernel_rfl
theorem Zqy (v:Vl)(hv:v.ok)(hv2:v≠.nul)(ws:List T)(hw:Jb v=some ws)(hl:ws.length≤n)(h:G "_law_words" [v.t,.str "names"] σ=.ok (.list ws,.own) σ):LRes (Ze G "_law_names_set" [.dict seen,.int n,v.t] σ) σ seen lk (Q2 lk n v):=by
 have he:Q2 lk n v=.inr [(Q7 lk,some (Zak lk (ws++List.replicate (n - ws.length) .none)))]:=by
  rw [Zep n hv2,hw];dsimp only;rw [if_neg (by omega)]
 rw [he];have hws:=Ze5 hv hw;have hm:binT .Mult (.list [.none]) (.int ((n:Int) - (ws.length:Int)))=some (.list (List.replicate (n - ws.length) .none),.own):=by
  rw [Zpl (by omega) (by omega)];congr 4;omega
 have ha:binT .Add (.list ws) (.list (List.replicate (n - ws.length) .none))=some (.list (ws++List.replicate (n - ws.length) .none),.own):=Zja (by simp;omega);have hsz:seen.length < Zc:=by have:=S.sz;unfold Zc;omega
 have hsz2:∀t,(dput seen "dimnames" t).length < Zc:=fun t=>by have:=S.sz;have:=Zbj seen "dimnames" t;unfold Zc;omega
 obtain ⟨k',us,a,hk',e⟩:=Zck hv2;rw [e] at h ⊢;rcases S.dim with hd | ⟨ds,h1,h2,hd⟩
 ·have hs:seen.lookup ("dim":Str)=none:=by rw [S.at',hd];rfl
  have hb:Jg lk=false:=by unfold Jg dimL;rw [hd]
  unfold Q7 Zak;rw [if_neg (by rw [hb];simp),if_neg (by rw [hb];simp)];refine Zfw S (t':=.tup [.str "character",.list (ws++List.replicate (n - ws.length) .none),.dict []]) (kd:=.own) (by simp) rfl ?_
  conv=>lhs;whnf
  rw [dF hk']
  conv=>lhs;whnf
  refine Zb _ h ?_
  conv=>lhs;whnf
  rw [show decide ((n:Int) < (ws.length:Int))=false from dF (by omega)]
  conv=>lhs;whnf
  rw [hm]
  conv=>lhs;whnf
  rw [ha]
  conv=>lhs;whnf
  rw [hs]
  conv=>lhs;whnf
  rw [Subsingleton.elim (Nat.decLt _ _) (isTrue hsz)];kernel_rfl
 ·have hs:seen.lookup ("dim":Str)=some (.tup [.str "integer",.list (ds.map .int),.dict []]):=by rw [S.at',hd];rfl
  have hb:Jg lk=decide ((ds.map T.int).length=1):=by unfold Jg dimL;rw [hd]
  unfold Q7 Zak
  by_cases hone:(ds.map T.int).length=1
  ·rw [if_pos (by rw [hb];exact dT hone),if_pos (by rw [hb];exact dT hone)];have e2:dput (dput seen "dimnames" (.tup [.str "character",.list (ws++List.replicate (n - ws.length) .none),.dict []])) "dimnames" (.tup [.str "list",.list [.tup [.str "character",.list (ws++List.replicate (n - ws.length) .none),.dict []]],.dict []])=dput seen "dimnames" (.tup [.str "list",.list [.tup [.str "character",.list (ws++List.replicate (n - ws.length) .none),.dict []]],.dict []]):=Zs4 _ _ _ _;refine Zfw S (t':=.tup [.str "list",.list [.tup [.str "character",.list (ws++List.replicate (n - ws.length) .none),.dict []]],.dict []]) (kd:=.own) (by simp) rfl ?_
   conv=>lhs;whnf
   rw [dF hk']
   conv=>lhs;whnf
   refine Zb _ h ?_
   conv=>lhs;whnf
   rw [show decide ((n:Int) < (ws.length:Int))=false from dF (by omega)]
   conv=>lhs;whnf
   rw [hm]
   conv=>lhs;whnf
   rw [ha]
   conv=>lhs;whnf
   rw [hs]
   conv=>lhs;whnf
   refine Zb (T.int (ds.map T.int).length,Kd.val) (σ':=σ) ?_ ?_
   ·conv=>lhs;whnf
    refine Zb (T.list (ds.map T.int)) (σ':=σ) ?_ rfl
    conv=>lhs;whnf
    refine Zb (T.list (ds.map T.int),Kd.val) (σ':=σ) (evalE_c.trans ?_) rfl
    conv=>lhs;whnf
    exact Zb _ (Qw hs) rfl
   conv=>lhs;whnf
   rw [show decide (((ds.map T.int).length:Int)=1)=true from dT (by omega)]
   conv=>lhs;whnf
   rw [Subsingleton.elim (Nat.decLt _ _) (isTrue hsz)];refine Eq.trans (b:=(if (dput seen "dimnames" (.tup [.str "character",.list (ws++List.replicate (n - ws.length) .none),.dict []])).length < Zc then pure (T.dict (dput (dput seen "dimnames" (.tup [.str "character",.list (ws++List.replicate (n - ws.length) .none),.dict []])) "dimnames" (.tup [.str "list",.list [.tup [.str "character",.list (ws++List.replicate (n - ws.length) .none),.dict []]],.dict []])),Kd.own) else stuck:M (T×Kd)) σ) ?_ ?_
   ·kernel_rfl
   ·rw [if_pos (hsz2 _),e2];kernel_rfl
  ·rw [if_neg (by rw [hb];simpa using hone),if_neg (by rw [hb];simpa using hone)];refine Zfw S (t':=.tup [.str "character",.list (ws++List.replicate (n - ws.length) .none),.dict []]) (kd:=.own) (by simp) rfl ?_
   conv=>lhs;whnf
   rw [dF hk']
   conv=>lhs;whnf
   refine Zb _ h ?_
   conv=>lhs;whnf
   rw [show decide ((n:Int) < (ws.length:Int))=false from dF (by omega)]
   conv=>lhs;whnf
   rw [hm]
   conv=>lhs;whnf
   rw [ha]
   conv=>lhs;whnf
   rw [hs]
   conv=>lhs;whnf
   refine Zb (T.int (ds.map T.int).length,Kd.val) (σ':=σ) ?_ ?_
   ·conv=>lhs;whnf
    refine Zb (T.list (ds.map T.int)) (σ':=σ) ?_ rfl
    conv=>lhs;whnf
    refine Zb (T.list (ds.map T.int),Kd.val) (σ':=σ) (evalE_c.trans ?_) rfl
    conv=>lhs;whnf
    exact Zb _ (Qw hs) rfl
   conv=>lhs;whnf
   rw [show decide (((ds.map T.int).length:Int)=1)=false from dF (by omega)]
   conv=>lhs;whnf
   rw [Subsingleton.elim (Nat.decLt _ _) (isTrue hsz)];kernel_rfl
end
theorem Zcl {f:T→M Bool}{k g:T→M (T×Kd)}{σ:Sg}(q:Str×T→Bool):∀(es:List (Str×T)) (acc:List (Str×T)),((acc++es).map (·.1)).Nodup→(∀p∈es,f (.str p.1) σ=.ok (q p) σ)→(∀p∈es,∃kd,k (.str p.1) σ=.ok (.str p.1,kd) σ)→(∀p∈es,∃kd,kd≠Kd.h∧g (.str p.1) σ=.ok (p.2,kd) σ)→
  Qx f k g acc (es.map fun p=>.str p.1) σ=.ok (acc++es.filter q) σ
 |[],acc,_,_,_,_=>by
  rw [List.map_nil,List.filter_nil,List.append_nil];rfl
 |p::r,acc,hn,h1,h2,h3=>by
  obtain ⟨kd2,e2⟩:=h2 p (by simp);obtain ⟨kd3,hk3,e3⟩:=h3 p (by simp);have hnew:p.1∉acc.map (·.1):=by
   rw [List.map_append,List.nodup_append] at hn;intro hm;exact hn.2.2 _ hm p.1 (by simp) rfl
  show (f (.str p.1)>>=fun b=>if b=true then k (.str p.1)>>=fun x=>match x with
   |(.str x,_)=>g (.str p.1)>>=fun b=>solid b>>=fun b=>Qx f k g (dput acc x b.1) (r.map fun p=>.str p.1)
   |_=>stuck else Qx f k g acc (r.map fun p=>.str p.1)) σ=_
  rw [Zh (h1 p (by simp))]
  cases hq:q p with
  |true=>
   have ih:=Zcl q r (acc++[p]) (by simpa using hn) (fun q hq=>h1 q (by simp [hq])) (fun q hq=>h2 q (by simp [hq])) (fun q hq=>h3 q (by simp [hq]));rw [if_pos rfl,Zh e2];dsimp only;rw [Zh e3];have e4:solid (p.2,kd3) σ=.ok (p.2,kd3) σ:=by unfold solid;rw [if_neg hk3];rfl
   rw [Zh e4,Zkn hnew,ih,List.filter_cons_of_pos hq];simp
  |false=>
   have hn2:((acc++r).map (·.1)).Nodup:=by
    rw [List.map_append,List.map_cons] at hn;rw [List.map_append];rw [List.nodup_append,List.nodup_cons] at hn;rw [List.nodup_append];exact ⟨hn.1,hn.2.1.2,fun a ha b hb=>hn.2.2 a ha b (List.mem_cons_of_mem _ hb)⟩
   have ih:=Zcl q r acc hn2 (fun q hq=>h1 q (by simp [hq])) (fun q hq=>h2 q (by simp [hq])) (fun q hq=>h3 q (by simp [hq]));rw [if_neg (by simp),ih,List.filter_cons_of_neg (by rw [hq];simp)]
theorem Zc2 (es:List (Str×T))(q:Str→Bool)(y:Str):(es.filter fun p=>q p.1).lookup y=if q y=true then es.lookup y else none:=by
 induction es with
 |nil=>split<;>rfl
 |cons p es ih=>
  obtain ⟨k,t⟩:=p;rw [List.filter_cons]
  by_cases hk:q k=true
  ·rw [if_pos hk,List.lookup_cons,List.lookup_cons]
   by_cases h:y=k
   ·subst h;rw [if_pos hk];simp
   ·have:(y == k)=false:=by simpa using h
    rw [this];exact ih
  ·rw [if_neg hk,List.lookup_cons]
   by_cases h:y=k
   ·subst h;rw [if_neg hk,ih,if_neg hk]
   ·have:(y == k)=false:=by simpa using h
    rw [this];exact ih
theorem Zb5 {es:List (Str×T)}(q:Str×T→Bool)(h:(es.map (·.1)).Nodup):((es.filter q).map (·.1)).Nodup:=
 (List.filter_sublist.map (fun x:Str×T=>x.1)).nodup h
theorem Zfa {f:T→M Bool}{g:T→M (T×Kd)}{σ:Sg}(q:T→Bool):∀{l:List T},(∀t∈l,f t σ=.ok (q t) σ)→(∀t∈l,∃kd,kd≠Kd.h∧g t σ=.ok (t,kd) σ)→tests f g l σ=.ok (l.filter q) σ
 |[],_,_=>rfl
 |t::r,h1,h2=>by
  obtain ⟨kd,hk,e2⟩:=h2 t (by simp);have ih:=Zfa q (l:=r) (fun t ht=>h1 t (by simp [ht])) (fun t ht=>h2 t (by simp [ht]));show (f t>>=fun b=>if b=true then g t>>=fun b=>solid b>>=fun b=>tests f g r>>=fun bs=>pure (b.1::bs) else tests f g r) σ=_;rw [Zh (h1 t (by simp)),List.filter_cons]
  cases hq:q t with
  |true=>
   rw [if_pos rfl,if_pos rfl,Zh e2];have e4:solid (t,kd) σ=.ok (t,kd) σ:=by unfold solid;rw [if_neg hk];rfl
   rw [Zh e4,Zh ih];rfl
  |false=>
   rw [if_neg (by simp),if_neg (by simp),ih]
def notK (x:Str)(p:Str×T):Bool:=!decide (p.1=x)
theorem Zaz {R:Res (T×Kd)}{σ:Sg}{seen:List (Str×T)}{lk:Lk}(S:Seen seen lk){x:Str}{kd:Kd}(hk:kd≠.h)(h:R=.ok (.dict (seen.filter (notK x)),kd) σ):LRes R σ seen lk (.inr [(x,none)]):=
 ⟨_,kd,hk,h,Zb5 _ S.nd,fun y=>by
  have:=Zc2 seen (fun y=>!decide (y=x)) y;rw [show seen.filter (notK x)=seen.filter (fun p=>!decide (p.1=x)) from rfl,this,Jq,S.at']
  by_cases hy:y=x<;>simp [hy],Nat.le_succ_of_le (List.length_filter_le _ _)⟩
theorem Zay {R:Res (T×Kd)}{σ:Sg}{seen:List (Str×T)}{lk:Lk}(S:Seen seen lk){x:Str}{t t':T}{kd:Kd}(hk:kd≠.h)(ht:vw t=t')(h:R=.ok (.dict (dput (seen.filter (notK x)) x t'),kd) σ):LRes R σ seen lk (.inr [(x,some t)]):=
 ⟨_,kd,hk,h,Zes _ _ _ (Zb5 _ S.nd),fun y=>by
  have:=Zc2 seen (fun y=>!decide (y=x)) y;rw [Zda,show seen.filter (notK x)=seen.filter (fun p=>!decide (p.1=x)) from rfl,this,Jq,S.at',←ht]
  by_cases hy:y=x<;>simp [hy],Nat.le_trans (Zbj _ _ _) (by have:=List.length_filter_le (notK x) seen;omega)⟩
def J5:Option Stmt:=(Zs "_law_dimnames_set")[7]?
def ldnK (G:Calls):Out→Lv→M (T×Kd):=fun o L'=>match o with
 |.next=>cSs G ((Zs "_law_dimnames_set").drop 8) L' (fun o _=>outT o)
 |o=>outT o
def LS2 (seen value sides F:T)(acc:List T)(L:Lv):Prop:=
 L={ loc:=[("seen",seen),("value",value),("sides",sides)],own:=[("parts",.list (acc.map vw0),.own),("found",F,.own)],mv:=mvOf "_law_dimnames_set",hot:=false } ∨
 ∃t0 t1,L={ loc:=[("seen",seen),("value",value),("sides",sides),("spot",t0),("words",t1)],own:=[("parts",.list (acc.map vw0),.own),("found",F,.own)],mv:=mvOf "_law_dimnames_set",hot:=false }
section
variable (G:Calls)(σ:Sg)
theorem Zf0 (seen F:T)(PS:List (Option (List T)))(a:T)(DS:List Int)(hsz:DS.length < 900):∀(ds:List Int) (i:Nat) (acc:List T) (L:Lv),acc.length=i→DS.drop i=ds→i+ds.length=DS.length→LS2 seen (.vec "list" (PS.map optV) a) (.list (DS.map .int)) F acc L→
  (∀m,dnS (PS.drop i) ds i acc=.inl m→cFor "spot" (fun L k=>cSs G (Zm J5) L k) ((List.range' i ds.length).map fun i:Nat=>T.int (i:Int)) L (ldnK G) σ=.ok (.str m,.val) σ)∧
  (∀acc',dnS (PS.drop i) ds i acc=.inr acc'→∃L',LS2 seen (.vec "list" (PS.map optV) a) (.list (DS.map .int)) F acc' L'∧cFor "spot" (fun L k=>cSs G (Zm J5) L k) ((List.range' i ds.length).map fun i:Nat=>T.int (i:Int)) L (ldnK G) σ=ldnK G .next L' σ)
 |[],i,acc,L,ha,hd,hi,hL=>by
  unfold dnS;refine ⟨fun m e=>(nomatch e),fun acc' e=>⟨L,?_,rfl⟩⟩;cases e;exact hL
 |e::r,i,acc,L,ha,hd,hi,hL=>by
  have he:(DS.map T.int)[i]?=some (.int e):=by
   have:=congrArg (fun l=>l[0]?) hd;simp only [List.getElem?_drop,Nat.add_zero,List.getElem?_cons_zero] at this;rw [List.getElem?_map,this];rfl
  have hr:DS.drop (i+1)=r:=by
   have:=congrArg (List.drop 1) hd
   rwa [List.drop_drop,List.drop_one,List.tail_cons] at this
  have hi2:i < 900:=by simp at hi;omega
  have ih:=fun (t:T) (L':Lv)=>Zf0 seen F PS a DS hsz r (i+1) (acc++[t]) L' (by simp;omega) hr (by simp at hi;omega)
  have hac:(acc.map vw0).length < 2000:=by simp;omega
  have hmap:∀t,(acc++[t]).map vw0=acc.map vw0++[vw0 t]:=fun t=>by simp
  by_cases hp:PS.length≤i
  ·have h1:dnS (PS.drop i) (e::r) i acc=dnS (PS.drop (i+1)) r (i+1) (acc++[.null]):=by
    rw [List.drop_eq_nil_of_le hp,List.drop_eq_nil_of_le (by omega)];rfl
   rw [h1];have key:∃L',LS2 seen (.vec "list" (PS.map optV) a) (.list (DS.map .int)) F (acc++[.null]) L'∧cFor "spot" (fun L k=>cSs G (Zm J5) L k) ((List.range' i (e::r).length).map fun i:Nat=>T.int (i:Int)) L (ldnK G) σ=cFor "spot" (fun L k=>cSs G (Zm J5) L k) ((List.range' (i+1) r.length).map fun i:Nat=>T.int (i:Int)) L' (ldnK G) σ:=by
    rcases hL with rfl | ⟨t0,t1,rfl⟩<;>refine ⟨_,.inr ⟨.int i,.list [],rfl⟩,?_⟩<;>rw [hmap]
    all_goals (
     conv=>lhs;whnf
     rw [show decide ((i:Int) < ((PS.map optV).length:Int))=false from dF (by simp;omega)]
     conv=>lhs;whnf
     rw [Z4 hac];rfl)
   obtain ⟨L',s1,s2⟩:=key;rw [s2];exact ih .null L' s1
  ·obtain ⟨p,hpp⟩:∃p,PS[i]?=some p:=⟨_,List.getElem?_eq_getElem (by omega)⟩;have hpt:(PS.map optV)[i]?=some (optV p):=by rw [List.getElem?_map,hpp];rfl
   have hdp:PS.drop i=p::PS.drop (i+1):=by
    rw [List.drop_eq_getElem_cons (by omega)];congr 1;rw [List.getElem?_eq_getElem (by omega)] at hpp;exact Option.some.inj hpp
   have hd0:decide ((i:Int) < ((PS.map optV).length:Int))=true:=dT (by simp;omega)
   have h1:dnS (PS.drop i) (e::r) i acc=match Qc p e i with
     |.inl m=>.inl m
     |.inr t=>dnS (PS.drop (i+1)) r (i+1) (acc++[thin t]):=by rw [hdp];rfl
   rw [h1]
   cases p with
   |none=>
    have key:∃L',LS2 seen (.vec "list" (PS.map optV) a) (.list (DS.map .int)) F (acc++[.null]) L'∧cFor "spot" (fun L k=>cSs G (Zm J5) L k) ((List.range' i (e::r).length).map fun i:Nat=>T.int (i:Int)) L (ldnK G) σ=cFor "spot" (fun L k=>cSs G (Zm J5) L k) ((List.range' (i+1) r.length).map fun i:Nat=>T.int (i:Int)) L' (ldnK G) σ:=by
     rcases hL with rfl | ⟨t0,t1,rfl⟩<;>refine ⟨_,.inr ⟨.int i,.list [],rfl⟩,?_⟩<;>rw [hmap]
     all_goals (
      conv=>lhs;whnf
      rw [hd0]
      conv=>lhs;whnf
      refine Zb (.null,Kd.val) (Zv hpt) ?_
      conv=>lhs;whnf
      rw [Z4 hac];rfl)
    obtain ⟨L',s1,s2⟩:=key;rw [s2];exact ih .null L' s1
   |some us=>
    cases us with
    |nil=>
     have key:∃L',LS2 seen (.vec "list" (PS.map optV) a) (.list (DS.map .int)) F (acc++[.null]) L'∧cFor "spot" (fun L k=>cSs G (Zm J5) L k) ((List.range' i (e::r).length).map fun i:Nat=>T.int (i:Int)) L (ldnK G) σ=cFor "spot" (fun L k=>cSs G (Zm J5) L k) ((List.range' (i+1) r.length).map fun i:Nat=>T.int (i:Int)) L' (ldnK G) σ:=by
      rcases hL with rfl | ⟨t0,t1,rfl⟩<;>refine ⟨_,.inr ⟨.int i,.list [],rfl⟩,?_⟩<;>rw [hmap]
      all_goals (
       conv=>lhs;whnf
       rw [hd0]
       conv=>lhs;whnf
       refine Zb (.vec "character" [] .none,Kd.val) (Zv hpt) ?_
       conv=>lhs;whnf
       refine Zb (.vec "character" [] .none,Kd.val) (Zv hpt) ?_
       conv=>lhs;whnf
       rw [Z4 hac];rfl)
     obtain ⟨L',s1,s2⟩:=key;rw [s2,show Qc (some []) e i=.inr (.vec "character" [] .none) from by unfold Qc;exact if_neg (fun q=>absurd q.2 (by decide))];exact ih .null L' s1
    |cons u us=>
     by_cases hle:((u::us).length:Int)=e
     ·have key:∃L',LS2 seen (.vec "list" (PS.map optV) a) (.list (DS.map .int)) F (acc++[.vec "character" (u::us) .none]) L'∧cFor "spot" (fun L k=>cSs G (Zm J5) L k) ((List.range' i (e::r).length).map fun i:Nat=>T.int (i:Int)) L (ldnK G) σ=cFor "spot" (fun L k=>cSs G (Zm J5) L k) ((List.range' (i+1) r.length).map fun i:Nat=>T.int (i:Int)) L' (ldnK G) σ:=by
       rcases hL with rfl | ⟨t0,t1,rfl⟩<;>refine ⟨_,.inr ⟨.int i,.list (u::us),rfl⟩,?_⟩<;>rw [hmap]
       all_goals (
        conv=>lhs;whnf
        rw [hd0]
        conv=>lhs;whnf
        refine Zb (.vec "character" (u::us) .none,Kd.val) (Zv hpt) ?_
        conv=>lhs;whnf
        refine Zb (.vec "character" (u::us) .none,Kd.val) (Zv hpt) ?_
        conv=>lhs;whnf
        refine Zb (T.int e) (σ':=σ) ?_ ?_
        ·conv=>lhs;whnf
         refine Zb (T.int e,Kd.val) (σ':=σ) (evalE_c.trans ?_) rfl
         conv=>lhs;whnf
         exact Zb _ (Zv he) rfl
        conv=>lhs;whnf
        rw [show decide (((u::us).length:Int)=e)=true from dT hle]
        conv=>lhs;whnf
        rw [Z4 hac];rfl)
      obtain ⟨L',s1,s2⟩:=key;rw [s2,show Qc (some (u::us)) e i=.inr (.vec "character" (u::us) .none) from by unfold Qc;exact if_neg (fun q=>q.1 hle)];exact ih (.vec "character" (u::us) .none) L' s1
     ·rw [show Qc (some (u::us)) e i=.inl (msgP i) from by unfold Qc;exact if_pos ⟨hle,by simp⟩];refine ⟨fun m' em=>?_,fun acc' em=>(nomatch em)⟩;have em':=Sum.inl.inj em;subst em';have l1:=Q1 (i:=(i:Int)+1) (by omega) (by omega);have f1:("length of 'dimnames' [":Str).length+(Zg ((i:Int)+1)).length≤Zc:=by rw [Q6];unfold Zc;omega
      have f2:("length of 'dimnames' ["++Zg ((i:Int)+1):Str).length+("] not equal to array extent":Str).length≤Zc:=by rw [Str.length_append,Q6,Zii];unfold Zc;omega
      rcases hL with rfl | ⟨t0,t1,rfl⟩
      all_goals (
       conv=>lhs;whnf
       rw [hd0]
       conv=>lhs;whnf
       refine Zb (.vec "character" (u::us) .none,Kd.val) (Zv hpt) ?_
       conv=>lhs;whnf
       refine Zb (.vec "character" (u::us) .none,Kd.val) (Zv hpt) ?_
       conv=>lhs;whnf
       refine Zb (T.int e) (σ':=σ) ?_ ?_
       ·conv=>lhs;whnf
        refine Zb (T.int e,Kd.val) (σ':=σ) (evalE_c.trans ?_) rfl
        conv=>lhs;whnf
        exact Zb _ (Zv he) rfl
       conv=>lhs;whnf
       rw [show decide (((u::us).length:Int)=e)=false from dF hle];refine Eq.trans (b:=(Z2 G "str" [(.int ((i:Int)+1),.val)]>>=fun a=>Zl (binT .Add (.str "length of 'dimnames' [") a.1)>>=fun b=>Zl (binT .Add b.1 (.str "] not equal to array extent"))>>=fun r=>solid r>>=fun r=>pure (r.1,r.2):M (T×Kd)) σ) ?_ ?_
       ·kernel_rfl
       ·rw [Zh (str_int G σ _ _ (Zco (by omega))),Zh (Qy f1),Zh (Qy f2)];rfl)
end
theorem Zkl {lk:Lk}{v:Vl}(hn:v≠.nul):Za6 lk v=match dimL lk with
   |none=>.inl "'dimnames' applied to non-array"
   |some ds=>match v with
    |.lst ps h=>if ps.length=0 then .inr [("dimnames",none)] else if ds.length < ps.length then .inl (msgQ ps.length ds.length) else
     (match dnS ps (Zal ds) 0 [] with
     |.inl m=>.inl m
     |.inr acc=>if (h.isSome||acc.any isV)=true then .inr [("dimnames",some (.vec "list" acc (Zx (padH h ds.length))))] else .inr [("dimnames",none)])
    |_=>.inl "'dimnames' must be a list":=by
 cases v<;>first | exact absurd rfl hn | rfl
def Zcz:T→Bool
 |.tup _=>true
 |_=>false
theorem Zu1 (acc:List T)(h:∀t∈acc,t=.null∨∃us,t=.vec "character" us .none):acc.any isV=!((acc.map vw0).filter Zcz).isEmpty:=by
 induction acc with
 |nil=>rfl
 |cons t r ih=>
  rw [List.any_cons,List.map_cons,List.filter_cons];rcases h t (by simp) with rfl | ⟨us,rfl⟩
  ·rw [show isV .null=false from rfl,Bool.false_or,ih (fun t ht=>h t (by simp [ht])),show Zcz (vw0 .null)=false from rfl,if_neg (by simp)]
  ·rw [show isV (.vec "character" us .none)=true from rfl,Bool.true_or,show Zcz (vw0 (.vec "character" us .none))=true from rfl,if_pos rfl];kernel_rfl
section
variable (G:Calls)(σ:Sg){seen:List (Str×T)}{lk:Lk}(S:Seen seen lk)
theorem Zqo (t:T)(hs:seen.lookup ("dim":Str)=none):Ze G "_law_dimnames_set" [.dict seen,t] σ=.ok (.str "'dimnames' applied to non-array",.val) σ:=by
 conv=>lhs;whnf
 rw [hs];kernel_rfl
theorem Zqq (k':Str)(us:List T)(a:T)(hk:k'≠"list")(t:T)(hs:seen.lookup ("dim":Str)=some t):Ze G "_law_dimnames_set" [.dict seen,.vec k' us a] σ=.ok (.str "'dimnames' must be a list",.val) σ:=by
 conv=>lhs;whnf
 rw [hs]
 conv=>lhs;whnf
 rw [dF hk];kernel_rfl
include S
theorem Zd9 (ps:List T)(DS:List Int)(a:T)(hs:seen.lookup ("dim":Str)=some (.tup [.str "integer",.list (DS.map .int),.dict []])):Ze G "_law_dimnames_set" [.dict seen,.vec "list" ps a] σ=cSs G ((Zs "_law_dimnames_set").drop 4) { loc:=[("seen",.dict seen),("value",.vec "list" ps a),("sides",.list (DS.map .int))],own:=[("found",.dict (seen.filter (notK "dimnames")),.own)],mv:=mvOf "_law_dimnames_set",hot:=false } (fun o _=>outT o) σ:=by
 conv=>lhs;whnf
 rw [hs]
 conv=>lhs;whnf
 refine Zb _ (Qw hs) ?_
 conv=>lhs;whnf
 refine Zb _ (Zcl (notK "dimnames") seen [] S.nd ?_ ?_ ?_) ?_
 ·intro p hp;show _=Res.ok (!decide (p.1=("dimnames":Str))) σ;refine Qi ?_;cases hb:decide (p.1=("dimnames":Str))
  all_goals (
   conv=>lhs;whnf
   rw [hb];kernel_rfl)
 ·intro p hp;exact ⟨.val,rfl⟩
 ·intro p hp;refine ⟨.val,by simp,Qi (evalE_c.trans ?_)⟩
  conv=>lhs;whnf
  exact Zb _ (Qw (Jt S.nd hp)) rfl
 rw [List.nil_append];kernel_rfl
theorem Zqr (DS:List Int)(a:T)(hs:seen.lookup ("dim":Str)=some (.tup [.str "integer",.list (DS.map .int),.dict []])):Ze G "_law_dimnames_set" [.dict seen,.vec "list" [] a] σ=.ok (.dict (seen.filter (notK "dimnames")),.own) σ:=by
 rw [Zd9 G σ S [] DS a hs];kernel_rfl
theorem Zqp (ps:List T)(DS:List Int)(a:T)(hs:seen.lookup ("dim":Str)=some (.tup [.str "integer",.list (DS.map .int),.dict []]))(hl:DS.length < ps.length)(hb:ps.length < 900):Ze G "_law_dimnames_set" [.dict seen,.vec "list" ps a] σ=.ok (.str (msgQ ps.length DS.length),.val) σ:=by
 have l1:=Q1 (i:=(ps.length:Int)) (by omega) (by omega);have l2:=Q1 (i:=((DS.map T.int).length:Int)) (by omega) (by simp;omega);have f1:("length of 'dimnames' [":Str).length+(Zg ps.length).length≤Zc:=by rw [Q6];unfold Zc;omega
 have f2:("length of 'dimnames' ["++Zg ps.length:Str).length+("] must match that of 'dims' [":Str).length≤Zc:=by rw [Str.length_append,Q6,Zbu];unfold Zc;omega
 have f3:(("length of 'dimnames' ["++Zg ps.length)++"] must match that of 'dims' [":Str).length+(Zg (DS.map T.int).length).length≤Zc:=by rw [Str.length_append,Str.length_append,Q6,Zbu];unfold Zc;omega
 have f4:((("length of 'dimnames' ["++Zg ps.length)++"] must match that of 'dims' [")++Zg (DS.map T.int).length:Str).length+("]":Str).length≤Zc:=by rw [Str.length_append,Str.length_append,Str.length_append,Q6,Zbu,Zdb];unfold Zc;omega
 rw [Zd9 G σ S _ DS _ hs]
 cases ps with
 |nil=>exact absurd hl (by simp)
 |cons p r=>
  conv=>lhs;whnf
  rw [show decide (((DS.map T.int).length:Int) < ((p::r).length:Int))=true from dT (by simp at hl ⊢;omega)];refine Eq.trans (b:=(Z2 G "str" [(.int ((p::r).length:Nat),.val)]>>=fun a=>Zl (binT .Add (.str "length of 'dimnames' [") a.1)>>=fun b=>Zl (binT .Add b.1 (.str "] must match that of 'dims' ["))>>=fun b2=>Z2 G "str" [(.int ((DS.map T.int).length:Nat),.val)]>>=fun c=>Zl (binT .Add b2.1 c.1)>>=fun b3=>Zl (binT .Add b3.1 (.str "]"))>>=fun r=>solid r>>=fun r=>pure (r.1,r.2):M (T×Kd)) σ) ?_ ?_
  ·kernel_rfl
  ·rw [Zh (str_int G σ _ _ (Jl (by omega))),Zh (Qy f1),Zh (Qy f2),Zh (str_int G σ _ _ (Jl (by simp at hl hb ⊢;omega))),Zh (Qy f3),Zh (Qy f4),List.length_map];kernel_rfl
theorem Zqn (PS:List (Option (List T)))(DS:List Int)(a:T)(m:Str)(hs:seen.lookup ("dim":Str)=some (.tup [.str "integer",.list (DS.map .int),.dict []]))(hl:PS.length≤DS.length)(hne:PS≠[])(hsz:DS.length < 900)(hd:dnS PS DS 0 []=.inl m):Ze G "_law_dimnames_set" [.dict seen,.vec "list" (PS.map optV) a] σ=.ok (.str m,.val) σ:=by
 rw [Zd9 G σ S _ DS _ hs]
 cases PS with
 |nil=>exact absurd rfl hne
 |cons p r=>
  conv=>lhs;whnf
  rw [show decide (((DS.map T.int).length:Int) < (((p::r).map optV).length:Int))=false from dF (by simp at hl ⊢;omega)]
  conv=>lhs;whnf
  refine Zb _ (Jh (by simpa using (by omega:DS.length < 1000)) _) ?_;rw [List.length_map];exact (Zf0 G σ (.dict seen) (.dict (seen.filter (notK "dimnames"))) (p::r) a DS hsz DS 0 [] _ rfl rfl (by omega) (.inl rfl)).1 m hd
theorem Zqm (PS:List (Option (List T)))(DS:List Int)(h:Option (List T))(acc:List T)(hs:seen.lookup ("dim":Str)=some (.tup [.str "integer",.list (DS.map .int),.dict []]))(hl:PS.length≤DS.length)(hne:PS≠[])(hsz:DS.length < 100)(hd:dnS PS DS 0 []=.inr acc)(hh:∀x,h=some x→x.length≤DS.length)(hacc:∀t∈acc,t=.null∨∃us,t=.vec "character" us .none):
  Ze G "_law_dimnames_set" [.dict seen,.vec "list" (PS.map optV) (Zx h)] σ=.ok (.dict (if (h.isSome||acc.any isV)=true then dput (seen.filter (notK "dimnames")) "dimnames" (vw (.vec "list" acc (Zx (padH h DS.length)))) else seen.filter (notK "dimnames")),.own) σ:=by
 rw [Zd9 G σ S _ DS _ hs]
 cases PS with
 |nil=>exact absurd rfl hne
 |cons p r=>
  conv=>lhs;whnf
  rw [show decide (((DS.map T.int).length:Int) < (((p::r).map optV).length:Int))=false from dF (by simp at hl ⊢;omega)]
  conv=>lhs;whnf
  refine Zb _ (Jh (by simpa using (by omega:DS.length < 1000)) _) ?_;rw [List.length_map];obtain ⟨L',s1,s2⟩:=(Zf0 G σ (.dict seen) (.dict (seen.filter (notK "dimnames"))) (p::r) (Zx h) DS (by omega) DS 0 [] _ rfl rfl (by omega) (.inl rfl)).2 acc hd;refine s2.trans ?_;have hF:(seen.filter (notK "dimnames")).length < Zc:=by have:=S.sz;have:=List.length_filter_le (notK "dimnames") seen;unfold Zc;omega
  have hany:=Zu1 acc hacc
  cases h with
  |none=>
   rw [show (none:Option (List T)).isSome=false from rfl,Bool.false_or];rcases s1 with rfl | ⟨t0,t1,rfl⟩
   all_goals (
    conv=>lhs;whnf
    refine Zb _ (Zfa Zcz ?_ ?_) ?_
    ·intro t ht;obtain ⟨t',ht',rfl⟩:=List.mem_map.mp ht;rcases hacc t' ht' with rfl | ⟨us,rfl⟩<;>kernel_rfl
    ·intro t ht;exact ⟨.val,by simp,rfl⟩
    cases hf:(acc.map vw0).filter Zcz with
    |nil=>
     rw [hf] at hany;rw [hany,if_neg (by simp)];kernel_rfl
    |cons u us=>
     rw [hf] at hany;rw [hany,if_pos (by rfl)]
     conv=>lhs;whnf
     rw [Subsingleton.elim (Nat.decLt _ _) (isTrue hF)];kernel_rfl)
  |some hs=>
   have hh':=hh hs rfl;have hm:binT .Mult (.list [.str ""]) (.int (((DS.map T.int).length:Int) - (hs.length:Int)))=some (.list (List.replicate (DS.length - hs.length) (.str "")),.own):=by
    show (if (((DS.map T.int).length:Int) - (hs.length:Int))≤(Zc:Int)∧-9223372036854775808≤(((DS.map T.int).length:Int) - (hs.length:Int)) then some (T.list (List.replicate (((DS.map T.int).length:Int) - (hs.length:Int)).toNat (.str "")),Kd.own) else none)=_;rw [List.length_map,if_pos (by unfold Zc;omega)];congr 4;omega
   have ha:binT .Add (.list hs) (.list (List.replicate (DS.length - hs.length) (.str "")))=some (.list (hs++List.replicate (DS.length - hs.length) (.str "")),.own):=Zja (by simp;omega);rcases s1 with rfl | ⟨t0,t1,rfl⟩
   all_goals (
    conv=>lhs;whnf
    refine Zb (T.dict [("names",.tup [.str "character",.list (hs++List.replicate (DS.length - hs.length) (.str "")),.dict []])],Kd.own) (σ':=σ) ?_ ?_
    ·conv=>lhs;whnf
     refine Zb ([("names",.tup [.str "character",.list (hs++List.replicate (DS.length - hs.length) (.str "")),.dict []])]:List (Str×T)) (σ':=σ) ?_ rfl
     conv=>lhs;whnf
     refine Zb (T.tup [.str "character",.list (hs++List.replicate (DS.length - hs.length) (.str "")),.dict []],Kd.val) (σ':=σ) (evalE_c.trans ?_) rfl
     conv=>lhs;whnf
     rw [hm]
     conv=>lhs;whnf
     rw [ha];kernel_rfl
    rw [if_pos (by rfl)]
    conv=>lhs;whnf
    rw [Subsingleton.elim (Nat.decLt _ _) (isTrue hF)];kernel_rfl)
end
theorem Zet:∀(ps:List (Option (List T))) (ds:List Int) (i:Nat) (acc acc':List T),dnS ps ds i acc=.inr acc'→(∀t∈acc,t=.null∨∃us,t=.vec "character" us .none∧((∀q,some q∈ps→∀u∈q,labT u)→True))→(∀t∈acc',t=.null∨∃us,t=.vec "character" us .none)∧acc'.length=acc.length+ds.length
 |ps,[],i,acc,acc',h,ha=>by
  have e:acc=acc':=by cases ps<;>exact Sum.inr.inj h
  subst e;exact ⟨fun t ht=>by rcases ha t ht with q | ⟨us,q,_⟩;exact .inl q;exact .inr ⟨us,q⟩,by simp⟩
 |[],e::r,i,acc,acc',h,ha=>by
  have h':dnS [] r (i+1) (acc++[.null])=.inr acc':=h;obtain ⟨h1,h2⟩:=Zet [] r (i+1) (acc++[.null]) acc' h' (fun t ht=>by
   rcases List.mem_append.mp ht with q | q
   ·rcases ha t q with q | ⟨us,q,_⟩
    ·exact .inl q
    ·exact .inr ⟨us,q,fun _=>trivial⟩
   ·exact .inl (List.mem_singleton.mp q))
  exact ⟨h1,by rw [h2];simp;omega⟩
 |p::ps,e::r,i,acc,acc',h,ha=>by
  have h':(match Qc p e i with
   |.inl m=>.inl m
   |.inr t=>dnS ps r (i+1) (acc++[thin t]):Str ⊕ List T)=.inr acc':=h
  cases hs:Qc p e i with
  |inl m=>rw [hs] at h';exact nomatch h'
  |inr t=>
   rw [hs] at h';have ht:t=.null∨∃us,t=.vec "character" us .none:=by
    unfold Qc at hs
    cases p with
    |none=>exact .inl (Sum.inr.inj hs).symm
    |some us=>
     dsimp only at hs;split at hs
     ·exact nomatch hs
     ·exact .inr ⟨us,(Sum.inr.inj hs).symm⟩
   have ht2:thin t=.null∨∃us,thin t=.vec "character" us .none:=by
    rcases ht with rfl | ⟨us,rfl⟩
    ·exact .inl rfl
    ·cases us with
     |nil=>exact .inl rfl
     |cons u us=>exact .inr ⟨_,rfl⟩
   obtain ⟨h1,h2⟩:=Zet ps r (i+1) (acc++[thin t]) acc' h' (fun t ht=>by
    rcases List.mem_append.mp ht with q | q
    ·rcases ha t q with q | ⟨us,q,_⟩
     ·exact .inl q
     ·exact .inr ⟨us,q,fun _=>trivial⟩
    ·rw [List.mem_singleton.mp q];rcases ht2 with q | ⟨us,q⟩
     ·exact .inl q
     ·exact .inr ⟨us,q,fun _=>trivial⟩)
   exact ⟨h1,by rw [h2];simp;omega⟩
section
variable {G:Calls}(σ:Sg){seen:List (Str×T)}{lk:Lk}(S:Seen seen lk)
include S
theorem Zq1 (v:Vl)(hv:v.ok)(hn:v≠.nul):LRes (Ze G "_law_dimnames_set" [.dict seen,v.t] σ) σ seen lk (Za6 lk v):=by
 rw [Zkl hn];rcases S.dim with hd | ⟨DS,b1,b2,hd⟩
 ·have hs:seen.lookup ("dim":Str)=none:=by rw [S.at',hd];rfl
  have hdl:dimL lk=none:=by unfold dimL;rw [hd]
  rw [hdl];exact Zqo G σ v.t hs
 ·have hs:seen.lookup ("dim":Str)=some (.tup [.str "integer",.list (DS.map .int),.dict []]):=by rw [S.at',hd];rfl
  have hdl:dimL lk=some (DS.map .int):=by unfold dimL;rw [hd]
  rw [hdl];dsimp only
  cases v with
  |lst ps h=>
   dsimp only;obtain ⟨v1,v2,v3⟩:=hv;rw [show (Vl.lst ps h).t=.vec "list" (ps.map optV) (Zx h) from rfl]
   by_cases h0:ps.length=0
   ·rw [if_pos h0];rw [List.length_eq_zero_iff] at h0;subst h0;exact Zaz S (kd:=.own) (by simp) (Zqr G σ S DS _ hs)
   ·rw [if_neg h0]
    by_cases hl:(DS.map T.int).length < ps.length
    ·rw [if_pos hl];show _=_;have q:=Zqp G σ S (ps.map optV) DS (Zx h) hs (by simpa using hl) (by simp;omega);rw [q,List.length_map,List.length_map]
    ·rw [if_neg hl,Zjt];have hl':ps.length≤DS.length:=by simpa using hl
     have hne:ps≠[]:=fun q=>h0 (by rw [q];rfl)
     cases hdn:dnS ps DS 0 [] with
     |inl m=>exact Zqn G σ S ps DS _ m hs hl' hne (by omega) hdn
     |inr acc=>
      dsimp only;have hacc:=(Zet ps DS 0 [] acc hdn (fun t ht=>absurd ht List.not_mem_nil)).1;have q:=Zqm G σ S ps DS h acc hs hl' hne (by omega) hdn (fun x hx=>by have:=(v3 x hx).1;omega) hacc;rw [List.length_map]
      by_cases hc:(h.isSome||acc.any isV)=true
      ·rw [if_pos hc] at q ⊢;exact Zay S (kd:=.own) (by simp) rfl q
      ·rw [if_neg hc] at q ⊢;exact Zaz S (kd:=.own) (by simp) q
  |nul=>exact absurd rfl hn
  |_=>exact Zqq G σ _ _ _ (by decide +kernel) _ hs
end
section
variable (G:Calls)(σ:Sg){seen:List (Str×T)}{lk:Lk}(S:Seen seen lk)(k:Str)(n:Nat)(hk:k≠"NULL")
theorem Zpx (nm:Str):Ze G "_law_set" [.dict seen,.str "NULL",.int n,.str nm,.null] σ=.ok (.dict seen,.val) σ:=by kernel_rfl
theorem Zpw (nm:Str)(k':Str)(us:List T)(a:T)(hk':k'≠"NULL"):Ze G "_law_set" [.dict seen,.str "NULL",.int n,.str nm,.vec k' us a] σ=.ok (.str "attempt to set an attribute on NULL",.val) σ:=by
 conv=>lhs;whnf
 rw [dF hk'];kernel_rfl
include hk
theorem Zi3 (t r:T)(kd:Kd)(hkd:kd≠.h)(h:G "_law_names_set" [.dict seen,.int n,t] σ=.ok (r,kd) σ):Ze G "_law_set" [.dict seen,.str k,.int n,.str "names",t] σ=.ok (r,kd) σ:=by
 conv=>lhs;whnf
 rw [dF hk]
 conv=>lhs;whnf
 refine Zb _ h ?_;cases kd<;>first | exact absurd rfl hkd | rfl
include S
theorem Ql (nm:Str)(hnm:nm≠"names")(t:T):Ze G "_law_set" [.dict seen,.str k,.int n,.str nm,t] σ=cSs G ((Zs "_law_set").drop 3) { loc:=[("seen",.dict seen),("kind",.str k),("n",.int n),("name",.str nm),("value",t)],own:=[("found",.dict (seen.filter (notK nm)),.own)],mv:=mvOf "_law_set",hot:=false } (fun o _=>outT o) σ:=by
 conv=>lhs;whnf
 rw [dF hk]
 conv=>lhs;whnf
 rw [show decide (nm=("names":Str))=false from dF hnm]
 conv=>lhs;whnf
 refine Zb _ (Zcl (notK nm) seen [] S.nd ?_ ?_ ?_) ?_
 ·intro p hp;show _=Res.ok (!decide (p.1=nm)) σ;refine Qi ?_;cases hb:decide (p.1=nm)
  all_goals (
   conv=>lhs;whnf
   rw [hb];kernel_rfl)
 ·intro p hp;exact ⟨.val,rfl⟩
 ·intro p hp;refine ⟨.val,by simp,Qi (evalE_c.trans ?_)⟩
  conv=>lhs;whnf
  exact Zb _ (Qw (Jt S.nd hp)) rfl
 rw [List.nil_append];kernel_rfl
theorem Zp1:Ze G "_law_set" [.dict seen,.str k,.int n,.str "dimnames",.null] σ=.ok (.dict (seen.filter (notK "dimnames")),.own) σ:=by
 rw [Ql G σ S k n hk "dimnames" (by decide +kernel)];kernel_rfl
theorem Zp3:Ze G "_law_set" [.dict seen,.str k,.int n,.str "class",.null] σ=.ok (.dict (seen.filter (notK "class")),.own) σ:=by
 rw [Ql G σ S k n hk "class" (by decide +kernel)];kernel_rfl
theorem Zp0:Ze G "_law_set" [.dict seen,.str k,.int n,.str "levels",.null] σ=.ok (.dict (seen.filter (notK "levels")),.own) σ:=by
 rw [Ql G σ S k n hk "levels" (by decide +kernel)];kernel_rfl
theorem Zpz:Ze G "_law_set" [.dict seen,.str k,.int n,.str "row.names",.null] σ=.ok (.dict (seen.filter (notK "row.names")),.own) σ:=by
 rw [Ql G σ S k n hk "row.names" (by decide +kernel)];kernel_rfl
theorem Zpy:Ze G "_law_set" [.dict seen,.str k,.int n,.str "unit",.null] σ=.ok (.dict (seen.filter (notK "unit")),.own) σ:=by
 rw [Ql G σ S k n hk "unit" (by decide +kernel)];kernel_rfl
theorem Zp2:Ze G "_law_set" [.dict seen,.str k,.int n,.str "dim",.null] σ=.ok (.dict (ddel (seen.filter (notK "dim")) "dimnames"),.own) σ:=by
 rw [Ql G σ S k n hk "dim" (by decide +kernel)];kernel_rfl
theorem Zp6 (k':Str)(us:List T)(a:T)(hk':k'≠"NULL")(r:T)(kd:Kd)(hkd:kd≠.h)(h:G "_law_dimnames_set" [.dict seen,.vec k' us a] σ=.ok (r,kd) σ):Ze G "_law_set" [.dict seen,.str k,.int n,.str "dimnames",.vec k' us a] σ=.ok (r,kd) σ:=by
 rw [Ql G σ S k n hk "dimnames" (by decide +kernel)]
 conv=>lhs;whnf
 rw [dF hk']
 conv=>lhs;whnf
 refine Zb _ h ?_;cases kd<;>first | exact absurd rfl hkd | rfl
theorem Zp8 (k':Str)(us:List T)(a:T)(hk':k'≠"NULL")(m:Str)(h:G "_law_dims" [.vec k' us a] σ=.ok (.str m,.val) σ):Ze G "_law_set" [.dict seen,.str k,.int n,.str "dim",.vec k' us a] σ=.ok (.str m,.val) σ:=by
 rw [Ql G σ S k n hk "dim" (by decide +kernel)]
 conv=>lhs;whnf
 rw [dF hk']
 conv=>lhs;whnf
 exact Zb _ h rfl
omit S hk
theorem Zjf (va vb vc vd ve ds F:T)(K:Out→Lv→M (T×Kd)):∀(l:List Int) (t:Int) (L:Lv),(∀i,i≤l.length→Zj (Zo (l.take i) t)=true)→
  (L={ loc:=[("seen",va),("kind",vb),("n",vc),("name",vd),("value",ve),("sides",ds),("total",.int t)],own:=[("found",F,.own)],mv:=mvOf "_law_set",hot:=false }∨∃t0,L={ loc:=[("seen",va),("kind",vb),("n",vc),("name",vd),("value",ve),("sides",ds),("total",.int t),("side",t0)],own:=[("found",F,.own)],mv:=mvOf "_law_set",hot:=false })→
  l≠[]→∃t0,cFor "side" (fun L k=>cSs G (Zm ((Ji ((Zs "_law_set")[4]?))[3]?)) L k) (l.map .int) L K σ=K .next { loc:=[("seen",va),("kind",vb),("n",vc),("name",vd),("value",ve),("sides",ds),("total",.int (Zo l t)),("side",t0)],own:=[("found",F,.own)],mv:=mvOf "_law_set",hot:=false } σ
 |[],t,L,_,e,hne=>absurd rfl hne
 |i::r,t,L,hs,e,_=>by
  have h0:Zj t=true:=hs 0 (by omega);have hb:binT .Mult (.int t) (.int i)=some (.int (t * i),.val):=by
   show (if Zj t=true then some (T.int (t * i),Kd.val) else none)=_;rw [if_pos h0]
  have key:cFor "side" (fun L k=>cSs G (Zm ((Ji ((Zs "_law_set")[4]?))[3]?)) L k) ((i::r).map .int) L K σ=cFor "side" (fun L k=>cSs G (Zm ((Ji ((Zs "_law_set")[4]?))[3]?)) L k) (r.map .int) { loc:=[("seen",va),("kind",vb),("n",vc),("name",vd),("value",ve),("sides",ds),("total",.int (t * i)),("side",.int i)],own:=[("found",F,.own)],mv:=mvOf "_law_set",hot:=false } K σ:=by
   rcases e with rfl | ⟨t0,rfl⟩
   all_goals (
    conv=>lhs;whnf
    rw [hb];kernel_rfl)
  rw [key,show Zo (i::r) t=Zo r (t * i) from rfl]
  cases r with
  |nil=>exact ⟨.int i,rfl⟩
  |cons j r=>exact Zjf va vb vc vd ve ds F K (j::r) (t * i) _ (fun m hm=>hs (m+1) (by simp at hm ⊢;omega)) (.inr ⟨_,rfl⟩) (by simp)
def q2 (p:Str×T):Bool:=!(decide (("names":Str)=p.1)||decide (("dimnames":Str)=p.1))
include S hk
theorem Zp7 (k':Str)(us:List T)(a:T)(hk':k'≠"NULL")(ds:List Int)(hne:ds≠[])(hp:∀i,i≤ds.length→Zj (Zo (ds.take i) 1)=true)(h0:0≤Zo ds 1)(hn:n < 900)(h:G "_law_dims" [.vec k' us a] σ=.ok (.list (ds.map .int),.own) σ):
  Ze G "_law_set" [.dict seen,.str k,.int n,.str "dim",.vec k' us a] σ=if Zo ds 1=(n:Int) then .ok (.dict (dput ((seen.filter (notK "dim")).filter q2) "dim" (.tup [.str "integer",.list (ds.map .int),.dict []])),.own) σ else .ok (.str (msgD (Zo ds 1) n),.val) σ:=by
 rw [Ql G σ S k n hk "dim" (by decide +kernel)]
 conv=>lhs;whnf
 rw [dF hk']
 conv=>lhs;whnf
 refine Zb _ h ?_
 conv=>lhs;whnf
 obtain ⟨t0,e0⟩:=Zjf G σ (.dict seen) (.str k) (.int n) (.str "dim") (.vec k' us a) (.list (ds.map .int)) (.dict (seen.filter (notK "dim"))) _ ds 1 _ hp (.inl rfl) hne;refine e0.trans ?_
 conv=>lhs;whnf
 have hs:Zj (Zo ds 1)=true:=by
  have:=hp ds.length (Nat.le_refl _)
  rwa [List.take_length] at this
 by_cases hq:Zo ds 1=(n:Int)
 ·rw [show decide (Zo ds 1=(n:Int))=true from dT hq,if_pos hq]
  conv=>lhs;whnf
  have nd2:((seen.filter (notK "dim")).map (·.1)).Nodup:=Zb5 _ S.nd;refine Zb _ (Zcl q2 (seen.filter (notK "dim")) [] nd2 ?_ ?_ ?_) ?_
  ·intro p hpp;show _=Res.ok (!(decide (("names":Str)=p.1)||decide (("dimnames":Str)=p.1))) σ;refine Qi ?_;have e:(([(T.str "names",Kd.val),(T.str "dimnames",Kd.val)]:List (T×Kd)).map (fun x=>x.1)).any (isK p.1)=(decide (("names":Str)=p.1)||decide (("dimnames":Str)=p.1)):=by
    show (_||(_||false))=_;rw [Bool.or_false];kernel_rfl
   rw [←e];cases hb:(([(T.str "names",Kd.val),(T.str "dimnames",Kd.val)]:List (T×Kd)).map (fun x=>x.1)).any (isK p.1)
   all_goals (
    conv=>lhs;whnf
    rw [hb];kernel_rfl)
  ·intro p hpp;exact ⟨.val,rfl⟩
  ·intro p hpp;refine ⟨.val,by simp,Qi (evalE_c.trans ?_)⟩
   conv=>lhs;whnf
   exact Zb _ (Qw (Jt nd2 hpp)) rfl
  rw [List.nil_append];have hsz:((seen.filter (notK "dim")).filter q2).length < Zc:=by
   have:=S.sz;have:=List.length_filter_le (notK "dim") seen;have:=List.length_filter_le q2 (seen.filter (notK "dim"));unfold Zc;omega
  conv=>lhs;whnf
  rw [Subsingleton.elim (Nat.decLt _ _) (isTrue hsz)];kernel_rfl
 ·rw [show decide (Zo ds 1=(n:Int))=false from dF hq,if_neg hq];have hs1:Zo ds 1 < 10 ^ 18:=by
   unfold Zj at hs;have:=of_decide_eq_true hs;omega
  have l1:=Q1 h0 hs1;have l2:=Q1 (i:=(n:Int)) (by omega) (by omega);have f1:("dims [product ":Str).length+(Zg (Zo ds 1)).length≤Zc:=by rw [Zan];unfold Zc;omega
  have f2:("dims [product "++Zg (Zo ds 1):Str).length+("] do not match the length of object [":Str).length≤Zc:=by rw [Str.length_append,Zan,Zb8];unfold Zc;omega
  have f3:(("dims [product "++Zg (Zo ds 1))++"] do not match the length of object [":Str).length+(Zg n).length≤Zc:=by rw [Str.length_append,Str.length_append,Zan,Zb8];unfold Zc;omega
  have f4:((("dims [product "++Zg (Zo ds 1))++"] do not match the length of object [")++Zg n:Str).length+("]":Str).length≤Zc:=by rw [Str.length_append,Str.length_append,Str.length_append,Zan,Zb8,Zdb];unfold Zc;omega
  refine Eq.trans (b:=(Z2 G "str" [(.int (Zo ds 1),.val)]>>=fun a=>Zl (binT .Add (.str "dims [product ") a.1)>>=fun b=>Zl (binT .Add b.1 (.str "] do not match the length of object ["))>>=fun b2=>Z2 G "str" [(.int n,.val)]>>=fun c=>Zl (binT .Add b2.1 c.1)>>=fun b3=>Zl (binT .Add b3.1 (.str "]"))>>=fun r=>solid r>>=fun r=>pure (r.1,r.2):M (T×Kd)) σ) ?_ ?_
  ·kernel_rfl
  ·rw [Zh (str_int G σ _ _ hs),Zh (Qy f1),Zh (Qy f2),Zh (str_int G σ _ _ (Jl (by omega))),Zh (Qy f3),Zh (Qy f4)];kernel_rfl
end
theorem Ztt {x:Str}{us:List T}(σ:Sg)(kd:Kd)(hkd:kd≠.h)(h:us.all Q9=true):cmpK .In (.str x,kd) (.list us) σ=.ok (.bool (us.any (isK x))) σ:=by
 unfold cmpK;rw [if_neg hkd]
 show (match (if us.all Q9=true then some (us.any (isK x)) else none) with
  |some r=>(Res.ok (T.bool r) σ:Res T)
  |none=>.stuck)=_
 rw [if_pos h]
theorem str_eq_app {x y:Str}:"="++x=("=":Str)++y↔x=y:=by
 constructor
 ·intro e;have e1:(("=":Str)++x).cps=(("=":Str)++y).cps:=congrArg Str.cps e;have e2:("=":Str).cps++x.cps=("=":Str).cps++y.cps:=e1;have e4:=congrArg Array.toList e2;rw [Array.toList_append,Array.toList_append] at e4;have e3:x.cps=y.cps:=Array.toList_inj.mp (List.append_cancel_left e4);cases x;cases y;cases e3;rfl
 ·intro e;rw [e]
theorem Zhs {x:Str}:"="++x≠("?":Str):=by
 intro e;have e1:(("=":Str)++x).cps.toList=("?":Str).cps.toList:=congrArg (fun s:Str=>s.cps.toList) e;have e2:(("=":Str)++x).cps.toList=("=":Str).cps.toList++x.cps.toList:=Array.toList_append;rw [e2,show ("=":Str).cps.toList=[61] from by decide +kernel,show ("?":Str).cps.toList=[63] from by decide +kernel] at e1;exact absurd (List.cons.inj e1).1 (by decide)
theorem Zu3 (u:T)(done:List T)(hu:labT u)(hd:∀t∈done,labT t):inTs u done=some (done.any fun w=>decide (keyT w=keyT u)):=by
 have hf:done.all Q9=true:=by
  rw [List.all_eq_true];intro t ht;rcases hd t ht with rfl | ⟨x,rfl,_⟩<;>rfl
 have hany:∀q:T→Bool,(∀w∈done,q w=decide (keyT w=keyT u))→done.any q=done.any fun w=>decide (keyT w=keyT u):=by
  intro q hq
  clear hf
  induction done with
  |nil=>rfl
  |cons w r ih=>
   rw [List.any_cons,List.any_cons,hq w (by simp),ih (fun t ht=>hd t (by simp [ht])) (fun t ht=>hq t (by simp [ht]))]
 rcases hu with rfl | ⟨x,rfl,_⟩
 ·show (if done.all Q9=true then some (done.any Za2) else none)=_;rw [if_pos hf,hany Za2];intro w hw;rcases hd w hw with rfl | ⟨y,rfl,_⟩
  ·exact (dT rfl).symm
  ·exact (dF Zhs).symm
 ·show (if done.all Q9=true then some (done.any (isK x)) else none)=_;rw [if_pos hf,hany (isK x)];intro w hw;rcases hd w hw with rfl | ⟨y,rfl,_⟩
  ·exact (dF (fun e=>Zhs (show ("=":Str)++x="?" from e.symm))).symm
  ·show decide (y=x)=decide (("=":Str)++y="="++x)
   by_cases h:y=x
   ·rw [dT h,dT (str_eq_app.mpr h)]
   ·rw [dF h,dF (fun e=>h (str_eq_app.mp e))]
theorem Zky {u:T}{done:List T}(hu:labT u)(hd:∀t∈done,labT t)(σ:Sg)(kd:Kd)(hkd:kd≠.h):cmpK .In (u,kd) (.list done) σ=.ok (.bool (done.any fun w=>decide (keyT w=keyT u))) σ:=by
 have e:=Zu3 u done hu hd;unfold cmpK;rw [if_neg hkd];have e2:cmpT .In u (.list done)=inTs u done:=by rcases hu with rfl | ⟨x,rfl,_⟩<;>rfl
 show (match cmpT .In u (.list done) with
  |some r=>(Res.ok (T.bool r) σ:Res T)
  |none=>.stuck)=_
 rw [e2,e]
def Zpr:Option Stmt:=(Ji ((Zs "_law_set")[7]?))[0]?
def lvK (G:Calls):Out→Lv→M (T×Kd):=fun o L'=>match o with
 |.next=>cSs G ((Zs "_law_set").drop 8) L' (fun o _=>outT o)
 |o=>outT o
section
variable (G:Calls)(σ:Sg)
theorem Zi1 (va vb vc:T)(F:List (Str×T))(a r:T)(us:List T)(hus:∀u∈us,labT u)(hn:us.length < 900)(hF:F.length < Zc)(hv:G "_law_view" [.vec "character" us a] σ=.ok (r,.val) σ):∀(todo done:List T) (L:Lv),us=done++todo→
  (L={ loc:=[("seen",va),("kind",vb),("n",vc),("name",.str "levels"),("value",.vec "character" us a)],own:=[("found",.dict F,.own)],mv:=mvOf "_law_set",hot:=false }∨∃t0,L={ loc:=[("seen",va),("kind",vb),("n",vc),("name",.str "levels"),("value",.vec "character" us a),("spot",t0)],own:=[("found",.dict F,.own)],mv:=mvOf "_law_set",hot:=false })→
  cFor "spot" (fun L k=>cSs G (Zm Zpr) L k) ((List.range' done.length todo.length).map fun i:Nat=>T.int (i:Int)) L (lvK G) σ=match dupR done todo with
   |some i=>.ok (.str (msgL i),.val) σ
   |none=>.ok (.dict (dput F "levels" r),.own) σ
 |[],done,L,e,hL=>by
  rcases hL with rfl | ⟨t0,rfl⟩
  all_goals (
   show lvK G .next _ σ=_
   conv=>lhs;whnf
   refine Zb _ hv ?_
   conv=>lhs;whnf
   rw [Subsingleton.elim (Nat.decLt _ _) (isTrue hF)];rfl)
 |u::rest,done,L,e,hL=>by
  have hu:us[done.length]?=some u:=by subst e;simp
  have hlab:=hus u (by subst e;simp);have hdone:∀t∈done,labT t:=fun t ht=>hus t (by subst e;simp [ht])
  have htake:(us.take done.length).drop 0=done:=by subst e;simp
  have hdl:done.length < 900:=by subst e;simp at hn;omega
  have ih:=Zi1 va vb vc F a r us hus hn hF hv rest (done++[u]) _ (by subst e;simp) (.inr ⟨.int (done.length:Int),rfl⟩);rw [List.length_append] at ih;unfold dupR;have l1:=Q1 (i:=(done.length:Int)+1) (by omega) (by omega);have f1:("factor level [":Str).length+(Zg ((done.length:Int)+1)).length≤Zc:=by rw [Zcu];unfold Zc;omega
  have f2:("factor level ["++Zg ((done.length:Int)+1):Str).length+("] is duplicated":Str).length≤Zc:=by rw [Str.length_append,Zcu,Zi7];unfold Zc;omega
  cases hd:done.any fun w=>decide (keyT w=keyT u) with
  |false=>
   have hcmp:cmpK .In (u,Kd.val) (.list ((us.take done.length).drop 0)) σ=.ok (.bool false) σ:=by
    rw [htake,Zky hlab hdone σ _ (by simp),hd]
   rw [if_neg (by simp),←ih];rcases hL with rfl | ⟨t0,rfl⟩
   all_goals (
    conv=>lhs;whnf
    refine Zb (u,Kd.val) (Zv hu) ?_
    conv=>lhs;whnf
    refine Zb _ hcmp ?_;rfl)
  |true=>
   have hcmp:cmpK .In (u,Kd.val) (.list ((us.take done.length).drop 0)) σ=.ok (.bool true) σ:=by
    rw [htake,Zky hlab hdone σ _ (by simp),hd]
   rw [if_pos rfl];rcases hL with rfl | ⟨t0,rfl⟩
   all_goals (
    conv=>lhs;whnf
    refine Zb (u,Kd.val) (Zv hu) ?_
    conv=>lhs;whnf
    refine Zb _ hcmp ?_;refine Eq.trans (b:=(Z2 G "str" [(.int ((done.length:Int)+1),.val)]>>=fun a=>Zl (binT .Add (.str "factor level [") a.1)>>=fun b=>Zl (binT .Add b.1 (.str "] is duplicated"))>>=fun r=>solid r>>=fun r=>pure (r.1,r.2):M (T×Kd)) σ) ?_ ?_
    ·kernel_rfl
    ·rw [Zh (str_int G σ _ _ (Zco (by omega))),Zh (Qy f1),Zh (Qy f2)];rfl)
section
variable {seen:List (Str×T)}{lk:Lk}(S:Seen seen lk)(k:Str)(n:Nat)(hk:k≠"NULL")
include S hk
theorem Zp5 (us:List T)(a r:T)(hus:∀u∈us,labT u)(hn:us.length < 900)(hv:G "_law_view" [.vec "character" us a] σ=.ok (r,.val) σ):Ze G "_law_set" [.dict seen,.str k,.int n,.str "levels",.vec "character" us a] σ=match dupR [] us with
   |some i=>.ok (.str (msgL i),.val) σ
   |none=>.ok (.dict (dput (seen.filter (notK "levels")) "levels" r),.own) σ:=by
 have hF:(seen.filter (notK "levels")).length < Zc:=by have:=S.sz;have:=List.length_filter_le (notK "levels") seen;unfold Zc;omega
 rw [←Zi1 G σ (.dict seen) (.str k) (.int n) (seen.filter (notK "levels")) a r us hus hn hF hv us [] _ rfl (.inl rfl)];rw [Ql G σ S k n hk "levels" (by decide +kernel)]
 conv=>lhs;whnf
 refine Zb _ (Jh (by omega) _) ?_;refine congrFun (congrArg (cFor "spot" _ _ _) ?_) _;funext o L';cases o<;>rfl
theorem Zp4 (k':Str)(hk':k'∈(["integer","double","logical","list"]:List Str))(us:List T)(a r:T)(hv:G "_law_view" [.vec k' us a] σ=.ok (r,.val) σ):Ze G "_law_set" [.dict seen,.str k,.int n,.str "levels",.vec k' us a] σ=.ok (.dict (dput (seen.filter (notK "levels")) "levels" r),.own) σ:=by
 have hF:(seen.filter (notK "levels")).length < Zc:=by have:=S.sz;have:=List.length_filter_le (notK "levels") seen;unfold Zc;omega
 have q1:k'≠"NULL"∧k'≠"character":=by
  simp only [List.mem_cons,List.not_mem_nil,or_false] at hk';rcases hk' with rfl | rfl | rfl | rfl<;>exact ⟨by decide +kernel,by decide +kernel⟩
 rw [Ql G σ S k n hk "levels" (by decide +kernel)]
 conv=>lhs;whnf
 rw [dF q1.1]
 conv=>lhs;whnf
 rw [dF q1.2]
 conv=>lhs;whnf
 refine Zb _ hv ?_;refine Eq.trans (b:=(if (seen.filter (notK "levels")).length < Zc then pure (T.dict (dput (seen.filter (notK "levels")) "levels" r),Kd.own) else stuck:M (T×Kd)) σ) (by kernel_rfl) ?_;rw [if_pos hF];rfl
theorem Zps (k':Str)(hk':k'≠"NULL")(us:List T)(a r:T)(hv:G "_law_view" [.vec k' us a] σ=.ok (r,.val) σ):Ze G "_law_set" [.dict seen,.str k,.int n,.str "unit",.vec k' us a] σ=.ok (.dict (dput (seen.filter (notK "unit")) "unit" r),.own) σ:=by
 have hF:(seen.filter (notK "unit")).length < Zc:=by have:=S.sz;have:=List.length_filter_le (notK "unit") seen;unfold Zc;omega
 rw [Ql G σ S k n hk "unit" (by decide +kernel)]
 conv=>lhs;whnf
 rw [dF hk']
 conv=>lhs;whnf
 refine Zb _ hv ?_;refine Eq.trans (b:=(if (seen.filter (notK "unit")).length < Zc then pure (T.dict (dput (seen.filter (notK "unit")) "unit" r),Kd.own) else stuck:M (T×Kd)) σ) (by kernel_rfl) ?_;rw [if_pos hF];rfl
theorem Zp9 (k':Str)(hk':k'≠"NULL")(hk2:k'≠"character")(us:List T)(a:T):Ze G "_law_set" [.dict seen,.str k,.int n,.str "class",.vec k' us a] σ=.ok (.str "attempt to set invalid 'class' attribute",.val) σ:=by
 rw [Ql G σ S k n hk "class" (by decide +kernel)]
 conv=>lhs;whnf
 rw [dF hk']
 conv=>lhs;whnf
 rw [dF hk2];rfl
theorem Zqa (a:T):Ze G "_law_set" [.dict seen,.str k,.int n,.str "class",.vec "character" [] a] σ=.ok (.dict (seen.filter (notK "class")),.own) σ:=by
 rw [Ql G σ S k n hk "class" (by decide +kernel)];rfl
theorem Zqb (u:T)(us:List T)(a r:T)(hus:(u::us).all Q9=true)(hv:G "_law_view" [.vec "character" (u::us) a] σ=.ok (r,.val) σ):Ze G "_law_set" [.dict seen,.str k,.int n,.str "class",.vec "character" (u::us) a] σ=if (u::us).any (isK "factor")=true∧k≠"integer" then .ok (.str "adding class \"factor\" to an invalid object",.val) σ else .ok (.dict (dput (seen.filter (notK "class")) "class" r),.own) σ:=by
 have hF:(seen.filter (notK "class")).length < Zc:=by have:=S.sz;have:=List.length_filter_le (notK "class") seen;unfold Zc;omega
 rw [Ql G σ S k n hk "class" (by decide +kernel)]
 conv=>lhs;whnf
 refine Zb _ (Ztt (x:="factor") (us:=u::us) _ _ (by simp) hus) ?_
 cases hb:(u::us).any (isK "factor") with
 |false=>
  rw [if_neg (by simp)];refine Eq.trans (b:=(G "_law_view" [.vec "character" (u::us) a]>>=fun v=>solid v>>=fun v=>if (seen.filter (notK "class")).length < Zc then pure (T.dict (dput (seen.filter (notK "class")) "class" v.1),Kd.own) else stuck:M (T×Kd)) σ) (by kernel_rfl) ?_;rw [Zh hv,Zh (show solid (r,Kd.val) σ=.ok (r,Kd.val) σ from rfl),if_pos hF];rfl
 |true=>
  refine Eq.trans (b:=(if (!decide (k=("integer":Str)))=true then pure (T.str "adding class \"factor\" to an invalid object",Kd.val) else G "_law_view" [.vec "character" (u::us) a]>>=fun v=>solid v>>=fun v=>if (seen.filter (notK "class")).length < Zc then pure (T.dict (dput (seen.filter (notK "class")) "class" v.1),Kd.own) else stuck:M (T×Kd)) σ) (by kernel_rfl) ?_
  by_cases hi:k="integer"
  ·rw [if_neg (by rw [dT hi];simp),if_neg (fun q=>q.2 hi),Zh hv];rw [Zh (show solid (r,Kd.val) σ=.ok (r,Kd.val) σ from rfl),if_pos hF];rfl
  ·rw [if_pos (by rw [dF hi];rfl),if_pos ⟨rfl,hi⟩];rfl
end
end
def lrK (G:Calls):Out→Lv→M (T×Kd):=fun o L'=>match o with
 |.next=>cSs G ((Zs "_law_set").drop 9) L' (fun o _=>outT o)
 |o=>outT o
section
variable (G:Calls)(σ:Sg){seen:List (Str×T)}{lk:Lk}(S:Seen seen lk)(k:Str)(n:Nat)(hk:k≠"NULL")
include S hk
theorem Zi2 (k':Str)(hk':k'="logical"∨k'="list")(us:List T)(a:T):Ze G "_law_set" [.dict seen,.str k,.int n,.str "row.names",.vec k' us a] σ=.ok (.str ("row names must be 'character' or 'integer', not '"++k'++"'"),.val) σ:=by
 rw [Ql G σ S k n hk "row.names" (by decide +kernel)];rcases hk' with rfl | rfl<;>kernel_rfl
theorem Zpv (us:List T)(a:T):Ze G "_law_set" [.dict seen,.str k,.int n,.str "row.names",.vec "character" us a] σ=.ok (.dict (dput (seen.filter (notK "row.names")) "row.names" (.tup [.str "character",.list us,.dict []])),.own) σ:=by
 have hF:(seen.filter (notK "row.names")).length < Zc:=by have:=S.sz;have:=List.length_filter_le (notK "row.names") seen;unfold Zc;omega
 rw [Ql G σ S k n hk "row.names" (by decide +kernel)];refine Eq.trans (b:=(if (seen.filter (notK "row.names")).length < Zc then pure (T.dict (dput (seen.filter (notK "row.names")) "row.names" (.tup [.str "character",.list us,.dict []])),Kd.own) else stuck:M (T×Kd)) σ) (by kernel_rfl) ?_;rw [if_pos hF];rfl
theorem Zpt (l:List (Option Int))(a:T)(hx:∀x,some x∈l→x.natAbs < 900):Ze G "_law_set" [.dict seen,.str k,.int n,.str "row.names",.vec "integer" (l.map optT) a] σ=.ok (.dict (dput (seen.filter (notK "row.names")) "row.names" (.tup [.str "integer",.list (rowI l),.dict []])),.own) σ:=by
 have hF:(seen.filter (notK "row.names")).length < Zc:=by have:=S.sz;have:=List.length_filter_le (notK "row.names") seen;unfold Zc;omega
 rw [Ql G σ S k n hk "row.names" (by decide +kernel)]
 by_cases hl:l.length=2
 ·obtain ⟨p,q,rfl⟩:∃p q,l=[p,q]:=by
   rcases l with _ | ⟨p,_ | ⟨q,_ | ⟨w,l⟩⟩⟩<;>simp at hl
   exact ⟨p,q,rfl⟩
  cases p with
  |some x=>
   refine Eq.trans (b:=(if (seen.filter (notK "row.names")).length < Zc then pure (T.dict (dput (seen.filter (notK "row.names")) "row.names" (.tup [.str "integer",.list (rowI [some x,q]),.dict []])),Kd.own) else stuck:M (T×Kd)) σ) (by cases q<;>kernel_rfl) ?_
   rw [if_pos hF];rfl
  |none=>
   cases q with
   |none=>
    refine Eq.trans (b:=(if (seen.filter (notK "row.names")).length < Zc then pure (T.dict (dput (seen.filter (notK "row.names")) "row.names" (.tup [.str "integer",.list (rowI [none,none]),.dict []])),Kd.own) else stuck:M (T×Kd)) σ) (by kernel_rfl) ?_;rw [if_pos hF];rfl
   |some x=>
    have hx':=hx x (by simp);have e:Z2 G "list" [(.range 1 ((x.natAbs:Int)+1),.val)] σ=.ok (.list ((Qa 1 ((x.natAbs:Int)+1)).map .int),.own) σ:=by
     show (if (Zj 1&&Zj ((x.natAbs:Int)+1)&&decide ((x.natAbs:Int)+1 - 1≤(Zc:Int)))=true then ownV (.list ((Qa 1 ((x.natAbs:Int)+1)).map .int)) else stuck) σ=_;rw [show Zj 1=true from by decide,Zco (by omega),dT (show (x.natAbs:Int)+1 - 1≤(Zc:Int) from by unfold Zc;omega)];rfl
    refine Eq.trans (b:=cSs G ((Ji ((Zs "_law_set")[8]?)).drop 3) { loc:=[("seen",.dict seen),("kind",.str k),("n",.int n),("name",.str "row.names"),("value",.vec "integer" ([none,some x].map optT) a),("items",.list ([none,some x].map optT))],own:=[("found",.dict (seen.filter (notK "row.names")),.own)],mv:=mvOf "_law_set",hot:=false } (lrK G) σ) (by kernel_rfl) ?_
    conv=>lhs;whnf
    refine Zb _ e ?_;refine Eq.trans (b:=(if (seen.filter (notK "row.names")).length < Zc then pure (T.dict (dput (seen.filter (notK "row.names")) "row.names" (.tup [.str "integer",.list ((Qa 1 ((x.natAbs:Int)+1)).map .int),.dict []])),Kd.own) else stuck:M (T×Kd)) σ) (by kernel_rfl) ?_;rw [if_pos hF];rfl
 ·have hrow:rowI l=l.map optT:=by
   rcases l with _ | ⟨p,_ | ⟨q,_ | ⟨w,l⟩⟩⟩
   ·rfl
   ·cases p<;>rfl
   ·exact absurd rfl hl
   ·cases p<;>cases q<;>rfl
  rw [hrow];refine Eq.trans (b:=(if (seen.filter (notK "row.names")).length < Zc then pure (T.dict (dput (seen.filter (notK "row.names")) "row.names" (.tup [.str "integer",.list (l.map optT),.dict []])),Kd.own) else stuck:M (T×Kd)) σ) ?_ ?_
  ·rcases l with _ | ⟨p,_ | ⟨q,_ | ⟨w,l⟩⟩⟩
   ·kernel_rfl
   ·kernel_rfl
   ·exact absurd rfl hl
   ·kernel_rfl
  ·rw [if_pos hF];rfl
theorem Zpu (l:List Nat)(a:T):Ze G "_law_set" [.dict seen,.str k,.int n,.str "row.names",.vec "double" (l.map Z5) a] σ=.ok (.dict (dput (seen.filter (notK "row.names")) "row.names" (.tup [.str "integer",.list (l.map fun _=>.none),.dict []])),.own) σ:=by
 have hF:(seen.filter (notK "row.names")).length < Zc:=by have:=S.sz;have:=List.length_filter_le (notK "row.names") seen;unfold Zc;omega
 have e:(l.map Z5).map (fun _=>T.none)=l.map fun _=>T.none:=by rw [List.map_map];rfl
 rw [Ql G σ S k n hk "row.names" (by decide +kernel)];refine Eq.trans (b:=cSs G ((Ji ((Zs "_law_set")[8]?)).drop 2) { loc:=[("seen",.dict seen),("kind",.str k),("n",.int n),("name",.str "row.names"),("value",.vec "double" (l.map Z5) a),("items",.list (l.map Z5))],own:=[("found",.dict (seen.filter (notK "row.names")),.own)],mv:=mvOf "_law_set",hot:=false } (lrK G) σ) (by kernel_rfl) ?_
 conv=>lhs;whnf
 rw [Qz (fun _=>T.none)]
 rotate_left
 ·intro t ht;rfl
 ·intro t ht;exact ⟨.val,by simp,rfl⟩
 rw [e];refine Eq.trans (b:=(if (seen.filter (notK "row.names")).length < Zc then pure (T.dict (dput (seen.filter (notK "row.names")) "row.names" (.tup [.str "integer",.list (l.map fun _=>.none),.dict []])),Kd.own) else stuck:M (T×Kd)) σ) ?_ ?_
 ·rcases l with _ | ⟨p,_ | ⟨q,_ | ⟨w,l⟩⟩⟩<;>kernel_rfl
 ·rw [if_pos hF];rfl
end
section
variable (d:Nat)(σ:Sg)
theorem Zhk (us:List T):Zd (d+1) "_law_view" [.vec "character" us .none] σ=.ok (vw0 (.vec "character" us .none),.val) σ:=by
 rw [Zf];exact Ze7 _ σ us
theorem Zhf:Zd (d+1) "_law_view" [.null] σ=.ok (vw0 .null,.val) σ:=by
 rw [Zf];exact Zlr _ σ
theorem Zhg (ps:List T)(h:Option (List T))(hp:∀t∈ps,t=.null∨∃us,t=.vec "character" us .none):Zd (d+2) "_law_view" [.vec "list" ps (Zx h)] σ=.ok (vw (.vec "list" ps (Zx h)),.val) σ:=by
 rw [Zf];refine Zls _ σ ps h (fun t ht=>?_) (fun hs _=>Zhk d σ hs);rcases hp t ht with rfl | ⟨us,rfl⟩
 ·exact Zhf d σ
 ·exact Zhk d σ us
theorem Zlu (v:Vl)(hn:v≠.nul):Zd (d+2) "_law_view" [v.t] σ=.ok (vw v.t,.val) σ:=by
 cases v with
 |chr us=>rw [Zf];exact Ze7 _ σ us
 |int l=>rw [Zf];exact Zhi _ σ _
 |dbl l=>rw [Zf];exact Zhj _ σ _
 |lgl l=>rw [Zf];exact Zhh _ σ _
 |lst ps h=>
  refine Zhg d σ _ h (fun t ht=>?_);obtain ⟨p,hp,rfl⟩:=List.mem_map.mp ht
  cases p with
  |none=>exact .inl rfl
  |some us=>exact .inr ⟨us,rfl⟩
 |nul=>exact absurd rfl hn
end
theorem Zfx {R:Res (T×Kd)}{σ:Sg}{seen:List (Str×T)}{lk:Lk}{e:Eff}(h:LRes R σ seen lk e):∃t kd,kd≠Kd.h∧R=.ok (t,kd) σ:=by
 cases e with
 |inl m=>exact ⟨_,_,by simp,h⟩
 |inr u=>
  obtain ⟨s2,kd,hk,e,_⟩:=h;exact ⟨_,_,hk,e⟩
theorem Zqc {R:Res (T×Kd)}{σ:Sg}{seen:List (Str×T)}{lk:Lk}(S:Seen seen lk)(h:R=.ok (.dict (ddel (seen.filter (notK "dim")) "dimnames"),.own) σ):LRes R σ seen lk (.inr [("dim",none),("dimnames",none)]):=by
 have nd:=Zb5 (notK "dim") S.nd;refine ⟨_,.own,by simp,h,Zev _ _ nd,fun y=>?_,?_⟩
 ·rw [Zew _ _ _ nd,Zch,Jq];have:=Zc2 seen (fun y:Str=>!decide (y=("dim":Str))) y;rw [show seen.filter (notK "dim")=seen.filter (fun p=>!decide (p.1=("dim":Str))) from rfl,this,S.at']
  by_cases h1:y="dim"
  ·subst h1;simp
  ·by_cases h2:y="dimnames"<;>simp [h1,h2]
 ·have h1:=Zkw (seen.filter (notK "dim")) "dimnames";have h2:=List.length_filter_le (notK "dim") seen;omega
theorem Zqd {R:Res (T×Kd)}{σ:Sg}{seen:List (Str×T)}{lk:Lk}(S:Seen seen lk){t t':T}(ht:vw t=t')(h:R=.ok (.dict (dput ((seen.filter (notK "dim")).filter q2) "dim" t'),.own) σ):LRes R σ seen lk (.inr [("dim",some t),("names",none),("dimnames",none)]):=by
 have nd:=Zb5 (notK "dim") S.nd;have nd2:=Zb5 q2 nd;refine ⟨_,.own,by simp,h,Zes _ _ _ nd2,fun y=>?_,?_⟩
 ·rw [Zda,Zch,Zch,Jq,←ht];have h1:=Zc2 seen (fun y:Str=>!decide (y=("dim":Str))) y;have h2:=Zc2 (seen.filter (notK "dim")) (fun y:Str=>!(decide (("names":Str)=y)||decide (("dimnames":Str)=y))) y;rw [show (seen.filter (notK "dim")).filter q2=(seen.filter (notK "dim")).filter (fun p=>!(decide (("names":Str)=p.1)||decide (("dimnames":Str)=p.1))) from rfl,h2,show seen.filter (notK "dim")=seen.filter (fun p=>!decide (p.1=("dim":Str))) from rfl,h1,S.at']
  by_cases e1:y="dim"
  ·subst e1;simp
  ·by_cases e2:y="names"
   ·subst e2;simp [e1]
   ·by_cases e3:y="dimnames"
    ·subst e3;simp [e1,e2]
    ·have e2':¬("names":Str)=y:=fun q=>e2 q.symm
     have e3':¬("dimnames":Str)=y:=fun q=>e3 q.symm
     simp [e1,e2,e3,e2',e3']
 ·have h1:=List.length_filter_le (notK "dim") seen;have h2:=List.length_filter_le q2 (seen.filter (notK "dim"));exact Nat.le_trans (Zbj _ _ _) (by omega)
section
variable (d:Nat)(σ:Sg){seen:List (Str×T)}{lk:Lk}(S:Seen seen lk)(k:Str)(n:Nat)(hk:k≠"NULL")(hn8:n≤8)
include S hk hn8
theorem Zni (name:Str)(hname:name∈(["names","dim","dimnames","class","levels","row.names","unit"]:List Str))(v:Vl)(hv:v.ok):LRes (Zd (d+4) "_law_set" [.dict seen,.str k,.int n,.str name,v.t] σ) σ seen lk (eff lk k n name v):=by
 simp only [List.mem_cons,List.not_mem_nil,or_false] at hname
 by_cases hnul:v=.nul
 ·subst hnul;rcases hname with rfl | rfl | rfl | rfl | rfl | rfl | rfl
  ·show LRes _ _ _ _ (Q2 lk n .nul);have q:=Zqw (G:=Zd (d+2)) σ S n hn8;rw [←Zf] at q;obtain ⟨t,kd,hkd,e⟩:=Zfx q;rw [e] at q;rw [Zf,show Vl.nul.t=.null from rfl,Zi3 _ σ k n hk .null t kd hkd e];exact q
  ·refine Zqc S ?_;rw [Zf];exact Zp2 _ σ S k n hk
  ·refine Zaz S (kd:=.own) (by simp) ?_;rw [Zf];exact Zp1 _ σ S k n hk
  ·refine Zaz S (kd:=.own) (by simp) ?_;rw [Zf];exact Zp3 _ σ S k n hk
  ·refine Zaz S (kd:=.own) (by simp) ?_;rw [Zf];exact Zp0 _ σ S k n hk
  ·refine Zaz S (kd:=.own) (by simp) ?_;rw [Zf];exact Zpz _ σ S k n hk
  ·refine Zaz S (kd:=.own) (by simp) ?_;rw [Zf];exact Zpy _ σ S k n hk
 ·obtain ⟨k',us,a,hk',e⟩:=Zck hnul;have hview:=Zlu (d+1) σ v hnul;rw [Zf];rcases hname with rfl | rfl | rfl | rfl | rfl | rfl | rfl
  ·show LRes _ _ _ _ (Q2 lk n v);have hw:=Zqt (d+1) σ v hv hnul;have q:LRes (Zd (d+3) "_law_names_set" [.dict seen,.int n,v.t] σ) σ seen lk (Q2 lk n v):=by
    rw [Zf]
    cases hws:Jb v with
    |none=>
     rw [hws] at hw;exact Zqz σ S n hn8 v hnul hws hw
    |some ws=>
     rw [hws] at hw
     by_cases hl:n < ws.length
     ·exact Zqx σ S n hn8 v hv hnul ws hws hl hw
     ·exact Zqy σ S n hn8 v hv hnul ws hws (by omega) hw
   obtain ⟨t,kd,hkd,e'⟩:=Zfx q;rw [e'] at q;rw [Zi3 _ σ k n hk v.t t kd hkd e'];exact q
  ·have he:eff lk k n "dim" v=match Jk v with
     |.inl m=>.inl m
     |.inr ds=>if Zo ds 1=(n:Int) then .inr [("dim",some (.vec "integer" (ds.map .int) .none)),("names",none),("dimnames",none)] else .inl (msgD (Zo ds 1) n):=by
    show Zb7 n v=_;cases v<;>first | exact absurd rfl hnul | rfl
   rw [he]
   have hd:Zd (d+3) "_law_dims" [v.t] σ=match Jk v with
     |.inl m=>.ok (.str m,.val) σ
     |.inr ds=>.ok (.list (ds.map .int),.own) σ:=by rw [Zf];exact Zq0 _ σ v hv hnul
   cases hdv:Jk v with
   |inl m=>
    rw [hdv,e] at hd;rw [e];exact Zp8 _ σ S k n hk k' us a hk' m hd
   |inr ds=>
    rw [hdv,e] at hd;obtain ⟨b1,b2,b3⟩:=Zgr hv hdv;obtain ⟨s1,s2⟩:=Zih b1 b2;have q:=Zp7 _ σ S k n hk k' us a hk' ds b3 s1 s2 (by omega) hd;rw [e,q];dsimp only
    by_cases hp:Zo ds 1=(n:Int)
    ·rw [if_pos hp,if_pos hp];exact Zqd S rfl rfl
    ·rw [if_neg hp,if_neg hp];rfl
  ·show LRes _ _ _ _ (Za6 lk v);have q:LRes (Zd (d+3) "_law_dimnames_set" [.dict seen,v.t] σ) σ seen lk (Za6 lk v):=by
    rw [Zf];exact Zq1 σ S v hv hnul
   obtain ⟨t,kd,hkd,e'⟩:=Zfx q;rw [e'] at q;rw [e] at e' ⊢;rw [Zp6 _ σ S k n hk k' us a hk' t kd hkd e'];exact q
  ·show LRes _ _ _ _ (Zer k v)
   cases v with
   |chr us'=>
    show LRes _ _ _ _ (if us'.length=0 then _ else if us'.any (isK "factor")=true∧k≠"integer" then _ else _)
    cases us' with
    |nil=>
     rw [if_pos (show ([]:List T).length=0 from rfl)];exact Zaz S (kd:=.own) (by simp) (Zqa _ σ S k n hk .none)
    |cons u r=>
     have hfl:(u::r).all Q9=true:=by
      rw [List.all_eq_true];intro t ht;rcases hv.2 t ht with rfl | ⟨x,rfl,_⟩<;>rfl
     rw [if_neg (by simp)];have q:=Zqb _ σ S k n hk u r .none _ hfl hview;rw [show (Vl.chr (u::r)).t=.vec "character" (u::r) .none from rfl,q]
     by_cases hc:(u::r).any (isK "factor")=true∧k≠"integer"
     ·rw [if_pos hc,if_pos hc];rfl
     ·rw [if_neg hc,if_neg hc];exact Zay S (kd:=.own) (by simp) rfl rfl
   |nul=>exact absurd rfl hnul
   |_=>exact Zp9 _ σ S k n hk _ (by decide +kernel) (by decide +kernel) _ _
  ·show LRes _ _ _ _ (Zeq v)
   cases v with
   |chr us'=>
    show LRes _ _ _ _ (match dupR [] us' with | some i=>_ | none=>_);have q:=Zp5 _ σ S k n hk us' .none _ hv.2 (by have:=hv.1;omega) hview;rw [show (Vl.chr us').t=.vec "character" us' .none from rfl,q]
    cases dupR [] us' with
    |some i=>rfl
    |none=>exact Zay S (kd:=.own) (by simp) rfl rfl
   |nul=>exact absurd rfl hnul
   |_=>exact Zay S (kd:=.own) (by simp) rfl (Zp4 _ σ S k n hk _ (by simp) _ _ _ hview)
  ·show LRes _ _ _ _ (Zeo v)
   cases v with
   |chr us'=>exact Zay S (kd:=.own) (by simp) rfl (Zpv _ σ S k n hk us' .none)
   |int l=>exact Zay S (kd:=.own) (by simp) rfl (Zpt _ σ S k n hk l .none (fun x hx=>by have:=hv.2 x hx;omega))
   |dbl l=>exact Zay S (kd:=.own) (by simp) rfl (Zpu _ σ S k n hk l .none)
   |lgl l=>exact Zi2 _ σ S k n hk _ (.inl rfl) _ _
   |lst ps h=>exact Zi2 _ σ S k n hk _ (.inr rfl) _ _
   |nul=>exact absurd rfl hnul
  ·have he:eff lk k n "unit" v=.inr [("unit",some v.t)]:=by
    show Zc5 v=_;cases v<;>first | exact absurd rfl hnul | rfl
   rw [he];rw [e] at hview ⊢;exact Zay S (kd:=.own) (by simp) rfl (Zps _ σ S k n hk k' hk' us a _ hview)
end
def lab0 (t:T):Prop:=t=.none∨∃x,t=.str x
def Zee (t:T):Prop:=t=.none∨(∃i,t=.int i)∨(∃x,t=.str x)∨∃i j,t=.tup [.int i,.int j]
def chrT (t:T):Prop:=∃us,t=.vec "character" us .none∧∀u∈us,lab0 u
def Good (t:T):Prop:=(∃(k':Str) (ts:List T),k'∈(["character","integer","double","logical"]:List Str)∧t=.vec k' ts .none∧∀u∈ts,Zee u) ∨
 (∃(ps:List T) (h:Option (List T)),t=.vec "list" ps (Zx h)∧(∀p∈ps,p=.null∨chrT p)∧∀hs,h=some hs→∀u∈hs,lab0 u)
structure Fit (y:Str) (t:T):Prop where
 good:Good t
 names:y="names"→chrT t
 dim:y="dim"→∃ds:List Int,ds≠[]∧ds.length≤10∧t=.vec "integer" (ds.map .int) .none
 dimn:y="dimnames"→∃p ps h,t=.vec "list" (p::ps) (Zx h)∧∀q∈p::ps,q=.null∨chrT q
 cls:y="class"→∃u us,t=.vec "character" (u::us) .none∧∀w∈u::us,lab0 w
def Qu (lk:Lk):Prop:=∀y t,lk y=some t→Fit y t
theorem Zrd {t:T}(h:lab0 t):Zee t:=by
 rcases h with rfl | ⟨x,rfl⟩
 ·exact .inl rfl
 ·exact .inr (.inr (.inl ⟨x,rfl⟩))
theorem Za0 {t:T}(h:labT t):lab0 t:=by
 rcases h with rfl | ⟨x,rfl,_⟩
 ·exact .inl rfl
 ·exact .inr ⟨x,rfl⟩
theorem Zgz {t:T}(h:chrT t):Good t:=by
 obtain ⟨us,rfl,hu⟩:=h;exact .inl ⟨_,us,by simp,rfl,fun u hm=>Zrd (hu u hm)⟩
theorem Zsb {t:T}(h:chrT t):Fit "names" t:=
 ⟨Zgz h,fun _=>h,fun e=>absurd e (by decide +kernel),fun e=>absurd e (by decide +kernel),fun e=>absurd e (by decide +kernel)⟩
theorem Zsc {ds:List Int}(h1:ds≠[])(h2:ds.length≤10):Fit "dim" (.vec "integer" (ds.map .int) .none):=
 ⟨.inl ⟨_,_,by simp,rfl,fun u hu=>by obtain ⟨i,_,rfl⟩:=List.mem_map.mp hu;exact .inr (.inl ⟨i,rfl⟩)⟩,fun e=>absurd e (by decide +kernel),fun _=>⟨ds,h1,h2,rfl⟩,fun e=>absurd e (by decide +kernel),fun e=>absurd e (by decide +kernel)⟩
theorem Zj5 {p:T}{ps:List T}{h:Option (List T)}(h1:∀q∈p::ps,q=.null∨chrT q)(h2:∀hs,h=some hs→∀u∈hs,lab0 u):Fit "dimnames" (.vec "list" (p::ps) (Zx h)):=
 ⟨.inr ⟨_,h,rfl,h1,h2⟩,fun e=>absurd e (by decide +kernel),fun e=>absurd e (by decide +kernel),fun _=>⟨p,ps,h,rfl,h1⟩,fun e=>absurd e (by decide +kernel)⟩
theorem Zsd {u:T}{us:List T}(h:∀w∈u::us,lab0 w):Fit "class" (.vec "character" (u::us) .none):=
 ⟨Zgz ⟨_,rfl,h⟩,fun e=>absurd e (by decide +kernel),fun e=>absurd e (by decide +kernel),fun e=>absurd e (by decide +kernel),fun _=>⟨u,us,rfl,h⟩⟩
theorem Zb4 {y:Str}{t:T}(hy:y∈(["levels","row.names","unit"]:List Str))(h:Good t):Fit y t:=by
 simp only [List.mem_cons,List.not_mem_nil,or_false] at hy;rcases hy with rfl | rfl | rfl
 all_goals exact ⟨h,fun e=>absurd e (by decide +kernel),fun e=>absurd e (by decide +kernel),fun e=>absurd e (by decide +kernel),fun e=>absurd e (by decide +kernel)⟩
theorem Zdl {v:Vl}(hv:v.ok)(hn:v≠.nul):Good v.t:=by
 cases v with
 |chr us=>exact Zgz ⟨us,rfl,fun u hu=>Za0 (hv.2 u hu)⟩
 |int l=>
  refine .inl ⟨_,_,by simp,rfl,fun u hu=>?_⟩;obtain ⟨o,_,rfl⟩:=List.mem_map.mp hu
  cases o with
  |none=>exact .inl rfl
  |some i=>exact .inr (.inl ⟨i,rfl⟩)
 |lgl l=>
  refine .inl ⟨_,_,by simp,rfl,fun u hu=>?_⟩;obtain ⟨o,_,rfl⟩:=List.mem_map.mp hu
  cases o with
  |none=>exact .inl rfl
  |some i=>exact .inr (.inl ⟨i,rfl⟩)
 |dbl l=>
  refine .inl ⟨_,_,by simp,rfl,fun u hu=>?_⟩;obtain ⟨o,_,rfl⟩:=List.mem_map.mp hu;exact .inr (.inr (.inr ⟨_,_,rfl⟩))
 |lst ps h=>
  refine .inr ⟨_,h,rfl,fun p hp=>?_,fun hs e u hu=>Za0 ((hv.2.2 hs e).2 u hu)⟩;obtain ⟨o,ho,rfl⟩:=List.mem_map.mp hp
  cases o with
  |none=>exact .inl rfl
  |some us=>exact .inr ⟨us,rfl,fun u hu=>Za0 ((hv.2.1 us ho).2 u hu)⟩
 |nul=>exact absurd rfl hn
theorem Zlp {v:Vl}(hv:v.ok){ws:List T}(h:Jb v=some ws):∀u∈ws,lab0 u:=by
 have hh:∀(f:T→T) (l:List T),(∀t,f t=.none∨∃x,f t=.str x)→∀u∈l.map f,lab0 u:=fun f l hf u hu=>by
  obtain ⟨t,_,rfl⟩:=List.mem_map.mp hu;exact hf t
 cases v with
 |chr us=>cases h;exact fun u hu=>Za0 (hv.2 u hu)
 |int l=>cases h;exact hh hI _ (fun t=>by cases t<;>first | exact .inl rfl | exact .inr ⟨_,rfl⟩)
 |lgl l=>cases h;exact hh hL _ (fun t=>by cases t<;>first | exact .inl rfl | exact .inr ⟨_,rfl⟩)
 |dbl l=>
  cases h;intro u hu;obtain ⟨t,ht,rfl⟩:=List.mem_map.mp hu;obtain ⟨s,_,rfl⟩:=List.mem_map.mp ht;exact .inr ⟨_,rfl⟩
 |lst ps hh'=>
  have e:Qk ps []=some ws:=h;rw [Ze6] at e;split at e
  ·rename_i hall;cases e;intro u hu;rw [List.nil_append] at hu;obtain ⟨t,ht,rfl⟩:=List.mem_map.mp hu;obtain ⟨p,hp,rfl⟩:=List.mem_map.mp ht;have:=List.all_eq_true.mp hall p hp;rcases p with _ | _ | ⟨w,r⟩
   ·cases this
   ·cases this
   ·exact Za0 ((hv.2.1 (w::r) hp).2 w (by simp))
  ·cases e
 |nul=>cases h
theorem Zhv {lk:Lk}{u:List (Str×Option T)}(S:Qu lk)(h:∀y t,u.lookup y=some (some t)→Fit y t):Qu (app u lk):=by
 intro y t e;unfold app at e
 cases hu:u.lookup y with
 |none=>rw [hu] at e;exact S y t e
 |some r=>
  rw [hu] at e;dsimp only at e;subst e;exact h y t hu
theorem Zae {lk:Lk}{x:Str}(S:Qu lk):Qu (app [(x,none)] lk):=by
 intro y t e;rw [Jq] at e;split at e
 ·cases e
 ·exact S y t e
theorem Zad {lk:Lk}{x:Str}{t:T}(S:Qu lk)(h:Fit x t):Qu (app [(x,some t)] lk):=by
 intro y t' e;rw [Jq] at e;split at e
 ·rename_i hy;subst hy;cases e;exact h
 ·exact S y t' e
theorem Zat {lk:Lk}(S:Qu lk):lk "dim"=none∨∃ds:List Int,ds≠[]∧ds.length≤10∧lk "dim"=some (.vec "integer" (ds.map .int) .none):=by
 cases h:lk "dim" with
 |none=>exact .inl rfl
 |some t=>
  obtain ⟨ds,h1,h2,rfl⟩:=(S _ t h).dim rfl;exact .inr ⟨ds,h1,h2,rfl⟩
theorem Zgq:∀(ps:List (Option (List T))) (ds:List Int) (i:Nat) (acc acc':List T),dnS ps ds i acc=.inr acc'→(∀us,some us∈ps→∀u∈us,lab0 u)→(∀t∈acc,t=.null∨chrT t)→∀t∈acc',t=.null∨chrT t
 |ps,[],i,acc,acc',h,_,ha=>by
  have e:acc=acc':=by cases ps<;>exact Sum.inr.inj h
  subst e;exact ha
 |[],e::r,i,acc,acc',h,hp,ha=>by
  have h':dnS [] r (i+1) (acc++[.null])=.inr acc':=h;exact Zgq [] r (i+1) _ acc' h' hp (fun t ht=>by
   rcases List.mem_append.mp ht with q | q
   ·exact ha t q
   ·exact .inl (List.mem_singleton.mp q))
 |p::ps,e::r,i,acc,acc',h,hp,ha=>by
  have h':(match Qc p e i with
   |.inl m=>.inl m
   |.inr t=>dnS ps r (i+1) (acc++[thin t]):Str ⊕ List T)=.inr acc':=h
  cases hs:Qc p e i with
  |inl m=>rw [hs] at h';exact nomatch h'
  |inr t=>
   rw [hs] at h';have ht:thin t=.null∨chrT (thin t):=by
    unfold Qc at hs
    cases p with
    |none=>
     have:=Sum.inr.inj hs;subst this;exact .inl rfl
    |some us=>
     dsimp only at hs;split at hs
     ·exact nomatch hs
     ·have:=Sum.inr.inj hs;subst this
      cases us with
      |nil=>exact .inl rfl
      |cons u us=>exact .inr ⟨_,rfl,hp _ (by simp)⟩
   exact Zgq ps r (i+1) _ acc' h' (fun us hu=>hp us (by simp [hu])) (fun t ht'=>by
    rcases List.mem_append.mp ht' with q | q
    ·exact ha t q
    ·rw [List.mem_singleton.mp q];exact ht)
theorem Ztj {lk:Lk}(S:Qu lk){ds:List T}(h:dimL lk=some ds):ds≠[]:=by
 rcases Zat S with h1 | ⟨DS,h1,h2,h3⟩
 ·unfold dimL at h;rw [h1] at h;cases h
 ·unfold dimL at h;rw [h3] at h;cases h;simpa using h1
theorem Zs1 {lk:Lk}{k:Str}{n:Nat}{name:Str}{v:Vl}(S:Qu lk)(hv:v.ok)(hname:name∈(["names","dim","dimnames","class","levels","row.names","unit"]:List Str)){u:List (Str×Option T)}(h:eff lk k n name v=.inr u):Qu (app u lk):=by
 simp only [List.mem_cons,List.not_mem_nil,or_false] at hname;have pad0:∀(ws:List T) (m:Nat),(∀u∈ws,lab0 u)→∀u∈ws++List.replicate m T.none,lab0 u:=fun ws m hw u hu=>by
  rcases List.mem_append.mp hu with q | q
  ·exact hw u q
  ·exact .inl (List.eq_of_mem_replicate q)
 rcases hname with rfl | rfl | rfl | rfl | rfl | rfl | rfl
 ·have h:Q2 lk n v=.inr u:=h
  by_cases hn:v=.nul
  ·subst hn;have:=Sum.inr.inj h;subst this;exact Zae S
  ·rw [Zep n hn] at h
   cases hw:Jb v with
   |none=>rw [hw] at h;exact nomatch h
   |some ws=>
    rw [hw] at h;dsimp only at h;split at h
    ·exact nomatch h
    ·have:=Sum.inr.inj h;subst this;refine Zad S ?_;have hlab:=pad0 ws (n - ws.length) (Zlp hv hw);unfold Q7 Zak
     by_cases hb:Jg lk=true
     ·rw [if_pos hb,if_pos hb];exact Zj5 (h:=none) (fun q hq=>.inr (by rw [List.mem_singleton.mp hq];exact ⟨_,rfl,hlab⟩)) (fun hs e=>nomatch e)
     ·rw [if_neg hb,if_neg hb];exact Zsb ⟨_,rfl,hlab⟩
 ·have h:Zb7 n v=.inr u:=h
  by_cases hn:v=.nul
  ·subst hn;have:=Sum.inr.inj h;subst this;refine Zhv S (fun y t e=>?_);simp only [List.lookup_cons,List.lookup_nil] at e;split at e
   ·cases e
   ·split at e<;>cases e
  ·have he:Zb7 n v=match Jk v with
     |.inl m=>.inl m
     |.inr ds=>if Zo ds 1=(n:Int) then .inr [("dim",some (.vec "integer" (ds.map .int) .none)),("names",none),("dimnames",none)] else .inl (msgD (Zo ds 1) n):=by
    cases v<;>first | exact absurd rfl hn | rfl
   rw [he] at h
   cases hd:Jk v with
   |inl m=>rw [hd] at h;exact nomatch h
   |inr ds=>
    rw [hd] at h;dsimp only at h;split at h
    ·have:=Sum.inr.inj h;subst this;obtain ⟨b1,b2,b3⟩:=Zgr hv hd;refine Zhv S (fun y t e=>?_);simp only [List.lookup_cons,List.lookup_nil] at e;split at e
     ·rename_i hy;have hy:=beq_iff_eq.mp hy;subst hy;cases e;exact Zsc b3 b2
     ·split at e
      ·cases e
      ·split at e<;>cases e
    ·exact nomatch h
 ·have h:Za6 lk v=.inr u:=h
  by_cases hn:v=.nul
  ·subst hn;have:=Sum.inr.inj h;subst this;exact Zae S
  ·rw [Zkl hn] at h
   cases hdl:dimL lk with
   |none=>rw [hdl] at h;exact nomatch h
   |some ds=>
    rw [hdl] at h;have hds:=Ztj S hdl
    cases v with
    |lst ps hh=>
     dsimp only at h;split at h
     ·have:=Sum.inr.inj h;subst this;exact Zae S
     ·split at h
      ·exact nomatch h
      ·cases hdn:dnS ps (Zal ds) 0 [] with
       |inl m=>rw [hdn] at h;exact nomatch h
       |inr acc=>
        rw [hdn] at h;dsimp only at h;split at h
        ·have:=Sum.inr.inj h;subst this;refine Zad S ?_;have hlen:=(Zet ps (Zal ds) 0 [] acc hdn (fun t ht=>absurd ht List.not_mem_nil)).2;have hlab:=Zgq ps (Zal ds) 0 [] acc hdn (fun us hu u huu=>Za0 ((hv.2.1 us hu).2 u huu)) (fun t ht=>absurd ht List.not_mem_nil)
         cases acc with
         |nil=>
          exfalso;unfold Zal at hlen;simp only [List.length_nil,List.length_map] at hlen;exact hds (List.length_eq_zero_iff.mp (by omega))
         |cons p r=>
          refine Zj5 hlab (fun hs e u hu=>?_);unfold padH at e
          cases hh with
          |none=>cases e
          |some hs0=>
           cases e;rcases List.mem_append.mp hu with q | q
           ·exact Za0 ((hv.2.2 hs0 rfl).2 u q)
           ·exact .inr ⟨_,List.eq_of_mem_replicate q⟩
        ·have:=Sum.inr.inj h;subst this;exact Zae S
    |nul=>exact absurd rfl hn
    |_=>exact nomatch h
 ·have h:Zer k v=.inr u:=h
  cases v with
  |nul=>have:=Sum.inr.inj h;subst this;exact Zae S
  |chr us=>
   have h:(if us.length=0 then .inr [("class",none)] else if us.any (isK "factor")=true∧k≠"integer" then .inl "adding class \"factor\" to an invalid object" else .inr [("class",some (.vec "character" us .none))]:Eff)=.inr u:=h
   by_cases h0:us.length=0
   ·rw [if_pos h0] at h;have:=Sum.inr.inj h;subst this;exact Zae S
   ·rw [if_neg h0] at h;split at h
    ·exact nomatch h
    ·have:=Sum.inr.inj h;subst this;refine Zad S ?_
     cases us with
     |nil=>exact absurd rfl h0
     |cons w r=>exact Zsd (fun u hu=>Za0 (hv.2 u hu))
  |_=>exact nomatch h
 ·have h:Zeq v=.inr u:=h
  cases v with
  |nul=>have:=Sum.inr.inj h;subst this;exact Zae S
  |chr us=>
   have h:(match dupR [] us with
    |some i=>.inl (msgL i)
    |none=>.inr [("levels",some (.vec "character" us .none))]:Eff)=.inr u:=h
   split at h
   ·exact nomatch h
   ·have:=Sum.inr.inj h;subst this;exact Zad S (Zb4 (by simp) (Zdl (v:=.chr us) hv (by simp)))
  |_=>
   have:=Sum.inr.inj h;subst this;exact Zad S (Zb4 (by simp) (Zdl hv (by simp)))
 ·have h:Zeo v=.inr u:=h
  cases v with
  |nul=>have:=Sum.inr.inj h;subst this;exact Zae S
  |chr us=>
   have:=Sum.inr.inj h;subst this;exact Zad S (Zb4 (by simp) (Zdl (v:=.chr us) hv (by simp)))
  |int l=>
   have:=Sum.inr.inj h;subst this;refine Zad S (Zb4 (by simp) (.inl ⟨_,_,by simp,rfl,fun u hu=>?_⟩));have gen:∀u∈l.map optT,Zee u:=fun u hu=>by
    obtain ⟨o,_,rfl⟩:=List.mem_map.mp hu
    cases o with
    |none=>exact .inl rfl
    |some i=>exact .inr (.inl ⟨i,rfl⟩)
   have hr:rowI l=l.map optT∨∃x:Int,rowI l=(Qa 1 x).map .int:=by
    rcases l with _ | ⟨p,_ | ⟨q,_ | ⟨w,l⟩⟩⟩
    ·exact .inl rfl
    ·cases p<;>exact .inl rfl
    ·cases p<;>cases q<;>first | exact .inl rfl | exact .inr ⟨_,rfl⟩
    ·cases p<;>cases q<;>exact .inl rfl
   rcases hr with hr | ⟨x,hr⟩
   ·rw [hr] at hu;exact gen u hu
   ·rw [hr] at hu;obtain ⟨i,_,rfl⟩:=List.mem_map.mp hu;exact .inr (.inl ⟨i,rfl⟩)
  |dbl l=>
   have:=Sum.inr.inj h;subst this;refine Zad S (Zb4 (by simp) (.inl ⟨_,_,by simp,rfl,fun u hu=>?_⟩));obtain ⟨o,_,rfl⟩:=List.mem_map.mp hu;exact .inl rfl
  |_=>exact nomatch h
 ·have h:Zc5 v=.inr u:=h
  cases v with
  |nul=>have:=Sum.inr.inj h;subst this;exact Zae S
  |_=>
   have:=Sum.inr.inj h;subst this;exact Zad S (Zb4 (by simp) (Zdl hv (by simp)))
theorem Zgk {f:T→T→Option Bool}:∀{l:List T},(∀a∈l,f a a=some true)→eqTs f l l=some true
 |[],_=>rfl
 |a::r,h=>by
  show (match f a a with | some true=>eqTs f r r | some false=>_ | none=>_)=_;rw [h a (by simp)];exact Zgk fun b hb=>h b (by simp [hb])
theorem Zgl {f:T→T→Option Bool}{es2:List (Str×T)}:∀{es:List (Str×T)},(∀p∈es,∃b,es2.lookup p.1=some b∧f p.2 b=some true)→eqD f es es2=some true
 |[],_=>rfl
 |p::r,h=>by
  obtain ⟨k,a⟩:=p;obtain ⟨b,h1,h2⟩:=h (k,a) (by simp);show (match es2.lookup k with | some b=>(match f a b with | some true=>eqD f r es2 | some false=>_ | none=>_) | none=>_)=_;rw [h1];dsimp only;rw [h2];exact Zgl fun q hq=>h q (by simp [hq])
theorem Zek (m:Nat)(x:Str):eqT (m+1) (.str x) (.str x)=some true:=by
 show some (decide (x=x))=_;rw [dT rfl]
theorem Zbi {m:Nat}{l:List T}(h:∀a∈l,eqT m a a=some true):eqT (m+1) (.list l) (.list l)=some true:=by
 show (if l.length=l.length then eqTs (eqT m) l l else some false)=_;rw [if_pos rfl,Zgk h]
theorem Zke {m:Nat}{l:List T}(h:∀a∈l,eqT m a a=some true):eqT (m+1) (.tup l) (.tup l)=some true:=by
 show (if l.length=l.length then eqTs (eqT m) l l else none)=_;rw [if_pos rfl,Zgk h]
theorem Zgj (m:Nat)(i:Int):eqT (m+1) (.int i) (.int i)=some true:=by
 show some (decide (i=i))=_;rw [dT rfl]
theorem Zss {m:Nat}{t:T}(h:Zee t):eqT (m+2) t t=some true:=by
 rcases h with rfl | ⟨i,rfl⟩ | ⟨x,rfl⟩ | ⟨i,j,rfl⟩
 ·rfl
 ·exact Zgj _ i
 ·exact Zek _ x
 ·refine Zke fun a ha=>?_
  simp only [List.mem_cons,List.not_mem_nil,or_false] at ha;rcases ha with rfl | rfl<;>exact Zgj _ _
theorem Zkh {m:Nat}{t:T}(h:lab0 t):eqT (m+1) t t=some true:=by
 rcases h with rfl | ⟨x,rfl⟩
 ·rfl
 ·exact Zek _ x
theorem Zgh {m:Nat}{k:Str}{ts:List T}{es:List (Str×T)}(h1:eqT (m+1) (.list ts) (.list ts)=some true)(h2:eqT (m+1) (.dict es) (.dict es)=some true):eqT (m+2) (.tup [.str k,.list ts,.dict es]) (.tup [.str k,.list ts,.dict es])=some true:=by
 refine Zke fun a ha=>?_
 simp only [List.mem_cons,List.not_mem_nil,or_false] at ha;rcases ha with rfl | rfl | rfl
 ·exact Zek _ k
 ·exact h1
 ·exact h2
theorem Zkg {m:Nat}{t:T}(h:t=.null∨chrT t):eqT (m+4) (vw0 t) (vw0 t)=some true:=by
 rcases h with rfl | ⟨us,rfl,hu⟩
 ·exact Zek _ _
 ·exact Zgh (Zbi fun a ha=>Zkh (hu a ha)) rfl
theorem Zsq {m:Nat}{t:T}(h:Good t):eqT (m+7) (vw t) (vw t)=some true:=by
 rcases h with ⟨k',ts,hk,rfl,hu⟩ | ⟨ps,h,rfl,hp,hh⟩
 ·have e:vw (.vec k' ts .none)=.tup [.str k',.list ts,.dict []]:=by
   simp only [List.mem_cons,List.not_mem_nil,or_false] at hk;rcases hk with rfl | rfl | rfl | rfl<;>rfl
  rw [e];exact Zgh (Zbi fun a ha=>Zss (hu a ha)) rfl
 ·have e:vw (.vec "list" ps (Zx h))=.tup [.str "list",.list (ps.map vw0),.dict (vwA (Zx h))]:=rfl;rw [e];refine Zgh (Zbi fun a ha=>?_) ?_
  ·obtain ⟨p,hpp,rfl⟩:=List.mem_map.mp ha;exact Zkg (m:=m+1) (hp p hpp)
  ·cases h with
   |none=>rfl
   |some hs=>
    have hq:eqT (m+5) (vw0 (.vec "character" hs .none)) (vw0 (.vec "character" hs .none))=some true:=Zkg (m:=m+1) (.inr ⟨hs,rfl,hh hs rfl⟩);show (if 1=1 then eqD (eqT (m+5)) [("names",vw0 (.vec "character" hs .none))] [("names",vw0 (.vec "character" hs .none))] else some false)=_;rw [if_pos rfl];exact Zgl fun p hp=>by
     rw [List.mem_singleton] at hp;subst hp;exact ⟨_,rfl,hq⟩
theorem Zkv:∀(es:List (Str×T)) (k:Str),(es.lookup k).isSome=true→(ddel es k).length+1=es.length
 |[],k,h=>by cases h
 |(k',t)::r,k,h=>by
  unfold ddel
  by_cases hk:k'=k
  ·rw [if_pos hk];rfl
  ·rw [if_neg hk,List.length_cons,List.length_cons];rw [List.lookup_cons] at h;have:(k == k')=false:=by
    rw [beq_eq_false_iff_ne];exact fun e=>hk e.symm
   rw [this] at h;rw [Zkv r k h]
theorem Zfz:∀(l1 l2:List (Str×T)),(l1.map (·.1)).Nodup→(l2.map (·.1)).Nodup→(∀y,(l1.lookup y).isSome=true→(l2.lookup y).isSome=true)→l1.length≤l2.length
 |[],l2,_,_,_=>Nat.zero_le _
 |(k,t)::r,l2,h1,h2,h=>by
  rw [List.map_cons,List.nodup_cons] at h1;have hk:(l2.lookup k).isSome=true:=h k (by rw [List.lookup_cons];simp);have hl:=Zkv l2 k hk;have:=Zfz r (ddel l2 k) h1.2 (Zev l2 k h2) (fun y hy=>by
   rw [Zew _ _ _ h2]
   by_cases e:y=k
   ·subst e;rw [Zi5 h1.1] at hy;cases hy
   ·rw [if_neg e];refine h y ?_;rw [List.lookup_cons];have:(y == k)=false:=by simpa using e
    rw [this];exact hy)
  rw [List.length_cons];omega
theorem Zlt {es seen:List (Str×T)}(h1:(es.map (·.1)).Nodup)(h2:(seen.map (·.1)).Nodup)(h:∀y,seen.lookup y=(es.lookup y).map vw)(hg:∀y t,es.lookup y=some t→Good t):eqT eqN (.dict (es.map fun p=>(p.1,vw p.2))) (.dict seen)=some true:=by
 have hl:(es.map fun p=>(p.1,vw p.2)).length=seen.length:=by
  rw [List.length_map];refine Nat.le_antisymm (Zfz es seen h1 h2 fun y hy=>?_) (Zfz seen es h2 h1 fun y hy=>?_)
  ·rw [h];cases hq:es.lookup y with
   |none=>rw [hq] at hy;cases hy
   |some t=>rfl
  ·rw [h] at hy;cases hq:es.lookup y with
   |none=>rw [hq] at hy;cases hy
   |some t=>rfl
 show (if (es.map fun p=>(p.1,vw p.2)).length=seen.length then eqD (eqT 8) (es.map fun p=>(p.1,vw p.2)) seen else some false)=_;rw [if_pos hl];refine Zgl fun q hq=>?_
 obtain ⟨p,hp,rfl⟩:=List.mem_map.mp hq;have e:=Jt h1 hp;exact ⟨vw p.2,by dsimp only;rw [h,e];rfl,Zsq (m:=1) (hg _ _ e)⟩
def Zr (r:List Int):Prop:=∀x∈r,0≤x∧x < 1024
abbrev RW (r:List Int)(s:Option SelfSt):Sg:=⟨some r,s⟩
def Ze2 (G:Calls)(s:Option SelfSt):Prop:=∀r,Zr r→∃x r',(0≤x∧x < 1024)∧Zr r'∧G "_law_next" [.row] (RW r s)=.ok (.int x,.val) (RW r' s)
theorem Qt {x y:Int}(hx:0≤x)(hy:0 < y):∃j:Nat,Int.fmod x y=(j:Int)∧(j:Int) < y:=by
 have h1:0≤Int.fmod x y:=Int.fmod_nonneg_of_pos x hy;have h2:Int.fmod x y < y:=Int.fmod_lt_of_pos x hy;exact ⟨(Int.fmod x y).toNat,by omega,by omega⟩
theorem Zvc {x y:Int}(hy:y≠0):binT .Mod (.int x) (.int y)=some (.int (Int.fmod x y),.val):=by
 show (if y=0 then none else some (T.int (Int.fmod x y),Kd.val))=_;rw [if_neg hy]
theorem Zhp {f:T→M Bool}{g:T→M (T×Kd)}{P:T→Prop}{s:Option SelfSt}:∀(l:List T) (r:List Int),(∀t∈l,∀r,Zr r→f t (RW r s)=.ok true (RW r s))→(∀t∈l,∀r,Zr r→∃u kd r',kd≠Kd.h∧g t (RW r s)=.ok (u,kd) (RW r' s)∧Zr r'∧P u)→Zr r→
  ∃us r',tests f g l (RW r s)=.ok us (RW r' s)∧Zr r'∧us.length=l.length∧∀u∈us,P u
 |[],r,_,_,hr=>⟨[],r,rfl,hr,rfl,fun u hu=>absurd hu List.not_mem_nil⟩
 |t::l,r,h1,h2,hr=>by
  obtain ⟨u,kd,r1,hk,e1,hr1,hp⟩:=h2 t (by simp) r hr;obtain ⟨us,r2,e2,hr2,hl,hps⟩:=Zhp l r1 (fun t ht=>h1 t (by simp [ht])) (fun t ht=>h2 t (by simp [ht])) hr1;refine ⟨u::us,r2,?_,hr2,by simp [hl],fun w hw=>?_⟩
  ·show (f t>>=fun b=>if b=true then g t>>=fun b=>solid b>>=fun b=>tests f g l>>=fun bs=>pure (b.1::bs) else tests f g l) (RW r s)=_;rw [Zh (h1 t (by simp) r hr),if_pos rfl,Zh e1];rw [Zh (show solid (u,kd) (RW r1 s)=.ok (u,kd) (RW r1 s) from by unfold solid;rw [if_neg hk];rfl),Zh e2];rfl
  ·rcases List.mem_cons.mp hw with rfl | q
   ·exact hp
   ·exact hps w q
theorem Zdx {us:List T}{j:Nat}{σ:Sg}(h:j < us.length):∃u,u∈us∧Ju (.list us) (.int (j:Int)) σ=.ok (u,.val) σ:=
 ⟨us[j],List.getElem_mem h,Zv (List.getElem?_eq_getElem h)⟩
theorem Zfv {α:Type}{us:List T}{f:α→T}{P:α→Prop}(h:∀u∈us,∃o,u=f o∧P o):∃l:List α,us=l.map f∧∀o∈l,P o:=by
 induction us with
 |nil=>exact ⟨[],rfl,fun o ho=>absurd ho List.not_mem_nil⟩
 |cons u r ih=>
  obtain ⟨o,rfl,ho⟩:=h u (by simp);obtain ⟨l,rfl,hl⟩:=ih fun u hu=>h u (by simp [hu])
  exact ⟨o::l,rfl,fun o' ho'=>by rcases List.mem_cons.mp ho' with rfl | q;exact ho;exact hl o' q⟩
def Sat {β:Type}(z:Res β)(R:Res β→Prop):Prop:=R z
theorem Z8 {α β:Type}{m:M α}{f:α→M β}{a:α}{σ σ':Sg}{R:Res β→Prop}(e:m σ=.ok a σ')(h:Sat (f a σ') R):Sat (M.bind m f σ) R:=by
 unfold M.bind;rw [e];exact h
theorem Zdu {β:Type}{K:List T→M β}{f:T→M Bool}{g:T→M (T×Kd)}{P:T→Prop}{s:Option SelfSt}{R:Res β→Prop}(l:List T)(r:List Int)(hr:Zr r)(h1:∀t∈l,∀r,Zr r→f t (RW r s)=.ok true (RW r s))(h2:∀t∈l,∀r,Zr r→∃u kd r',kd≠Kd.h∧g t (RW r s)=.ok (u,kd) (RW r' s)∧Zr r'∧P u)
  (h:∀us r',Zr r'→us.length=l.length→(∀u∈us,P u)→Sat (K us (RW r' s)) R):Sat (M.bind (tests f g l) K (RW r s)) R:=by
 obtain ⟨us,r',e,hr',hl,hp⟩:=Zhp l r h1 h2 hr;exact Z8 e (h us r' hr' hl hp)
theorem still_own {α:Type}{m:M α}{σ:Sg}:still .own m σ=m σ:=by
 unfold still;rw [if_neg (by simp)]
section
variable (G:Calls)(s:Option SelfSt)(N:Ze2 G s)
include N
theorem Zl9 (r:List Int)(hr:Zr r)(m:Nat)(hm:m < 900):Sat (Ze G "_law_texts" [.row,.int m] (RW r s)) fun z=>∃us r',z=.ok (.list us,.own) (RW r' s)∧Zr r'∧us.length=m∧∀u∈us,labT u:=by
 conv=>arg 1;whnf
 refine Z8 (Jh (by omega) _) ?_
 conv=>arg 1;whnf
 refine Zdu (P:=labT) _ r hr ?_ ?_ ?_
 ·intro t ht r hr;rfl
 ·intro t ht r hr;obtain ⟨x,r1,hx,hr1,e⟩:=N r hr;obtain ⟨j,hj,hj2⟩:=Qt hx.1 (show (0:Int) < 7 by decide);obtain ⟨u,hu,e2⟩:=Zdx (us:=[.str "a",.str "b",.str "",.none,.str "matrix",.str "factor",.str "integer"]) (j:=j) (σ:=RW r1 s) (by simp;omega);refine ⟨u,.val,r1,by simp,?_,hr1,?_⟩
  ·refine Qi ?_;refine evalE_c.trans ?_
   conv=>lhs;whnf
   refine Zb (T.int (j:Int),Kd.val) (σ':=RW r1 s) (still_own.trans (evalE_c.trans ?_)) ?_
   ·conv=>lhs;whnf
    refine Zb _ e ?_;rw [←hj];rfl
   ·conv=>lhs;whnf
    exact Zb _ e2 rfl
  ·simp only [List.mem_cons,List.not_mem_nil,or_false] at hu;rcases hu with rfl | rfl | rfl | rfl | rfl | rfl | rfl
   all_goals first | exact .inl rfl | exact .inr ⟨_,rfl,by decide +kernel⟩
 ·intro us r' hr' hl hp;exact ⟨us,r',rfl,hr',by simpa using hl,hp⟩
end
def Zg5 (G:Calls)(s:Option SelfSt):Prop:=∀(r:List Int) (m:Nat),Zr r→m < 900→∃us r',G "_law_texts" [.row,.int m] (RW r s)=.ok (.list us,.own) (RW r' s)∧Zr r'∧us.length=m∧∀u∈us,labT u
def ValR (s:Option SelfSt)(z:Res (T×Kd)):Prop:=∃(v:Vl) (r':List Int) (kd:Kd),kd≠.h∧z=.ok (v.t,kd) (RW r' s)∧Zr r'∧v.ok
def numO (u:T):Prop:=∃o:Option Int,u=optT o∧∀x,o=some x→x.natAbs≤20
def lglO (u:T):Prop:=∃o:Option Int,u=optT o∧∀x,o=some x→x=0∨x=1
def natO (u:T):Prop:=∃o:Nat,u=.int (o:Int)∧o≤8
theorem Zio {us:List T}(h:∀u∈us,numO u):∃l:List (Option Int),us=l.map optT∧∀x,some x∈l→x.natAbs≤20:=by
 obtain ⟨l,e,hl⟩:=Zfv (P:=fun o:Option Int=>∀x,o=some x→x.natAbs≤20) h;exact ⟨l,e,fun x hx=>hl _ hx x rfl⟩
theorem Zqh {us:List T}(h:∀u∈us,lglO u):∃l:List (Option Int),us=l.map optT∧∀x,some x∈l→x=0∨x=1:=by
 obtain ⟨l,e,hl⟩:=Zfv (P:=fun o:Option Int=>∀x,o=some x→x=0∨x=1) h;exact ⟨l,e,fun x hx=>hl _ hx x rfl⟩
def dblH:T→T
 |.int i=>.tup [.int (2 * i+1),.int 2]
 |t=>t
theorem Zm3 (n:Nat)(hn:n≤8)(us:List T)(h:T.list us∈([.list [.int n],.list [.int 1,.int n],.list [.int n,.int 1],.list [.int 2,.int (Int.fdiv n 2)],.list [.int 3,.int (Int.fdiv n 3)],.list [.int 1,.int 1,.int n],.list [.int 0,.int n]]:List T)):us≠[]∧us.length≤3∧∀u∈us,natO u:=by
 have e2:Int.fdiv (n:Int) 2=((n / 2:Nat):Int):=by rw [Int.fdiv_eq_ediv_of_nonneg _ (by omega)];omega
 have e3:Int.fdiv (n:Int) 3=((n / 3:Nat):Int):=by rw [Int.fdiv_eq_ediv_of_nonneg _ (by omega)];omega
 have hN:natO (.int (n:Int)):=⟨n,rfl,hn⟩;have h0:natO (.int 0):=⟨0,rfl,by decide⟩;have h1:natO (.int 1):=⟨1,rfl,by decide⟩;have h2:natO (.int 2):=⟨2,rfl,by decide⟩;have h3:natO (.int 3):=⟨3,rfl,by decide⟩;have hd2:natO (.int (Int.fdiv n 2)):=⟨n / 2,by rw [e2],by omega⟩;have hd3:natO (.int (Int.fdiv n 3)):=⟨n / 3,by rw [e3],by omega⟩;simp only [List.mem_cons,List.not_mem_nil,or_false,T.list.injEq] at h;rcases h with rfl | rfl | rfl | rfl | rfl | rfl | rfl
 all_goals (
  refine ⟨by simp,by simp,fun u hu=>?_⟩;simp only [List.mem_cons,List.not_mem_nil,or_false] at hu)
 ·subst hu;exact hN
 ·rcases hu with rfl | rfl
  ·exact h1
  ·exact hN
 ·rcases hu with rfl | rfl
  ·exact hN
  ·exact h1
 ·rcases hu with rfl | rfl
  ·exact h2
  ·exact hd2
 ·rcases hu with rfl | rfl
  ·exact h3
  ·exact hd3
 ·rcases hu with rfl | rfl | rfl
  ·exact h1
  ·exact h1
  ·exact hN
 ·rcases hu with rfl | rfl
  ·exact h0
  ·exact hN
section
variable (G:Calls)(s:Option SelfSt)(N:Ze2 G s)(TX:Zg5 G s)(r r1:List Int)(hr:Zr r)(hr1:Zr r1)(x:Int)(e:G "_law_next" [.row] (RW r s)=.ok (.int x,.val) (RW r1 s))(n:Nat)(hn:n≤8)
include N TX hr hr1 e hn
theorem Zl4 (hj:Int.fmod x 7=1):Sat (Ze G "_law_value" [.row,.int n] (RW r s)) (ValR s):=by
  conv=>arg 1;whnf
  refine Z8 e ?_
  conv=>arg 1;whnf
  rw [show decide (Int.fmod x 7=0)=false from dF (by rw [hj];decide)]
  conv=>arg 1;whnf
  rw [show decide (Int.fmod x 7=1)=true from dT (by rw [hj])]
  conv=>arg 1;whnf
  exact ⟨.nul,r1,.val,by simp,rfl,hr1,trivial⟩
theorem Zl5 (hj:Int.fmod x 7=0):Sat (Ze G "_law_value" [.row,.int n] (RW r s)) (ValR s):=by
  obtain ⟨x2,r2,hx2,hr2,e2⟩:=N r1 hr1;obtain ⟨m,hm,hm2⟩:=Qt hx2.1 (show (0:Int) < (n:Int)+2 by omega);obtain ⟨us,r3,e3,hr3,hl,hp⟩:=TX r2 m hr2 (by omega);rw [←hm] at e3
  conv=>arg 1;whnf
  refine Z8 e ?_
  conv=>arg 1;whnf
  rw [show decide (Int.fmod x 7=0)=true from dT (by rw [hj])]
  conv=>arg 1;whnf
  refine Z8 e2 ?_
  conv=>arg 1;whnf
  refine Z8 e3 ?_
  conv=>arg 1;whnf
  exact ⟨.chr us,r3,.ownIo,by simp,rfl,hr3,by omega,hp⟩
theorem Zl3 (hj:Int.fmod x 7=2):Sat (Ze G "_law_value" [.row,.int n] (RW r s)) (ValR s):=by
  obtain ⟨x2,r2,hx2,hr2,e2⟩:=N r1 hr1;obtain ⟨m,hm,hm2⟩:=Qt hx2.1 (show (0:Int) < (n:Int)+2 by omega);have hit:Qm (.range 0 (Int.fmod x2 ((n:Int)+2))) (RW r2 s)=.ok ((List.range' 0 m).map fun i:Nat=>T.int (i:Int)) (RW r2 s):=by rw [hm];exact Jh (by omega) _
  conv=>arg 1;whnf
  refine Z8 e ?_
  conv=>arg 1;whnf
  rw [show decide (Int.fmod x 7=0)=false from dF (by rw [hj];decide)]
  conv=>arg 1;whnf
  rw [show decide (Int.fmod x 7=1)=false from dF (by rw [hj];decide)]
  conv=>arg 1;whnf
  rw [show decide (Int.fmod x 7=2)=true from dT (by rw [hj])]
  conv=>arg 1;whnf
  refine Z8 e2 ?_
  conv=>arg 1;whnf
  refine Z8 hit ?_
  conv=>arg 1;whnf
  refine Zdu (P:=numO) _ r2 hr2 ?_ ?_ ?_
  ·intro t ht r hr;rfl
  ·intro t ht r hr;obtain ⟨x3,r3,hx3,hr3,e3⟩:=N r hr;obtain ⟨j,hj,hj2⟩:=Qt hx3.1 (show (0:Int) < 9 by decide);refine ⟨.int (Int.fmod x3 9 - 1),.val,r3,by simp,?_,hr3,⟨some (Int.fmod x3 9 - 1),rfl,fun y hy=>by cases hy;omega⟩⟩;refine Qi ?_;refine evalE_c.trans ?_
   conv=>lhs;whnf
   exact Zb _ e3 rfl
  ·intro us r' hr' hl hp;obtain ⟨l,rfl,hl2⟩:=Zio hp;exact ⟨.int l,r',.ownIo,by simp,rfl,hr',by simp at hl;omega,hl2⟩
theorem Zlz (hj:Int.fmod x 7=6):Sat (Ze G "_law_value" [.row,.int n] (RW r s)) (ValR s):=by
  obtain ⟨x2,r2,hx2,hr2,e2⟩:=N r1 hr1;obtain ⟨m,hm,hm2⟩:=Qt hx2.1 (show (0:Int) < (n:Int)+2 by omega);have hit:Qm (.range 0 (Int.fmod x2 ((n:Int)+2))) (RW r2 s)=.ok ((List.range' 0 m).map fun i:Nat=>T.int (i:Int)) (RW r2 s):=by rw [hm];exact Jh (by omega) _
  conv=>arg 1;whnf
  refine Z8 e ?_
  conv=>arg 1;whnf
  rw [show decide (Int.fmod x 7=0)=false from dF (by rw [hj];decide)]
  conv=>arg 1;whnf
  rw [show decide (Int.fmod x 7=1)=false from dF (by rw [hj];decide)]
  conv=>arg 1;whnf
  rw [show decide (Int.fmod x 7=2)=false from dF (by rw [hj];decide)]
  conv=>arg 1;whnf
  rw [show decide (Int.fmod x 7=3)=false from dF (by rw [hj];decide)]
  conv=>arg 1;whnf
  rw [show decide (Int.fmod x 7=4)=false from dF (by rw [hj];decide)]
  conv=>arg 1;whnf
  rw [show decide (Int.fmod x 7=5)=false from dF (by rw [hj];decide)]
  conv=>arg 1;whnf
  refine Z8 e2 ?_
  conv=>arg 1;whnf
  refine Z8 hit ?_
  conv=>arg 1;whnf
  refine Zdu (P:=lglO) _ r2 hr2 ?_ ?_ ?_
  ·intro t ht r hr;rfl
  ·intro t ht r hr;obtain ⟨x3,r3,hx3,hr3,e3⟩:=N r hr;obtain ⟨j,hj,hj2⟩:=Qt hx3.1 (show (0:Int) < 3 by decide);obtain ⟨u,hu,e4⟩:=Zdx (us:=[.int 1,.int 0,.none]) (j:=j) (σ:=RW r3 s) (by simp;omega);refine ⟨u,.val,r3,by simp,?_,hr3,?_⟩
   ·refine Qi ?_;refine evalE_c.trans ?_
    conv=>lhs;whnf
    refine Zb (T.int (j:Int),Kd.val) (σ':=RW r3 s) (still_own.trans (evalE_c.trans ?_)) ?_
    ·conv=>lhs;whnf
     refine Zb _ e3 ?_;rw [←hj];rfl
    ·conv=>lhs;whnf
     exact Zb _ e4 rfl
   ·simp only [List.mem_cons,List.not_mem_nil,or_false] at hu;rcases hu with rfl | rfl | rfl
    ·exact ⟨some 1,rfl,fun y hy=>by cases hy;exact .inr rfl⟩
    ·exact ⟨some 0,rfl,fun y hy=>by cases hy;exact .inl rfl⟩
    ·exact ⟨none,rfl,fun y hy=>nomatch hy⟩
  ·intro us r' hr' hl hp;obtain ⟨l,rfl,hl2⟩:=Zqh hp;exact ⟨.lgl l,r',.ownIo,by simp,rfl,hr',by simp at hl;omega,hl2⟩
theorem Zl0 (hj:Int.fmod x 7=5):Sat (Ze G "_law_value" [.row,.int n] (RW r s)) (ValR s):=by
  obtain ⟨x2,r2,hx2,hr2,e2⟩:=N r1 hr1;obtain ⟨m,hm,hm2⟩:=Qt hx2.1 (show (0:Int) < 6 by decide)
  conv=>arg 1;whnf
  refine Z8 e ?_
  conv=>arg 1;whnf
  rw [show decide (Int.fmod x 7=0)=false from dF (by rw [hj];decide)]
  conv=>arg 1;whnf
  rw [show decide (Int.fmod x 7=1)=false from dF (by rw [hj];decide)]
  conv=>arg 1;whnf
  rw [show decide (Int.fmod x 7=2)=false from dF (by rw [hj];decide)]
  conv=>arg 1;whnf
  rw [show decide (Int.fmod x 7=3)=false from dF (by rw [hj];decide)]
  conv=>arg 1;whnf
  rw [show decide (Int.fmod x 7=4)=false from dF (by rw [hj];decide)]
  conv=>arg 1;whnf
  rw [show decide (Int.fmod x 7=5)=true from dT (by rw [hj])]
  conv=>arg 1;whnf
  refine Z8 (a:=(T.int (-(Int.fmod x2 6)),Kd.val)) (σ':=RW r2 s) ?_ ?_
  ·conv=>lhs;whnf
   refine Zb (T.int (Int.fmod x2 6),Kd.val) (σ':=RW r2 s) (evalE_c.trans ?_) rfl
   conv=>lhs;whnf
   exact Zb _ e2 rfl
  conv=>arg 1;whnf
  exact ⟨.int [none,some (-(Int.fmod x2 6))],r2,.ownIo,by simp,rfl,hr2,by simp,fun y hy=>by
   simp only [List.mem_cons,List.not_mem_nil,or_false,Option.some.injEq,reduceCtorEq,false_or] at hy;subst hy;omega⟩
theorem Zl2 (hj:Int.fmod x 7=3):Sat (Ze G "_law_value" [.row,.int n] (RW r s)) (ValR s):=by
  obtain ⟨x2,r2,hx2,hr2,e2⟩:=N r1 hr1;obtain ⟨x3,r3,hx3,hr3,e3⟩:=N r2 hr2;obtain ⟨m,hm,hm2⟩:=Qt hx2.1 (show (0:Int) < 7 by decide);obtain ⟨u,hu,e4⟩:=Zdx (us:=[.list [.int n],.list [.int 1,.int n],.list [.int n,.int 1],.list [.int 2,.int (Int.fdiv n 2)],.list [.int 3,.int (Int.fdiv n 3)],.list [.int 1,.int 1,.int n],.list [.int 0,.int n]]) (j:=m) (σ:=RW r2 s) (by simp;omega);obtain ⟨us,rfl⟩:∃us,u=.list us:=by
   simp only [List.mem_cons,List.not_mem_nil,or_false] at hu;rcases hu with rfl | rfl | rfl | rfl | rfl | rfl | rfl<;>exact ⟨_,rfl⟩
  obtain ⟨u1,u2,u3⟩:=Zm3 n hn us hu
  conv=>arg 1;whnf
  refine Z8 e ?_
  conv=>arg 1;whnf
  rw [show decide (Int.fmod x 7=0)=false from dF (by rw [hj];decide)]
  conv=>arg 1;whnf
  rw [show decide (Int.fmod x 7=1)=false from dF (by rw [hj];decide)]
  conv=>arg 1;whnf
  rw [show decide (Int.fmod x 7=2)=false from dF (by rw [hj];decide)]
  conv=>arg 1;whnf
  rw [show decide (Int.fmod x 7=3)=true from dT (by rw [hj])]
  conv=>arg 1;whnf
  refine Z8 (a:=(T.int (m:Int),Kd.val)) (σ':=RW r2 s) (still_own.trans (evalE_c.trans ?_)) ?_
  ·conv=>lhs;whnf
   refine Zb _ e2 ?_;rw [←hm];rfl
  conv=>arg 1;whnf
  refine Z8 e4 ?_
  conv=>arg 1;whnf
  refine Z8 e3 ?_
  conv=>arg 1;whnf
  cases hb:decide (Int.fmod x3 2=1) with
  |true=>
   conv=>arg 1;whnf
   have e5:tests (quiet .val fun _=>pure true) (quiet .val fun t=>pure (dblH t,Kd.val)) us (RW r3 s)=.ok (us.map dblH) (RW r3 s):=Qz dblH (fun t ht=>rfl) (fun t ht=>⟨.val,by simp,rfl⟩);refine Z8 (a:=us.map dblH) (σ':=RW r3 s) (Qz dblH (fun t ht=>rfl) (fun t ht=>?_)) ?_
   ·obtain ⟨o,rfl,ho⟩:=u3 t ht;refine ⟨.val,by simp,?_⟩;refine Qi ?_;refine evalE_c.trans ?_;rfl
   ·conv=>arg 1;whnf
    obtain ⟨l,rfl,hl⟩:=Zfv (f:=fun o:Nat=>T.int (o:Int)) (P:=fun o:Nat=>o≤8) u3;have e6:(l.map fun o:Nat=>T.int (o:Int)).map dblH=l.map Z5:=by rw [List.map_map];rfl
    rw [e6];exact ⟨.dbl l,r3,.ownIo,by simp,rfl,hr3,by simpa using u1,by simpa using u2,hl⟩
  |false=>
   conv=>arg 1;whnf
   refine Zdu (P:=numO) _ r3 hr3 ?_ ?_ ?_
   ·intro t ht r hr;rfl
   ·intro t ht r hr;obtain ⟨o,rfl,ho⟩:=u3 t ht;obtain ⟨x5,r5,hx5,hr5,e5⟩:=N r hr
    cases hc:decide (Int.fmod x5 9=8) with
    |true=>
     refine ⟨.none,.val,r5,by simp,?_,hr5,⟨none,rfl,fun y hy=>nomatch hy⟩⟩;refine Qi ?_;refine evalE_c.trans ?_
     conv=>lhs;whnf
     refine Zb _ e5 ?_
     conv=>lhs;whnf
     rw [hc];rfl
    |false=>
     refine ⟨.int (o:Int),.val,r5,by simp,?_,hr5,⟨some (o:Int),rfl,fun y hy=>by cases hy;omega⟩⟩;refine Qi ?_;refine evalE_c.trans ?_
     conv=>lhs;whnf
     refine Zb _ e5 ?_
     conv=>lhs;whnf
     rw [hc];rfl
   ·intro us' r' hr' hl hp;obtain ⟨l,rfl,hl2⟩:=Zio hp;exact ⟨.int l,r',.ownIo,by simp,rfl,hr',by simp at hl;omega,hl2⟩
end
def b4:List Stmt:=Ji ((Zs "_law_value")[5]?)
def k4 (G:Calls):Out→Lv→M (T×Kd):=fun o L'=>match o with
 |.next=>cSs G ((Zs "_law_value").drop 6) L' (fun o _=>outT o)
 |o=>outT o
def k4b (G:Calls):Out→Lv→M (T×Kd):=fun o L'=>match o with
 |.next=>cSs G (b4.drop 2) L' (k4 G)
 |o=>k4 G o L'
def Zfm (p:Option (List T)):Prop:=∀us,p=some us→us.length≤8∧∀u∈us,labT u
def L4 (n:Nat)(x:Int)(acc:List (Option (List T)))(L:Lv):Prop:=
 L={ loc:=[("row",.row),("n",.int n),("kind",.int (Int.fmod x 7))],own:=[("parts",.list (acc.map optV),.own)],mv:=mvOf "_law_value",hot:=false }∨∃t0,L={ loc:=[("row",.row),("n",.int n),("kind",.int (Int.fmod x 7)),("lap",t0)],own:=[("parts",.list (acc.map optV),.own)],mv:=mvOf "_law_value",hot:=false }
section
variable (G:Calls)(s:Option SelfSt)(N:Ze2 G s)(TX:Zg5 G s)(x:Int)(n:Nat)(hn:n≤8)
include N TX hn
theorem Zil (R:Res (T×Kd)→Prop):∀(l:List T) (acc:List (Option (List T))) (r:List Int) (L:Lv),Zr r→acc.length+l.length < 900→(∀p∈acc,Zfm p)→L4 n x acc L→
  (∀PS r' L',Zr r'→PS.length=acc.length+l.length→(∀p∈PS,Zfm p)→L4 n x PS L'→Sat (k4b G .next L' (RW r' s)) R)→Sat (cFor "lap" (fun L k=>cSs G (Zm (b4[1]?)) L k) l L (k4b G) (RW r s)) R
 |[],acc,r,L,hr,_,ha,hL,h=>h acc r L hr (by simp) ha hL
 |t::l,acc,r,L,hr,hl,ha,hL,h=>by
  have hac:(acc.map optV).length < 2000:=by simp at hl ⊢;omega
  obtain ⟨x1,r1,hx1,hr1,e1⟩:=N r hr;have key:∃p r',Zr r'∧Zfm p∧∃L',L4 n x (acc++[p]) L'∧cFor "lap" (fun L k=>cSs G (Zm (b4[1]?)) L k) (t::l) L (k4b G) (RW r s)=cFor "lap" (fun L k=>cSs G (Zm (b4[1]?)) L k) l L' (k4b G) (RW r' s):=by
   cases hc:decide (Int.fmod x1 3=2) with
   |true=>
    refine ⟨none,r1,hr1,fun us e=>(nomatch e),_,.inr ⟨t,rfl⟩,?_⟩;rw [List.map_append];rcases hL with rfl | ⟨t0,rfl⟩
    all_goals (
     conv=>lhs;whnf
     refine Zb _ e1 ?_
     conv=>lhs;whnf
     rw [hc]
     conv=>lhs;whnf
     rw [Z4 hac];rfl)
   |false=>
    obtain ⟨x2,r2,hx2,hr2,e2⟩:=N r1 hr1;obtain ⟨j,hj,hj2⟩:=Qt hx2.1 (show (0:Int) < 4 by decide);obtain ⟨u,hu,e3⟩:=Zdx (us:=[.int n,.int 1,.int 2,.int 0]) (j:=j) (σ:=RW r2 s) (by simp;omega);obtain ⟨m,rfl,hm⟩:∃m:Nat,u=.int (m:Int)∧m≤8:=by
     simp only [List.mem_cons,List.not_mem_nil,or_false] at hu;rcases hu with rfl | rfl | rfl | rfl
     ·exact ⟨n,rfl,hn⟩
     ·exact ⟨1,rfl,by decide⟩
     ·exact ⟨2,rfl,by decide⟩
     ·exact ⟨0,rfl,by decide⟩
    obtain ⟨us,r3,e4,hr3,hlen,hlab⟩:=TX r2 m hr2 (by omega);refine ⟨some us,r3,hr3,fun us' e=>by cases e;exact ⟨by omega,hlab⟩,_,.inr ⟨t,rfl⟩,?_⟩;rw [List.map_append];rcases hL with rfl | ⟨t0,rfl⟩
    all_goals (
     conv=>lhs;whnf
     refine Zb _ e1 ?_
     conv=>lhs;whnf
     rw [hc]
     conv=>lhs;whnf
     refine Zb (T.int (j:Int),Kd.val) (σ':=RW r2 s) (still_own.trans (evalE_c.trans ?_)) ?_
     ·conv=>lhs;whnf
      refine Zb _ e2 ?_;rw [←hj];rfl
     conv=>lhs;whnf
     refine Zb _ e3 ?_
     conv=>lhs;whnf
     refine Zb _ e4 ?_
     conv=>lhs;whnf
     rw [Z4 hac];rfl)
  obtain ⟨p,r',hr',hp,L',hL',e⟩:=key;rw [e];refine Zil R l (acc++[p]) r' L' hr' (by simp at hl ⊢;omega) (fun q hq=>by
   rcases List.mem_append.mp hq with q' | q'
   ·exact ha q q'
   ·rw [List.mem_singleton.mp q'];exact hp) hL' (fun PS r'' L'' h1 h2 h3 h4=>h PS r'' L'' h1 (by simp at h2 ⊢;omega) h3 h4)
theorem Zl1 (r r1:List Int)(hr:Zr r)(hr1:Zr r1)(e:G "_law_next" [.row] (RW r s)=.ok (.int x,.val) (RW r1 s))(hj:Int.fmod x 7=4):Sat (Ze G "_law_value" [.row,.int n] (RW r s)) (ValR s):=by
 obtain ⟨x2,r2,hx2,hr2,e2⟩:=N r1 hr1;obtain ⟨m,hm,hm2⟩:=Qt hx2.1 (show (0:Int) < 4 by decide);have hit:Qm (.range 0 (Int.fmod x2 4)) (RW r2 s)=.ok ((List.range' 0 m).map fun i:Nat=>T.int (i:Int)) (RW r2 s):=by rw [hm];exact Jh (by omega) _
 conv=>arg 1;whnf
 refine Z8 e ?_
 conv=>arg 1;whnf
 rw [show decide (Int.fmod x 7=0)=false from dF (by rw [hj];decide)]
 conv=>arg 1;whnf
 rw [show decide (Int.fmod x 7=1)=false from dF (by rw [hj];decide)]
 conv=>arg 1;whnf
 rw [show decide (Int.fmod x 7=2)=false from dF (by rw [hj];decide)]
 conv=>arg 1;whnf
 rw [show decide (Int.fmod x 7=3)=false from dF (by rw [hj];decide)]
 conv=>arg 1;whnf
 rw [show decide (Int.fmod x 7=4)=true from dT (by rw [hj])]
 conv=>arg 1;whnf
 refine Z8 e2 ?_
 conv=>arg 1;whnf
 refine Z8 hit ?_;refine Zil G s N TX x n hn (ValR s) _ [] r2 _ hr2 (by simp;omega) (fun p hp=>absurd hp List.not_mem_nil) (.inl rfl) ?_;intro PS r3 L3 hr3 hPS hok hL;obtain ⟨x4,r4,hx4,hr4,e4⟩:=N r3 hr3;have hlen:PS.length≤3:=by simp at hPS;omega
 have hps:∀us,some us∈PS→us.length≤8∧∀u∈us,labT u:=fun us h=>hok _ h us rfl
 cases hc:decide (Int.fmod x4 3=2) with
 |false=>
  rcases hL with rfl | ⟨t0,rfl⟩
  all_goals (
   conv=>arg 1;whnf
   refine Z8 e4 ?_
   conv=>arg 1;whnf
   rw [hc];exact ⟨.lst PS none,r4,.own,by simp,rfl,hr4,hlen,hps,fun hs e=>nomatch e⟩)
 |true=>
  rcases hL with rfl | ⟨t0,rfl⟩
  all_goals (
   conv=>arg 1;whnf
   refine Z8 e4 ?_
   conv=>arg 1;whnf
   rw [hc]
   conv=>arg 1;whnf
   exact ⟨.lst PS (some ((([.str "r",.str "s",.str "t"]:List T).take (PS.map optV).length).drop 0)),r4,.own,by simp,rfl,hr4,hlen,hps,fun hs e=>by
    have e':=(Option.some.inj e).symm;subst e';rw [List.drop_zero];refine ⟨by simp;omega,fun u hu=>?_⟩;have hu:=List.mem_of_mem_take hu;simp only [List.mem_cons,List.not_mem_nil,or_false] at hu;rcases hu with rfl | rfl | rfl<;>exact .inr ⟨_,rfl,by decide +kernel⟩⟩)
theorem Zly (r:List Int)(hr:Zr r):∃(v:Vl) (r':List Int) (kd:Kd),kd≠.h∧Ze G "_law_value" [.row,.int n] (RW r s)=.ok (v.t,kd) (RW r' s)∧Zr r'∧v.ok:=by
 obtain ⟨x,r1,hx,hr1,e⟩:=N r hr;obtain ⟨j,hj,hj2⟩:=Qt hx.1 (show (0:Int) < 7 by decide);have h:j=0∨j=1∨j=2∨j=3∨j=4∨j=5∨j=6:=by omega
 rcases h with rfl | rfl | rfl | rfl | rfl | rfl | rfl
 ·exact Zl5 G s N TX r r1 hr hr1 x e n hn hj
 ·exact Zl4 G s N TX r r1 hr hr1 x e n hn hj
 ·exact Zl3 G s N TX r r1 hr hr1 x e n hn hj
 ·exact Zl2 G s N TX r r1 hr hr1 x e n hn hj
 ·exact Zl1 G s N TX x n hn r r1 hr hr1 e hj
 ·exact Zl0 G s N TX r r1 hr hr1 x e n hn hj
 ·exact Zlz G s N TX r r1 hr hr1 x e n hn hj
end
section
variable (d:Nat)(s:Option SelfSt)
theorem Zax:Ze2 (Zd (d+1)) s:=fun r hr=>by
 obtain ⟨x,r',hx,hr',e⟩:=Zo4 (Zd d) r hr s;exact ⟨x,r',hx,hr',by rw [Zf];exact e⟩
theorem Zmd:Zg5 (Zd (d+2)) s:=fun r m hr hm=>by
 obtain ⟨us,r',e,h⟩:=Zl9 (Zd (d+1)) s (Zax d s) r hr m hm;exact ⟨us,r',by rw [Zf];exact e,h⟩
theorem Zhm (r:List Int)(hr:Zr r)(n:Nat)(hn:n≤8):∃(v:Vl) (r':List Int) (kd:Kd),kd≠.h∧Zd (d+3) "_law_value" [.row,.int n] (RW r s)=.ok (v.t,kd) (RW r' s)∧Zr r'∧v.ok:=by
 rw [Zf];exact Zly (Zd (d+2)) s (Zax (d+1) s) (Zmd d s) n hn r hr
end
def roF:Option Stmt:=(Zs "_law_row")[1]?
def roI:Option Stmt:=(Zm roF)[3]?
def roK (G:Calls)(kk:Out→Lv→M (T×Kd)):Out→Lv→M (T×Kd):=fun o L'=>match o with
 |.next=>cSs G ((Zm roF).drop 4) L' kk
 |o=>kk o L'
def Lr (sc:T)(c:T)(f:Int)(acc:List Int)(L:Lv):Prop:=
 L={ loc:=[("script",sc),("cell",c),("figure",.int f)],own:=[("row",.list (acc.map .int),.own)],mv:=mvOf "_law_row",hot:=false }∨∃t0,L={ loc:=[("script",sc),("cell",c),("figure",.int f),("lap",t0)],own:=[("row",.list (acc.map .int),.own)],mv:=mvOf "_law_row",hot:=false }
theorem Zh4 {acc:List Int}(h:Zr acc)(f:Int):Zr (acc++[Int.fmod f 1024]):=fun x hx=>by
 rcases List.mem_append.mp hx with q | q
 ·exact h x q
 ·rw [List.mem_singleton.mp q];exact ⟨Int.fmod_nonneg_of_pos f (by decide),Int.fmod_lt_of_pos f (by decide)⟩
section
variable (G:Calls)(σ:Sg)
abbrev Zaa (sc c:T)(f:Int)(acc:List Int)(t0:T):Lv:={ loc:=[("script",sc),("cell",c),("figure",.int f),("lap",t0)],own:=[("row",.list (acc.map .int),.own)],mv:=mvOf "_law_row",hot:=false }
theorem Zh5 (sc c:T)(kk:Out→Lv→M (T×Kd))(t:T)(l:List T)(acc:List Int)(f:Int)(L:Lv)(ha:Zr acc)(hl:acc.length < 2000)(hL:Lr sc c f acc L):∃acc1 f1,Zr acc1∧acc1.length≤acc.length+1∧cFor "lap" (fun L k=>cSs G (Zm roI) L k) (t::l) L (roK G kk) σ=cFor "lap" (fun L k=>cSs G (Zm roI) L k) l (Zaa sc c f1 acc1 t) (roK G kk) σ:=by
 have hac:(acc.map T.int).length < 2000:=by simp;omega
 cases hc:decide ((0:Int) < f) with
 |true=>
  refine ⟨acc++[Int.fmod f 1024],Int.fdiv f 1024,Zh4 ha f,by simp,?_⟩;unfold Zaa;rw [List.map_append];rcases hL with rfl | ⟨t0,rfl⟩
  all_goals (
   conv=>lhs;whnf
   rw [hc]
   conv=>lhs;whnf
   rw [Z4 hac];kernel_rfl)
 |false=>
  refine ⟨acc,f,ha,by omega,?_⟩;rcases hL with rfl | ⟨t0,rfl⟩
  all_goals (
   conv=>lhs;whnf
   rw [hc];rfl)
theorem Zh7 (sc c:T)(kk:Out→Lv→M (T×Kd)):∀(l:List T) (acc:List Int) (f:Int) (t0:T),Zr acc→acc.length+l.length < 2000→
  ∃acc' f' t0',Zr acc'∧acc'.length≤acc.length+l.length∧cFor "lap" (fun L k=>cSs G (Zm roI) L k) l (Zaa sc c f acc t0) (roK G kk) σ=roK G kk .next (Zaa sc c f' acc' t0') σ
 |[],acc,f,t0,ha,hl=>⟨acc,f,t0,ha,by simp,rfl⟩
 |t::l,acc,f,t0,ha,hl=>by
  obtain ⟨acc1,f1,h1,h2,e⟩:=Zh5 G σ sc c kk t l acc f _ ha (by simp at hl;omega) (.inr ⟨t0,rfl⟩);obtain ⟨acc',f',t0',g1,g2,g3⟩:=Zh7 sc c kk l acc1 f1 t h1 (by simp at hl;omega);exact ⟨acc',f',t0',g1,by simp;omega,e.trans g3⟩
def Ze3 (sc:T)(i f:Int)(acc:List Int)(L:Lv):Lv:=match L.loc with
 |[_]=>{ loc:=[("script",sc),("cell",.int i),("figure",.int (Int.fdiv f 1024))],own:=[("row",.list ((acc.map T.int)++[.int (Int.fmod f 1024)]),.own)],mv:=mvOf "_law_row",hot:=false }
 |_=>{ loc:=[("script",sc),("cell",.int i),("figure",.int (Int.fdiv f 1024)),("lap",(L.loc.lookup ("lap":Str)).getD .none)],own:=[("row",.list ((acc.map T.int)++[.int (Int.fmod f 1024)]),.own)],mv:=mvOf "_law_row",hot:=false }
theorem Zn3 (sc:T)(i:Int)(acc:List Int)(L:Lv)(ha:Zr acc)(hl:acc.length < 1900)(kk:Out→Lv→M (T×Kd))(hL:L={ loc:=[("script",sc)],own:=[("row",.list (acc.map .int),.own)],mv:=mvOf "_law_row",hot:=false }∨∃c f t0,L=Zaa sc c f acc t0):
  ∃acc' f' t0',Zr acc'∧acc'.length≤acc.length+31∧cSs G (Zm roF) (L.bindVal "cell" (.int i)) kk σ=kk .next (Zaa sc (.int i) f' acc' t0') σ:=by
 have hac:(acc.map T.int).length < 2000:=by simp;omega
 unfold Zaa at hL;have key:∃f:Int,cSs G (Zm roF) (L.bindVal "cell" (.int i)) kk σ=cFor "lap" (fun L k=>cSs G (Zm roI) L k) ((List.range' 0 30).map fun i:Nat=>T.int (i:Int)) (Ze3 sc i f acc L) (roK G kk) σ:=by
  unfold Ze3
  cases hc:decide ((0:Int)≤i) with
  |true=>
   refine ⟨i,?_⟩;rcases hL with rfl | ⟨c,f,t0,rfl⟩
   all_goals (
    conv=>lhs;whnf
    rw [hc]
    conv=>lhs;whnf
    rw [Z4 hac];kernel_rfl)
  |false=>
   refine ⟨7 - i,?_⟩;rcases hL with rfl | ⟨c,f,t0,rfl⟩
   all_goals (
    conv=>lhs;whnf
    rw [hc]
    conv=>lhs;whnf
    rw [Z4 hac];kernel_rfl)
 obtain ⟨f,e⟩:=key;have h1:=Zh4 ha f;have hsplit:((List.range' 0 30).map fun i:Nat=>T.int (i:Int))=.int 0::((List.range' 1 29).map fun i:Nat=>T.int (i:Int)):=rfl;have step2:∃acc1 f1,Zr acc1∧acc1.length≤acc.length+2∧cSs G (Zm roF) (L.bindVal "cell" (.int i)) kk σ=cFor "lap" (fun L k=>cSs G (Zm roI) L k) ((List.range' 1 29).map fun i:Nat=>T.int (i:Int)) (Zaa sc (.int i) f1 acc1 (.int 0)) (roK G kk) σ:=by
  rw [e,hsplit];have hL2:Lr sc (.int i) (Int.fdiv f 1024) (acc++[Int.fmod f 1024]) (Ze3 sc i f acc L):=by
   unfold Ze3 Lr;rw [List.map_append];rcases hL with rfl | ⟨c,f2,t0,rfl⟩
   ·exact .inl rfl
   ·exact .inr ⟨t0,rfl⟩
  obtain ⟨acc1,f1,g1,g2,g3⟩:=Zh5 G σ sc (.int i) kk (.int 0) ((List.range' 1 29).map fun i:Nat=>T.int (i:Int)) (acc++[Int.fmod f 1024]) (Int.fdiv f 1024) _ h1 (by simp;omega) hL2;exact ⟨acc1,f1,g1,by simp at g2;omega,g3⟩
 obtain ⟨acc1,f1,g1,g2,g3⟩:=step2;obtain ⟨acc',f',t0',q1,q2,q3⟩:=Zh7 G σ sc (.int i) kk ((List.range' 1 29).map fun i:Nat=>T.int (i:Int)) acc1 f1 (.int 0) g1 (by simp;omega);refine ⟨acc',f',t0',q1,by simp at q2;omega,g3.trans (q3.trans ?_)⟩;rfl
def Zfh (G:Calls):Out→Lv→M (T×Kd):=fun o L'=>match o with
 |.next=>cSs G ((Zs "_law_row").drop 2) L' (fun o _=>outT o)
 |o=>outT o
theorem Zh6 (sc:T):∀(l:List Int) (acc:List Int) (L:Lv),Zr acc→acc.length+31 * l.length < 1900→(L={ loc:=[("script",sc)],own:=[("row",.list (acc.map .int),.own)],mv:=mvOf "_law_row",hot:=false }∨∃c f t0,L=Zaa sc c f acc t0)→
  ∃out,Zr out∧out.length≤160∧cFor "cell" (fun L k=>cSs G (Zm roF) L k) (l.map .int) L (Zfh G) σ=.ok (.list (out.map .int),.own) σ
 |[],acc,L,ha,hl,hL=>by
  refine ⟨((acc.take 160).drop 0).reverse,fun x hx=>?_,by simp;omega,?_⟩
  ·rw [List.mem_reverse,List.drop_zero] at hx;exact ha x (List.mem_of_mem_take hx)
  ·rw [List.map_reverse,List.map_drop,List.map_take];rcases hL with rfl | ⟨c,f,t0,rfl⟩<;>kernel_rfl
 |i::l,acc,L,ha,hl,hL=>by
  obtain ⟨acc',f',t0',h1,h2,e⟩:=Zn3 G σ sc i acc L ha (by omega) (fun o L'=>match o with | .ret t kd=>Zfh G (.ret t kd) L' | _=>cFor "cell" (fun L k=>cSs G (Zm roF) L k) (l.map .int) L' (Zfh G)) hL;obtain ⟨out,g1,g2,g3⟩:=Zh6 sc l acc' (Zaa sc (.int i) f' acc' t0') h1 (by simp at hl;omega) (.inr ⟨_,_,_,rfl⟩);refine ⟨out,g1,g2,?_⟩;exact e.trans g3
theorem Zqu (script:List Int):∃out,Zr out∧out.length≤160∧Ze G "_law_row" [.list (script.map .int)] σ=.ok (.list (out.map .int),.own) σ:=by
 obtain ⟨out,h1,h2,e⟩:=Zh6 G σ (.list (script.map .int)) ((script.take 40).drop 0) [] _ (fun x hx=>absurd hx List.not_mem_nil) (by simp;omega) (.inl rfl);refine ⟨out,h1,h2,?_⟩;rw [←e,List.map_drop,List.map_take];kernel_rfl
end
def Zw:Option T→T
 |some (.vec _ us _)=>.list us
 |_=>.none
def Zr1:Option T→T
 |some (.vec _ (p::_) _)=>J2 p
 |_=>.none
def Qj:Option T→T
 |some (.vec _ ps _)=>.list (ps.map J2)
 |_=>.none
def Qe (lk:Lk):T:=if Jg lk=true then Zr1 (lk "dimnames") else Zw (lk "names")
def clsR (lk:Lk):List T:=match lk "class" with
 |some (.vec _ us _)=>us
 |_=>[]
def byD (lk:Lk):List T:=match dimL lk with
 |none=>[]
 |some ds=>if ds.length=2 then [.str "matrix",.str "array"] else [.str "array"]
def Zah (k:Str):Str:=if k="double" then "numeric" else k
def Zy (k:Str)(lk:Lk):List T:=match clsR lk with
 |u::us=>u::us
 |[]=>match byD lk with
  |u::us=>u::us
  |[]=>[.str (Zah k)]
theorem Zdq {lk:Lk}(S:Qu lk):lk "names"=none∨∃us,lk "names"=some (.vec "character" us .none)∧∀u∈us,lab0 u:=by
 cases h:lk "names" with
 |none=>exact .inl rfl
 |some t=>
  obtain ⟨us,rfl,hu⟩:=(S _ t h).names rfl;exact .inr ⟨us,rfl,hu⟩
theorem Zbt {lk:Lk}(S:Qu lk):lk "dimnames"=none∨∃p ps h,lk "dimnames"=some (.vec "list" (p::ps) (Zx h))∧∀q∈p::ps,q=.null∨chrT q:=by
 cases h:lk "dimnames" with
 |none=>exact .inl rfl
 |some t=>
  obtain ⟨p,ps,hh,rfl,hu⟩:=(S _ t h).dimn rfl;exact .inr ⟨p,ps,hh,rfl,hu⟩
theorem Zdr {lk:Lk}(S:Qu lk):lk "class"=none∨∃u us,lk "class"=some (.vec "character" (u::us) .none)∧∀w∈u::us,lab0 w:=by
 cases h:lk "class" with
 |none=>exact .inl rfl
 |some t=>
  obtain ⟨u,us,rfl,hu⟩:=(S _ t h).cls rfl;exact .inr ⟨u,us,rfl,hu⟩
section
variable (d:Nat)(row:Option (List Int)){k:Str}{n:Nat}{its:List T}{at':At0}(ep:Nat)(O:Ok k n its at')(S:Qu (lkA at'))
theorem Zgb (x:Str):Zd (d+1) "get_attr" [.self,.str x] (SG row k its at' ep)=.ok ((lkA at' x).getD .none,.val) (SG row k its at' ep):=by
 rw [Zf]
 cases at' with
 |none=>exact Zr6 _ x row k its ep
 |some es=>exact Zr5 _ x row k its es ep
include O S
theorem Zkp:Zd (d+2) "dimnames_of" [.self] (SG row k its at' ep)=.ok (Qj (lkA at' "dimnames"),if (lkA at' "dimnames").isSome then .own else .val) (SG row k its at' ep):=by
 rw [Zf];have hg:=Zgb d row (k:=k) (its:=its) (at':=at') ep "dimnames";rcases Zbt S with h | ⟨p,ps,hh,h,hq⟩
 ·rw [h] at hg ⊢;exact Zs8 _ _ hg
 ·rw [h] at hg ⊢;exact Zs7 _ _ "list" (p::ps) (Zx hh) (fun q hm=>by
   rcases hq q hm with r | ⟨us,r,_⟩
   ·exact .inl r
   ·exact .inr ⟨us,r⟩) hg
theorem Zk1:Zd (d+2) "class_attr" [.self] (SG row k its at' ep)=.ok (.list (clsR (lkA at')),.own) (SG row k its at' ep):=by
 rw [Zf];have hg:=Zgb d row (k:=k) (its:=its) (at':=at') ep "class";unfold clsR;rcases Zdr S with h | ⟨u,us,h,hq⟩
 ·rw [h] at hg ⊢;exact Zt1 _ _ hg
 ·rw [h] at hg ⊢;exact Zt0 _ _ _ (u::us) _ hg
theorem Zpf:∃kd,kd≠Kd.h∧Zd (d+3) "names_of" [.self] (SG row k its at' ep)=.ok (Qe (lkA at'),kd) (SG row k its at' ep):=by
 rw [Zf];have hd:=Zdc d row ep O;have hdn:=Zkp d row ep O S;have hg:=Zgb (d+1) row (k:=k) (its:=its) (at':=at') ep "names";unfold Qe Jg
 cases hdl:dimL (lkA at') with
 |none=>
  rw [hdl] at hd;dsimp only at hd ⊢;rw [if_neg (by simp)];rcases Zdq S with h | ⟨us,h,hq⟩
  ·rw [h] at hg ⊢;exact ⟨.val,by simp,Zpa _ row k its at' ep O.nul.2.1 O.nul.2.2 hd hg⟩
  ·rw [h] at hg ⊢;exact ⟨.own,by simp,Zo9 _ row k its at' ep _ us _ O.nul.2.1 O.nul.2.2 hd hg⟩
 |some ds=>
  rw [hdl] at hd;dsimp only at hd ⊢
  by_cases h1:ds.length=1
  ·rw [if_pos (dT h1)];rcases Zbt S with h | ⟨p,ps,hh,h,hq⟩
   ·rw [h] at hdn ⊢;exact ⟨.val,by simp,Zpe _ row k its at' ep ds O.nul.2.1 O.nul.2.2 hd h1 hdn⟩
   ·rw [h] at hdn ⊢;exact ⟨.val,by simp,Zpd _ row k its at' ep ds O.nul.2.1 O.nul.2.2 hd h1 (J2 p) (ps.map J2) hdn⟩
  ·rw [if_neg (by simpa using h1)];rcases Zdq S with h | ⟨us,h,hq⟩
   ·rw [h] at hg ⊢;exact ⟨.val,by simp,Zpc _ row k its at' ep ds O.nul.2.1 O.nul.2.2 hd h1 hg⟩
   ·rw [h] at hg ⊢;exact ⟨.own,by simp,Zpb _ row k its at' ep ds O.nul.2.1 O.nul.2.2 hd h1 _ us _ hg⟩
theorem Zhw:Zd (d+3) "shape_class" [.self] (SG row k its at' ep)=.ok (.list (byD (lkA at')),.own) (SG row k its at' ep):=by
 rw [Zf];have hd:=Zdc d row ep O;unfold byD
 cases hdl:dimL (lkA at') with
 |none=>rw [hdl] at hd;exact Mine.shape_none _ row k its at' ep hd
 |some ds=>rw [hdl] at hd;exact Mine.shape_some _ row k its at' ep ds hd
omit S in
theorem Zij:Zd (d+1) "plain_class" [.self] (SG row k its at' ep)=.ok (.str k,.val) (SG row k its at' ep):=by
 rw [Zf];have:=O.hk;simp only [List.mem_cons,List.not_mem_nil,or_false] at this;rcases this with rfl | rfl | rfl | rfl | rfl
 ·exact Zof _ row its at' ep
 ·exact Zog _ row its at' ep
 ·exact Zoh _ row its at' ep
 ·exact Zoe _ row its at' ep
 ·exact Zod _ row its at' ep
omit O S in
theorem Zua (lk:Lk):(byD lk).length≤2:=by
 unfold byD;split
 ·simp
 ·split<;>simp
theorem Zr0:Zd (d+4) "implicit_class" [.self] (SG row k its at' ep)=.ok (.list (byD (lkA at')++[.str k]++numT k),.own) (SG row k its at' ep):=by
 rw [Zf];exact Zrz _ row k its at' ep (byD (lkA at')) (Zua _) (Zhw d row ep O S) (Zij (d+2) row ep O)
theorem Zk0:∃kd,kd≠Kd.h∧Zd (d+4) "class_of" [.self] (SG row k its at' ep)=.ok (.list (Zy k (lkA at')),kd) (SG row k its at' ep):=by
 rw [Zf];have hc:=Zk1 (d+1) row ep O S;have hs:=Zhw d row ep O S;have hp:=Zij (d+2) row ep O;unfold Zy
 cases h1:clsR (lkA at') with
 |cons u us=>
  rw [h1] at hc;exact ⟨.val,by simp,Zty _ _ (u::us) (by simp) hc⟩
 |nil=>
  rw [h1] at hc;dsimp only
  cases h2:byD (lkA at') with
  |cons u us=>
   rw [h2] at hs;exact ⟨.val,by simp,Ztw _ _ (u::us) (by simp) hc hs⟩
  |nil=>
   rw [h2] at hs;dsimp only;unfold Zah
   by_cases hk:k="double"
   ·rw [if_pos hk];subst hk;exact ⟨.own,by simp,Ztz _ row its at' ep hc hs⟩
   ·rw [if_neg hk];exact ⟨.own,by simp,Ztx _ row k its at' ep hk hc hs hp⟩
omit O in
theorem Zgx:∀u∈Zy k (lkA at'),lab0 u:=by
 unfold Zy
 cases h1:clsR (lkA at') with
 |cons u us=>
  intro w hw;unfold clsR at h1;rcases Zdr S with h | ⟨u',us',h,hq⟩
  ·rw [h] at h1;cases h1
  ·rw [h] at h1;cases h1;exact hq w hw
 |nil=>
  dsimp only
  cases h2:byD (lkA at') with
  |cons u us=>
   intro w hw;unfold byD at h2;split at h2
   ·cases h2
   ·split at h2
    ·cases h2;simp only [List.mem_cons,List.not_mem_nil,or_false] at hw;rcases hw with rfl | rfl<;>exact .inr ⟨_,rfl⟩
    ·cases h2;rw [List.mem_singleton.mp hw];exact .inr ⟨_,rfl⟩
  |nil=>
   intro w hw;rw [List.mem_singleton.mp hw];exact .inr ⟨_,rfl⟩
theorem Zrw:Zd (d+5) "inherits" [.self,.list [.str "matrix",.str "b"]] (SG row k its at' ep)=.ok (.bool ((Zy k (lkA at')).any mbT),.val) (SG row k its at' ep):=by
 rw [Zf];obtain ⟨kd,hk,e⟩:=Zk0 d row ep O S;exact Zrv _ _ _ kd hk (fun t ht=>Zgx S t ht) e
end
def lawF:Option Stmt:=(Zs "law")[5]?
def lawB:List Stmt:=Zm lawF
theorem Zk4 {m:M (T×Kd)}{σ σ':Sg}{x:Str}(h:m σ=.exn x σ'):Q4 m σ=.ok (.str x,.val) σ':=by
 unfold Q4;rw [h]
theorem Zk3 {m:M (T×Kd)}{σ σ':Sg}{t:T}(h:m σ=.ok (t,.val) σ'):Q4 m σ=.ok (t,.val) σ':=by
 unfold Q4;rw [h];kernel_rfl
theorem Zph:mvOf "law"=[]:=by kernel_rfl
theorem Zdh {L:Lv}{x:Str}{t:T×Kd}{σ:Sg}(h1:x≠"row")(h2:x≠"v")(h3:L.mv=mvOf "law"):bindL L x t σ=.ok (L.bindVal x t.1) σ:=by
 unfold bindL;rw [dF h1,dF h2,Bool.and_false,if_neg (by simp),if_neg (by simp),if_neg (by rw [h3,Zph];simp)]
theorem Zas {t:T}{kd:Kd}{σ:Sg}(h:kd≠.h):solid (t,kd) σ=.ok (t,kd) σ:=by
 unfold solid;rw [if_neg h];kernel_rfl
abbrev LW (sc k n v seen:T)(rest:List (Str×T)):Lv:={ loc:=("script",sc)::("row",.row)::("kind",k)::("n",n)::("v",v)::("seen",seen)::rest,own:=[],mv:=mvOf "law",hot:=true }
def Zbn (l:List (Str×T)):Prop:=l=[]∨∃a1 a2 a3 a4 a5 a6 a7 a8 a9 b1 b2,l=([("name",a1),("value",a2),("due",a3),("told",a4),("shown",a5),("sides",a6),("lists",a7),("names",a8),("classes",a9),("by_dims",b1),("plain_one",b2)]:List (Str×T))
def Zbm (l:List (Str×T)):Prop:=l=[]∨∃a1 a2 a3 a4,l=([("name",a1),("value",a2),("due",a3),("told",a4)]:List (Str×T))
def Zg7 (l:List (Str×T)):Prop:=l=[]∨∃a5 a6 a7 a8 a9 b1 b2,l=([("shown",a5),("sides",a6),("lists",a7),("names",a8),("classes",a9),("by_dims",b1),("plain_one",b2)]:List (Str×T))
section
variable (G:Calls)(K:Out→Lv→M (T×Kd))(sc:T)(k:Str)(n:Nat)(seen:List (Str×T))(lap:T)(tl:List (Str×T))(its:List T)(at':At0)(ep:Nat)(r r1 r2:List Int)(x:Int)(j:Nat)(nm:Str)(V:T)(kd1 kd2:Kd)
theorem Zmp (hk:k≠"NULL")(ht:Zbn tl)(h1:G "_law_next" [.row] (SG (some r) k its at' ep)=.ok (.int x,.val) (SG (some r1) k its at' ep))(hj:Int.fmod x 7=(j:Int))(hnm:([.str "names",.str "dim",.str "dimnames",.str "class",.str "levels",.str "row.names",.str "unit"]:List T)[j]?=some (.str nm))
  (h2:G "_law_value" [.row,.int n] (SG (some r1) k its at' ep)=.ok (V,kd1) (SG (some r2) k its at' ep)) (hk1:kd1≠.h) (m:Str) (h3:G "_law_set" [.dict seen,.str k,.int n,.str nm,V] (SG (some r2) k its at' ep)=.ok (.str m,.val) (SG (some r2) k its at' ep)) (h4:G "set_attr" [.self,.str nm,V] (SG (some r2) k its at' ep)=.exn m (SG (some r2) k its at' ep)):
  ∃tl',Zg7 tl'∧cSs G lawB (LW sc (.str k) (.int n) .self (.dict seen) (("lap",lap)::tl)) K (SG (some r) k its at' ep)=cSs G (lawB.drop 7) (LW sc (.str k) (.int n) .self (.dict seen) (("lap",lap)::("name",.str nm)::("value",V)::("due",.str m)::("told",.str m)::tl')) K (SG (some r2) k its at' ep):=by
 refine ⟨tl.drop 4,?_,?_⟩
 ·rcases ht with rfl | ⟨a1,a2,a3,a4,a5,a6,a7,a8,a9,b1,b2,rfl⟩
  ·exact .inl rfl
  ·exact .inr ⟨_,_,_,_,_,_,_,rfl⟩
 rcases ht with rfl | ⟨a1,a2,a3,a4,a5,a6,a7,a8,a9,b1,b2,rfl⟩
 all_goals (
  conv=>lhs;whnf
  refine Zb (T.int (j:Int),Kd.val) (σ':=(SG (some r1) k its at' ep)) (still_own.trans (evalE_c.trans ?_)) ?_
  ·conv=>lhs;whnf
   refine Zb _ h1 ?_;rw [←hj];kernel_rfl
  conv=>lhs;whnf
  refine Zb _ (Zv hnm) ?_
  conv=>lhs;whnf
  refine Zb _ h2 ?_;refine Zb _ (Zas hk1) ?_;refine Zb _ (Zdh (by decide +kernel) (by decide +kernel) rfl) ?_
  conv=>lhs;whnf
  refine Zb _ h3 ?_
  conv=>lhs;whnf
  refine Zb (T.str m,Kd.val) (σ':=(SG (some r2) k its at' ep)) (Zk4 (evalE_c.trans ?_)) ?_
  ·conv=>lhs;whnf
   exact Zln h4
  conv=>lhs;whnf
  rw [show decide (m=m)=true from dT rfl]
  conv=>lhs;whnf
  rw [dF hk];kernel_rfl)
theorem Zmo (hk:k≠"NULL")(ht:Zbn tl)(h1:G "_law_next" [.row] (SG (some r) k its at' ep)=.ok (.int x,.val) (SG (some r1) k its at' ep))(hj:Int.fmod x 7=(j:Int))(hnm:([.str "names",.str "dim",.str "dimnames",.str "class",.str "levels",.str "row.names",.str "unit"]:List T)[j]?=some (.str nm))
  (h2:G "_law_value" [.row,.int n] (SG (some r1) k its at' ep)=.ok (V,kd1) (SG (some r2) k its at' ep)) (hk1:kd1≠.h) (seen2:List (Str×T)) (at2:At0) (ep2:Nat) (hk2:kd2≠.h) (h3:G "_law_set" [.dict seen,.str k,.int n,.str nm,V] (SG (some r2) k its at' ep)=.ok (.dict seen2,kd2) (SG (some r2) k its at' ep)) (h4:G "set_attr" [.self,.str nm,V] (SG (some r2) k its at' ep)=.ok (.none,.val) (SG (some r2) k its at2 ep2)):
  ∃tl',Zg7 tl'∧cSs G lawB (LW sc (.str k) (.int n) .self (.dict seen) (("lap",lap)::tl)) K (SG (some r) k its at' ep)=cSs G (lawB.drop 7) (LW sc (.str k) (.int n) .self (.dict seen2) (("lap",lap)::("name",.str nm)::("value",V)::("due",.dict seen2)::("told",.none)::tl')) K (SG (some r2) k its at2 ep2):=by
 refine ⟨tl.drop 4,?_,?_⟩
 ·rcases ht with rfl | ⟨a1,a2,a3,a4,a5,a6,a7,a8,a9,b1,b2,rfl⟩
  ·exact .inl rfl
  ·exact .inr ⟨_,_,_,_,_,_,_,rfl⟩
 rcases ht with rfl | ⟨a1,a2,a3,a4,a5,a6,a7,a8,a9,b1,b2,rfl⟩
 all_goals (
  conv=>lhs;whnf
  refine Zb (T.int (j:Int),Kd.val) (σ':=(SG (some r1) k its at' ep)) (still_own.trans (evalE_c.trans ?_)) ?_
  ·conv=>lhs;whnf
   refine Zb _ h1 ?_;rw [←hj];kernel_rfl
  conv=>lhs;whnf
  refine Zb _ (Zv hnm) ?_
  conv=>lhs;whnf
  refine Zb _ h2 ?_;refine Zb _ (Zas hk1) ?_;refine Zb _ (Zdh (by decide +kernel) (by decide +kernel) rfl) ?_
  conv=>lhs;whnf
  refine Zb _ h3 ?_;refine Zb _ (Zas hk2) ?_;refine Zb _ (Zdh (by decide +kernel) (by decide +kernel) rfl) ?_
  conv=>lhs;whnf
  refine Zb (T.none,Kd.val) (σ':=(SG (some r2) k its at2 ep2)) (Zk3 (evalE_c.trans ?_)) ?_
  ·conv=>lhs;whnf
   exact Zb _ h4 rfl
  conv=>lhs;whnf
  rw [dF hk];kernel_rfl)
theorem Zmn (ht:Zbm tl)(h1:G "_law_next" [.row] ⟨some r,none⟩=.ok (.int x,.val) ⟨some r1,none⟩)(hj:Int.fmod x 7=(j:Int))(hnm:([.str "names",.str "dim",.str "dimnames",.str "class",.str "levels",.str "row.names",.str "unit"]:List T)[j]?=some (.str nm))
  (h2:G "_law_value" [.row,.int n] ⟨some r1,none⟩=.ok (V,kd1) ⟨some r2,none⟩) (hk1:kd1≠.h) (m:Str) (h3:G "_law_set" [.dict seen,.str "NULL",.int n,.str nm,V] ⟨some r2,none⟩=.ok (.str m,.val) ⟨some r2,none⟩) (h4:G "set_attr" [.null,.str nm,V] ⟨some r2,none⟩=.exn m ⟨some r2,none⟩):
  ∃tl',Zbm tl'∧cSs G lawB (LW sc (.str "NULL") (.int n) .null (.dict seen) (("lap",lap)::tl)) K ⟨some r,none⟩=K .cont (LW sc (.str "NULL") (.int n) .null (.dict seen) (("lap",lap)::tl')) ⟨some r2,none⟩:=by
 refine ⟨[("name",.str nm),("value",V),("due",.str m),("told",.str m)],.inr ⟨_,_,_,_,rfl⟩,?_⟩;rcases ht with rfl | ⟨a1,a2,a3,a4,rfl⟩
 all_goals (
  conv=>lhs;whnf
  refine Zb (T.int (j:Int),Kd.val) (σ':=⟨some r1,none⟩) (still_own.trans (evalE_c.trans ?_)) ?_
  ·conv=>lhs;whnf
   refine Zb _ h1 ?_;rw [←hj];kernel_rfl
  conv=>lhs;whnf
  refine Zb _ (Zv hnm) ?_
  conv=>lhs;whnf
  refine Zb _ h2 ?_;refine Zb _ (Zas hk1) ?_;refine Zb _ (Zdh (by decide +kernel) (by decide +kernel) rfl) ?_
  conv=>lhs;whnf
  refine Zb _ h3 ?_
  conv=>lhs;whnf
  refine Zb (T.str m,Kd.val) (σ':=⟨some r2,none⟩) (Zk4 (evalE_c.trans ?_)) ?_
  ·conv=>lhs;whnf
   exact Zln h4
  conv=>lhs;whnf
  rw [show decide (m=m)=true from dT rfl];kernel_rfl)
theorem Zmm (ht:Zbm tl)(h1:G "_law_next" [.row] ⟨some r,none⟩=.ok (.int x,.val) ⟨some r1,none⟩)(hj:Int.fmod x 7=(j:Int))(hnm:([.str "names",.str "dim",.str "dimnames",.str "class",.str "levels",.str "row.names",.str "unit"]:List T)[j]?=some (.str nm))
  (h2:G "_law_value" [.row,.int n] ⟨some r1,none⟩=.ok (V,kd1) ⟨some r2,none⟩) (hk1:kd1≠.h) (h3:G "_law_set" [.dict seen,.str "NULL",.int n,.str nm,V] ⟨some r2,none⟩=.ok (.dict seen,.val) ⟨some r2,none⟩) (h4:G "set_attr" [.null,.str nm,V] ⟨some r2,none⟩=.ok (.none,.val) ⟨some r2,none⟩):
  ∃tl',Zbm tl'∧cSs G lawB (LW sc (.str "NULL") (.int n) .null (.dict seen) (("lap",lap)::tl)) K ⟨some r,none⟩=K .cont (LW sc (.str "NULL") (.int n) .null (.dict seen) (("lap",lap)::tl')) ⟨some r2,none⟩:=by
 refine ⟨[("name",.str nm),("value",V),("due",.dict seen),("told",.none)],.inr ⟨_,_,_,_,rfl⟩,?_⟩;rcases ht with rfl | ⟨a1,a2,a3,a4,rfl⟩
 all_goals (
  conv=>lhs;whnf
  refine Zb (T.int (j:Int),Kd.val) (σ':=⟨some r1,none⟩) (still_own.trans (evalE_c.trans ?_)) ?_
  ·conv=>lhs;whnf
   refine Zb _ h1 ?_;rw [←hj];kernel_rfl
  conv=>lhs;whnf
  refine Zb _ (Zv hnm) ?_
  conv=>lhs;whnf
  refine Zb _ h2 ?_;refine Zb _ (Zas hk1) ?_;refine Zb _ (Zdh (by decide +kernel) (by decide +kernel) rfl) ?_
  conv=>lhs;whnf
  refine Zb _ h3 ?_
  conv=>lhs;whnf
  refine Zb (T.none,Kd.val) (σ':=⟨some r2,none⟩) (Zk3 (evalE_c.trans ?_)) ?_
  ·conv=>lhs;whnf
   exact Zb _ h4 rfl
  kernel_rfl)
end
def Zg6 (l:List (Str×T)):Prop:=l=[]∨∃w0 w1 w2 w3 w4 w5 w6,l=([("shown",w0),("sides",w1),("lists",w2),("names",w3),("classes",w4),("by_dims",w5),("plain_one",w6)]:List (Str×T))
def Zli (l:List (Str×T)):Prop:=l=[]∨∃w0 w1 w2 w3 w4 w5,l=([("sides",w0),("lists",w1),("names",w2),("classes",w3),("by_dims",w4),("plain_one",w5)]:List (Str×T))
def Zlj (l:List (Str×T)):Prop:=l=[]∨∃w0 w1 w2 w3 w4,l=([("lists",w0),("names",w1),("classes",w2),("by_dims",w3),("plain_one",w4)]:List (Str×T))
def Zez (l:List (Str×T)):Prop:=l=[]∨∃w0 w1 w2 w3,l=([("names",w0),("classes",w1),("by_dims",w2),("plain_one",w3)]:List (Str×T))
def Ze0 (l:List (Str×T)):Prop:=l=[]∨∃w0 w1 w2,l=([("classes",w0),("by_dims",w1),("plain_one",w2)]:List (Str×T))
def Zlk (l:List (Str×T)):Prop:=l=[]∨∃w0 w1,l=([("by_dims",w0),("plain_one",w1)]:List (Str×T))
def Zll (l:List (Str×T)):Prop:=l=[]∨∃w0,l=([("plain_one",w0)]:List (Str×T))
theorem Zde {a b:T}{kd:Kd}{σ:Sg}(hk:kd≠.h)(ha:a≠.row)(h:eqT eqN a b=some true):cmpK .NotEq (a,kd) b σ=.ok (.bool false) σ:=by
 unfold cmpK;rw [if_neg hk];have e:cmpT .NotEq a b=some false:=by
  show (eqT eqN a b).map (!·)=_;rw [h];rfl
 show cmpM .NotEq a b σ=_;have e2:cmpM .NotEq a b σ=match cmpT .NotEq a b with | some r=>(Res.ok (T.bool r) σ:Res T) | none=>.stuck:=by
  cases a<;>first | rfl | exact absurd rfl ha
 rw [e2,e]
theorem Zk9 (b:Bool)(kd:Kd)(σ:Sg):Za9 (.bool b,kd) σ=.ok b σ:=rfl
def lawS (i:Nat):Stmt:=(lawB[i]?).getD (.Pass default)
def kAt (G:Calls)(K:Out→Lv→M (T×Kd))(i:Nat):Out→Lv→M (T×Kd):=fun o L'=>match o with
 |.next=>cSs G (lawB.drop i) L' K
 |o=>K o L'
abbrev L5 (sc:T)(k:Str)(n:Nat)(seen:List (Str×T))(lap nv V due told:T)(rest:List (Str×T)):Lv:=LW sc (.str k) (.int n) .self (.dict seen) (("lap",lap)::("name",nv)::("value",V)::("due",due)::("told",told)::rest)
def Zd1:T→T
 |.tup (_::u::_)=>u
 |_=>.none
section
variable (G:Calls)(K:Out→Lv→M (T×Kd))(sc:T)(k:Str)(n:Nat)(seen:List (Str×T))(lap nv V due told sh X Y N0 Z:T)(W U:List T)(tl:List (Str×T))(σ:Sg)
theorem Zmk (ht:Zg6 tl)(SH a b:T)(hv:G "_law_view" [.self] σ=.ok (.tup [a,b,SH],.val) σ):∃tl',Zli tl'∧cS G (lawS 7) (L5 sc k n seen lap nv V due told (tl)) K σ=K .next (L5 sc k n seen lap nv V due told (("shown",SH)::tl')) σ:=by
 rcases ht with rfl | ⟨w0,w1,w2,w3,w4,w5,w6,rfl⟩
 ·refine ⟨[],.inl rfl,?_⟩
  conv=>lhs;whnf
  refine Zb _ hv ?_;rfl
 ·refine ⟨([("sides",w1),("lists",w2),("names",w3),("classes",w4),("by_dims",w5),("plain_one",w6)]:List (Str×T)),.inr ⟨_,_,_,_,_,_,rfl⟩,?_⟩
  conv=>lhs;whnf
  refine Zb _ hv ?_;rfl
theorem Zmj (rest:List (Str×T))(SH:List (Str×T))(he:eqT eqN (.dict SH) (.dict seen)=some true):cS G (lawS 8) (L5 sc k n seen lap nv V due told (("shown",.dict SH)::tl)) K σ=K .next (L5 sc k n seen lap nv V due told (("shown",.dict SH)::tl)) σ:=by
  refine Eq.trans (b:=(cmpK .NotEq (T.dict SH,Kd.val) (T.dict seen)>>=fun c=>Za9 (c,Kd.val)>>=fun c=>if c=true then cSs G (Ji (lawB[8]?)) (L5 sc k n seen lap nv V due told (("shown",.dict SH)::tl)) K else cSs G [] (L5 sc k n seen lap nv V due told (("shown",.dict SH)::tl)) K:M (T×Kd)) σ) (by kernel_rfl) ?_;rw [Zh (Zde (by simp) (by simp) he),Zh (Zk9 _ _ _),if_neg (by simp)];rfl
theorem Zmi (ht:Zli tl)(h:(seen.lookup ("dim":Str)=none∧X=.none)∨∃a b ts,seen.lookup ("dim":Str)=some (.tup [a,.list ts,b])∧X=.list ts):∃tl',Zlj tl'∧cS G (lawS 9) (L5 sc k n seen lap nv V due told (("shown",sh)::tl)) K σ=K .next (L5 sc k n seen lap nv V due told (("shown",sh)::("sides",X)::tl')) σ:=by
 rcases ht with rfl | ⟨w0,w1,w2,w3,w4,w5,rfl⟩
 ·refine ⟨[],.inl rfl,?_⟩;rcases h with ⟨hs,rfl⟩ | ⟨a,b,ts,hs,rfl⟩
  ·conv=>lhs;whnf
   rw [hs];rfl
  ·conv=>lhs;whnf
   rw [hs]
   conv=>lhs;whnf
   refine Zb _ (Qw hs) ?_;rfl
 ·refine ⟨([("lists",w1),("names",w2),("classes",w3),("by_dims",w4),("plain_one",w5)]:List (Str×T)),.inr ⟨_,_,_,_,_,rfl⟩,?_⟩;rcases h with ⟨hs,rfl⟩ | ⟨a,b,ts,hs,rfl⟩
  ·conv=>lhs;whnf
   rw [hs];rfl
  ·conv=>lhs;whnf
   rw [hs]
   conv=>lhs;whnf
   refine Zb _ (Qw hs) ?_;rfl
theorem Zmz (ht:Zlj tl) :∃tl',Zez tl'∧cS G (lawS 10) (L5 sc k n seen lap nv V due told (("shown",sh)::("sides",X)::tl)) K σ=K .next (L5 sc k n seen lap nv V due told (("shown",sh)::("sides",X)::("lists",.none)::tl')) σ:=by
 rcases ht with rfl | ⟨w0,w1,w2,w3,w4,rfl⟩
 ·refine ⟨[],.inl rfl,?_⟩;rfl
 ·refine ⟨([("names",w1),("classes",w2),("by_dims",w3),("plain_one",w4)]:List (Str×T)),.inr ⟨_,_,_,_,rfl⟩,?_⟩;rfl
theorem Zmy (ht:Zez tl)(h:(seen.lookup ("dimnames":Str)=none∧Y=.none)∨∃a b ps,seen.lookup ("dimnames":Str)=some (.tup [a,.list ps,b])∧(∀p∈ps,p=.str "NULL"∨∃u v w,p=.tup [u,v,w])∧Y=.list (ps.map Zd1)):∃tl',Zez tl'∧cS G (lawS 11) (L5 sc k n seen lap nv V due told (("shown",sh)::("sides",X)::("lists",.none)::tl)) K σ=K .next (L5 sc k n seen lap nv V due told (("shown",sh)::("sides",X)::("lists",Y)::tl')) σ:=by
 rcases ht with rfl | ⟨w0,w1,w2,w3,rfl⟩
 ·refine ⟨[],.inl rfl,?_⟩;rcases h with ⟨hs,rfl⟩ | ⟨a,b,ps,hs,hp,rfl⟩
  ·conv=>lhs;whnf
   rw [hs];rfl
  ·conv=>lhs;whnf
   rw [hs]
   conv=>lhs;whnf
   refine Zb _ (Qw hs) ?_
   conv=>lhs;whnf
   rw [Qz Zd1]
   ·rfl
   ·intro t ht;rfl
   ·intro t ht;rcases hp t ht with rfl | ⟨u,v,w,rfl⟩
    ·exact ⟨.val,by simp,by kernel_rfl⟩
    ·exact ⟨.val,by simp,by kernel_rfl⟩
 ·refine ⟨([("names",w0),("classes",w1),("by_dims",w2),("plain_one",w3)]:List (Str×T)),.inr ⟨_,_,_,_,rfl⟩,?_⟩;rcases h with ⟨hs,rfl⟩ | ⟨a,b,ps,hs,hp,rfl⟩
  ·conv=>lhs;whnf
   rw [hs];rfl
  ·conv=>lhs;whnf
   rw [hs]
   conv=>lhs;whnf
   refine Zb _ (Qw hs) ?_
   conv=>lhs;whnf
   rw [Qz Zd1]
   ·rfl
   ·intro t ht;rfl
   ·intro t ht;rcases hp t ht with rfl | ⟨u,v,w,rfl⟩
    ·exact ⟨.val,by simp,by kernel_rfl⟩
    ·exact ⟨.val,by simp,by kernel_rfl⟩
theorem Zmx (ht:Zez tl)(h:(seen.lookup ("names":Str)=none∧N0=.none)∨∃a b ts,seen.lookup ("names":Str)=some (.tup [a,.list ts,b])∧N0=.list ts):∃tl',Ze0 tl'∧cS G (lawS 12) (L5 sc k n seen lap nv V due told (("shown",sh)::("sides",X)::("lists",Y)::tl)) K σ=K .next (L5 sc k n seen lap nv V due told (("shown",sh)::("sides",X)::("lists",Y)::("names",N0)::tl')) σ:=by
 rcases ht with rfl | ⟨w0,w1,w2,w3,rfl⟩
 ·refine ⟨[],.inl rfl,?_⟩;rcases h with ⟨hs,rfl⟩ | ⟨a,b,ts,hs,rfl⟩
  ·conv=>lhs;whnf
   rw [hs];rfl
  ·conv=>lhs;whnf
   rw [hs]
   conv=>lhs;whnf
   refine Zb _ (Qw hs) ?_;rfl
 ·refine ⟨([("classes",w1),("by_dims",w2),("plain_one",w3)]:List (Str×T)),.inr ⟨_,_,_,rfl⟩,?_⟩;rcases h with ⟨hs,rfl⟩ | ⟨a,b,ts,hs,rfl⟩
  ·conv=>lhs;whnf
   rw [hs];rfl
  ·conv=>lhs;whnf
   rw [hs]
   conv=>lhs;whnf
   refine Zb _ (Qw hs) ?_;rfl
theorem Zmw (ht:Ze0 tl)(h:(X=.none∧Z=N0)∨(∃ds,X=.list ds∧ds.length≠1∧Z=N0)∨∃ds,X=.list ds∧ds.length=1∧((Y=.none∧Z=.none)∨∃ps,Y=.list (Z::ps))):∃tl',Ze0 tl'∧cS G (lawS 13) (L5 sc k n seen lap nv V due told (("shown",sh)::("sides",X)::("lists",Y)::("names",N0)::tl)) K σ=K .next (L5 sc k n seen lap nv V due told (("shown",sh)::("sides",X)::("lists",Y)::("names",Z)::tl')) σ:=by
 rcases ht with rfl | ⟨w0,w1,w2,rfl⟩
 ·refine ⟨[],.inl rfl,?_⟩;rcases h with ⟨rfl,rfl⟩ | ⟨ds,rfl,h1,rfl⟩ | ⟨ds,rfl,h1,⟨rfl,rfl⟩ | ⟨ps,rfl⟩⟩
  ·rfl
  ·conv=>lhs;whnf
   rw [show decide ((ds.length:Int)=1)=false from dF (by omega)];rfl
  ·conv=>lhs;whnf
   rw [show decide ((ds.length:Int)=1)=true from dT (by omega)];rfl
  ·conv=>lhs;whnf
   rw [show decide ((ds.length:Int)=1)=true from dT (by omega)];rfl
 ·refine ⟨([("classes",w0),("by_dims",w1),("plain_one",w2)]:List (Str×T)),.inr ⟨_,_,_,rfl⟩,?_⟩;rcases h with ⟨rfl,rfl⟩ | ⟨ds,rfl,h1,rfl⟩ | ⟨ds,rfl,h1,⟨rfl,rfl⟩ | ⟨ps,rfl⟩⟩
  ·rfl
  ·conv=>lhs;whnf
   rw [show decide ((ds.length:Int)=1)=false from dF (by omega)];rfl
  ·conv=>lhs;whnf
   rw [show decide ((ds.length:Int)=1)=true from dT (by omega)];rfl
  ·conv=>lhs;whnf
   rw [show decide ((ds.length:Int)=1)=true from dT (by omega)];rfl
theorem Zmv (ht:Ze0 tl)(h:(seen.lookup ("class":Str)=none∧N0=.list [])∨∃a b ts,seen.lookup ("class":Str)=some (.tup [a,.list ts,b])∧N0=.list ts):∃tl',Zlk tl'∧cS G (lawS 14) (L5 sc k n seen lap nv V due told (("shown",sh)::("sides",X)::("lists",Y)::("names",Z)::tl)) K σ=K .next (L5 sc k n seen lap nv V due told (("shown",sh)::("sides",X)::("lists",Y)::("names",Z)::("classes",N0)::tl')) σ:=by
 rcases ht with rfl | ⟨w0,w1,w2,rfl⟩
 ·refine ⟨[],.inl rfl,?_⟩;rcases h with ⟨hs,rfl⟩ | ⟨a,b,ts,hs,rfl⟩
  ·conv=>lhs;whnf
   rw [hs];rfl
  ·conv=>lhs;whnf
   rw [hs]
   conv=>lhs;whnf
   refine Zb _ (Qw hs) ?_;rfl
 ·refine ⟨([("by_dims",w1),("plain_one",w2)]:List (Str×T)),.inr ⟨_,_,rfl⟩,?_⟩;rcases h with ⟨hs,rfl⟩ | ⟨a,b,ts,hs,rfl⟩
  ·conv=>lhs;whnf
   rw [hs];rfl
  ·conv=>lhs;whnf
   rw [hs]
   conv=>lhs;whnf
   refine Zb _ (Qw hs) ?_;rfl
theorem Zmu (ht:Zlk tl)(h:(X=.none∧U=[])∨∃ds,X=.list ds∧U=if ds.length=2 then [.str "matrix",.str "array"] else [.str "array"]):∃tl',Zll tl'∧cS G (lawS 15) (L5 sc k n seen lap nv V due told (("shown",sh)::("sides",X)::("lists",Y)::("names",Z)::("classes",.list W)::tl)) K σ=K .next (L5 sc k n seen lap nv V due told (("shown",sh)::("sides",X)::("lists",Y)::("names",Z)::("classes",.list W)::("by_dims",.list U)::tl')) σ:=by
 rcases ht with rfl | ⟨w0,w1,rfl⟩
 ·refine ⟨[],.inl rfl,?_⟩;rcases h with ⟨rfl,rfl⟩ | ⟨ds,rfl,rfl⟩
  ·rfl
  ·by_cases h2:ds.length=2
   ·rw [if_pos h2]
    conv=>lhs;whnf
    rw [show decide ((ds.length:Int)=2)=true from dT (by omega)];rfl
   ·rw [if_neg h2]
    conv=>lhs;whnf
    rw [show decide ((ds.length:Int)=2)=false from dF (by omega)];rfl
 ·refine ⟨([("plain_one",w1)]:List (Str×T)),.inr ⟨_,rfl⟩,?_⟩;rcases h with ⟨rfl,rfl⟩ | ⟨ds,rfl,rfl⟩
  ·rfl
  ·by_cases h2:ds.length=2
   ·rw [if_pos h2]
    conv=>lhs;whnf
    rw [show decide ((ds.length:Int)=2)=true from dT (by omega)];rfl
   ·rw [if_neg h2]
    conv=>lhs;whnf
    rw [show decide ((ds.length:Int)=2)=false from dF (by omega)];rfl
end
abbrev L11 (sc:T)(k:Str)(n:Nat)(seen:List (Str×T))(lap nv V due told sh X Y Z:T)(W U:List T)(rest:List (Str×T)):Lv:=L5 sc k n seen lap nv V due told (("shown",sh)::("sides",X)::("lists",Y)::("names",Z)::("classes",.list W)::("by_dims",.list U)::rest)
theorem Zu2 (l:List T)(p:T→Bool):decide ((0:Int) < ((l.filter p).length:Int))=l.any p:=by
 induction l with
 |nil=>rfl
 |cons a r ih=>
  rw [List.any_cons,List.filter_cons]
  cases h:p a with
  |true=>rw [if_pos rfl,Bool.true_or];exact dT (by simp)
  |false=>rw [if_neg (by simp),Bool.false_or];exact ih
section
variable (G:Calls)(K:Out→Lv→M (T×Kd))(sc:T)(k:Str)(n:Nat)(seen:List (Str×T))(lap nv V due told sh X Y Z:T)(W U:List T)(tl:List (Str×T))(σ:Sg)
theorem Zmt (k1 k2 k3:Kd)(q1:k1≠.h)(q2:k2≠.h)(q3:k3≠.h)(h1:G "names_of" [.self] σ=.ok (Z,k1) σ)(h2:G "dim_of" [.self] σ=.ok (X,k2) σ)(h3:G "dimnames_of" [.self] σ=.ok (Y,k3) σ)(h4:G "class_attr" [.self] σ=.ok (.list W,.own) σ)(he:eqT eqN (.list [Z,X,Y,.list W]) (.list [Z,X,Y,.list W])=some true):
  cS G (lawS 16) (L11 sc k n seen lap nv V due told sh X Y Z W U (tl)) K σ=K .next (L11 sc k n seen lap nv V due told sh X Y Z W U (tl)) σ:=by
 conv=>lhs;whnf
 refine Zb _ h1 ?_;refine Zb _ (Zas q1) ?_
 conv=>lhs;whnf
 refine Zb _ h2 ?_;refine Zb _ (Zas q2) ?_
 conv=>lhs;whnf
 refine Zb _ h3 ?_;refine Zb _ (Zas q3) ?_
 conv=>lhs;whnf
 refine Zb _ h4 ?_;refine Eq.trans (b:=(cmpK .NotEq (T.list [Z,X,Y,.list W],Kd.own) (T.list [Z,X,Y,.list W])>>=fun c=>Za9 (c,Kd.val)>>=fun c=>if c=true then cSs G (Ji (lawB[16]?)) (L11 sc k n seen lap nv V due told sh X Y Z W U (tl)) K else cSs G [] (L11 sc k n seen lap nv V due told sh X Y Z W U (tl)) K:M (T×Kd)) σ) (by kernel_rfl) ?_;rw [Zh (Zde (by simp) (by simp) he),Zh (Zk9 _ _ _),if_neg (by simp)];rfl
theorem Zms (hk:k∈(["integer","double","character","logical","list"]:List Str))(hU:U=[]∨U=[.str "matrix",.str "array"]∨U=[.str "array"])(h1:G "implicit_class" [.self] σ=.ok (.list (U++[.str k]++numT k),.own) σ)(he:eqT eqN (.list (U++[.str k]++numT k)) (.list (U++[.str k]++numT k))=some true):
  cS G (lawS 17) (L11 sc k n seen lap nv V due told sh X Y Z W U (tl)) K σ=K .next (L11 sc k n seen lap nv V due told sh X Y Z W U (tl)) σ:=by
 conv=>lhs;whnf
 refine Zb _ h1 ?_;refine Zb (T.list (U++[.str k]++numT k)) (σ':=σ) ?_ ?_
 ·simp only [List.mem_cons,List.not_mem_nil,or_false] at hk;rcases hk with rfl | rfl | rfl | rfl | rfl<;>rcases hU with rfl | rfl | rfl<;>kernel_rfl
 refine Zb _ (Zde (by simp) (by simp) he) ?_;rfl
theorem Zmr (ht:Zll tl):cS G (lawS 18) (L11 sc k n seen lap nv V due told sh X Y Z W U (tl)) K σ=K .next (L11 sc k n seen lap nv V due told sh X Y Z W U ([("plain_one",.str (Zah k))])) σ:=by
 rcases ht with rfl | ⟨w0,rfl⟩
 all_goals (
  unfold Zah
  by_cases hk:k="double"
  ·rw [if_pos hk]
   conv=>lhs;whnf
   rw [dT hk];rfl
  ·rw [if_neg hk]
   conv=>lhs;whnf
   rw [dF hk];rfl)
def clsV (W U:List T)(k:Str):List T:=match W with
 |u::us=>u::us
 |[]=>match U with
  |u::us=>u::us
  |[]=>[.str (Zah k)]
theorem Zmq:cS G (lawS 19) (L11 sc k n seen lap nv V due told sh X Y Z W U ([("plain_one",.str (Zah k))])) K σ=K .next (L11 sc k n seen lap nv V (.list (clsV W U k)) told sh X Y Z W U ([("plain_one",.str (Zah k))])) σ:=by
 unfold clsV
 cases W with
 |cons u us=>kernel_rfl
 |nil=>
  cases U with
  |cons u us=>kernel_rfl
  |nil=>kernel_rfl
theorem Zml (C:List T)(hC:∀t∈C,lab0 t)(rest:List (Str×T))(kd:Kd)(hkd:kd≠.h)(h1:G "class_of" [.self] σ=.ok (.list C,kd) σ)(h2:G "inherits" [.self,.list [.str "matrix",.str "b"]] σ=.ok (.bool (C.any mbT),.val) σ)(he:eqT eqN (.list C) (.list C)=some true):
  cS G (lawS 20) (L11 sc k n seen lap nv V (.list C) told sh X Y Z W U (rest)) K σ=K .next (L11 sc k n seen lap nv V (.list C) told sh X Y Z W U (rest)) σ:=by
 conv=>lhs;whnf
 refine Zb _ h1 ?_;refine Zb (T.list C) (σ':=σ) rfl ?_;refine Zb _ (Zde hkd (by simp) he) ?_
 conv=>lhs;whnf
 refine Zb _ h2 ?_;refine Zb (T.bool (C.any mbT)) (σ':=σ) ?_ ?_
 ·conv=>lhs;whnf
  refine Zb (T.bool (C.any mbT),Kd.val) (σ':=σ) (evalE_c.trans ?_) rfl
  conv=>lhs;whnf
  refine Zb (T.int ((C.filter mbT).length:Nat),Kd.val) (σ':=σ) ?_ ?_
  ·conv=>lhs;whnf
   refine Zb (T.list (C.filter mbT)) (σ':=σ) ?_ rfl
   conv=>lhs;whnf
   refine Zb (T.list (C.filter mbT),Kd.own) (σ':=σ) (evalE_c.trans ?_) rfl
   conv=>lhs;whnf
   refine Zb _ (Zfa mbT ?_ ?_) rfl
   ·intro t ht;rcases hC t ht with rfl | ⟨x,rfl⟩
    ·kernel_rfl
    ·refine Qi ?_;have e:(([(T.str "matrix",Kd.val),(T.str "b",Kd.val)]:List (T×Kd)).map (fun x=>x.1)).any (isK x)=mbT (.str x):=rfl;cases hb:mbT (.str x)
     all_goals (
      conv=>lhs;whnf
      rw [show (([(T.str "matrix",Kd.val),(T.str "b",Kd.val)]:List (T×Kd)).map (fun x=>x.1)).any (isK x)=_ from e.trans hb];rfl)
   ·intro t ht;exact ⟨.val,by simp,rfl⟩
  ·rw [←Zu2 C mbT];rfl
 have hb:eqT eqN (.bool (C.any mbT)) (.bool (C.any mbT))=some true:=by
  show some (C.any mbT == C.any mbT)=_;rw [beq_self_eq_true]
 refine Zb _ (Zde (by simp) (by simp) hb) ?_;rfl
end
theorem Ja {G:Calls}{K:Out→Lv→M (T×Kd)}{i:Nat}{L L':Lv}{σ:Sg}(hi:lawB.drop i=lawS i::lawB.drop (i+1))(h:cS G (lawS i) L (kAt G K (i+1)) σ=kAt G K (i+1) .next L' σ):cSs G (lawB.drop i) L K σ=cSs G (lawB.drop (i+1)) L' K σ:=by
 rw [hi];exact h
theorem Zq3:lawB.drop 7=lawS 7::lawB.drop 8∧lawB.drop 8=lawS 8::lawB.drop 9∧lawB.drop 9=lawS 9::lawB.drop 10∧lawB.drop 10=lawS 10::lawB.drop 11∧lawB.drop 11=lawS 11::lawB.drop 12∧lawB.drop 12=lawS 12::lawB.drop 13∧lawB.drop 13=lawS 13::lawB.drop 14∧lawB.drop 14=lawS 14::lawB.drop 15∧lawB.drop 15=lawS 15::lawB.drop 16∧lawB.drop 16=lawS 16::lawB.drop 17∧lawB.drop 17=lawS 17::lawB.drop 18∧lawB.drop 18=lawS 18::lawB.drop 19∧lawB.drop 19=lawS 19::lawB.drop 20∧lawB.drop 20=lawS 20::lawB.drop 21∧lawB.drop 21=[]:=by
 refine ⟨?_,?_,?_,?_,?_,?_,?_,?_,?_,?_,?_,?_,?_,?_,?_⟩<;>kernel_rfl
structure Inv (k:Str) (n:Nat) (its:List T) (at':At0) (seen:List (Str×T)) (c:Nat):Prop where
 O:Ok k n its at'
 S:Qu (lkA at')
 E:Seen seen (lkA at')
 sz:(at'.getD []).length≤c
 sz2:seen.length≤c
 hit:k="list"→∀t∈its,t=.null
theorem Zc4 {m:Nat}{us:List T}(h:∀u∈us,lab0 u):eqT (m+2) (.list us) (.list us)=some true:=Zbi fun a ha=>Zkh (h a ha)
theorem Zc3 (m:Nat):eqT (m+1) .none .none=some true:=rfl
theorem Zkf {m:Nat}{p:T}(h:p=.null∨chrT p):eqT (m+2) (J2 p) (J2 p)=some true:=by
 rcases h with rfl | ⟨us,rfl,hu⟩
 ·exact Zc3 _
 ·exact Zc4 hu
theorem Zsu {lk:Lk}(S:Qu lk):eqT eqN (.list [Qe lk,Zw (lk "dim"),Qj (lk "dimnames"),.list (clsR lk)]) (.list [Qe lk,Zw (lk "dim"),Qj (lk "dimnames"),.list (clsR lk)])=some true:=by
 have hdim:eqT 8 (Zw (lk "dim")) (Zw (lk "dim"))=some true:=by
  rcases Zat S with h | ⟨ds,_,_,h⟩
  ·rw [h];exact Zc3 _
  ·rw [h];exact Zbi (m:=7) fun a ha=>by obtain ⟨i,_,rfl⟩:=List.mem_map.mp ha;exact Zgj _ i
 have hcls:eqT 8 (.list (clsR lk)) (.list (clsR lk))=some true:=by
  unfold clsR;rcases Zdr S with h | ⟨u,us,h,hu⟩
  ·rw [h];rfl
  ·rw [h];exact Zc4 (m:=6) hu
 have hdn:eqT 8 (Qj (lk "dimnames")) (Qj (lk "dimnames"))=some true:=by
  rcases Zbt S with h | ⟨p,ps,hh,h,hq⟩
  ·rw [h];exact Zc3 _
  ·rw [h];exact Zbi (m:=7) fun a ha=>by obtain ⟨q,hm,rfl⟩:=List.mem_map.mp ha;exact Zkf (m:=5) (hq q hm)
 have hnm:eqT 8 (Qe lk) (Qe lk)=some true:=by
  unfold Qe;split
  ·rcases Zbt S with h | ⟨p,ps,hh,h,hq⟩
   ·rw [h];exact Zc3 _
   ·rw [h];exact Zkf (m:=6) (hq p (by simp))
  ·rcases Zdq S with h | ⟨us,h,hu⟩
   ·rw [h];exact Zc3 _
   ·rw [h];exact Zc4 (m:=6) hu
 refine Zbi (m:=8) fun a ha=>?_
 simp only [List.mem_cons,List.not_mem_nil,or_false] at ha;rcases ha with rfl | rfl | rfl | rfl
 ·exact hnm
 ·exact hdim
 ·exact hdn
 ·exact hcls
theorem Zk7 (lk:Lk):byD lk=[]∨byD lk=[.str "matrix",.str "array"]∨byD lk=[.str "array"]:=by
 unfold byD;split
 ·exact .inl rfl
 ·split
  ·exact .inr (.inl rfl)
  ·exact .inr (.inr rfl)
theorem Zst (lk:Lk)(k:Str):eqT eqN (.list (byD lk++[.str k]++numT k)) (.list (byD lk++[.str k]++numT k))=some true:=by
 refine Zc4 (m:=7) fun u hu=>?_
 have h1:∀u∈byD lk,lab0 u:=fun u hu=>by
  rcases Zk7 lk with h | h | h<;>rw [h] at hu
  ·exact absurd hu List.not_mem_nil
  ·simp only [List.mem_cons,List.not_mem_nil,or_false] at hu;rcases hu with rfl | rfl<;>exact .inr ⟨_,rfl⟩
  ·rw [List.mem_singleton.mp hu];exact .inr ⟨_,rfl⟩
 rcases List.mem_append.mp hu with h | h
 ·rcases List.mem_append.mp h with h | h
  ·exact h1 u h
  ·rw [List.mem_singleton.mp h];exact .inr ⟨_,rfl⟩
 ·unfold numT at h;split at h
  ·rw [List.mem_singleton.mp h];exact .inr ⟨_,rfl⟩
  ·exact absurd h List.not_mem_nil
section
variable (d:Nat)(K:Out→Lv→M (T×Kd))(sc:T){k:Str}{n:Nat}{its:List T}{at':At0}{seen:List (Str×T)}{c:Nat}(I:Inv k n its at' seen c)(ep:Nat)(r:List Int)(lap nv V due told:T)
include I
theorem Zho (tl:List (Str×T))(ht:Zg6 tl):∃tl',Zbn tl'∧cSs (Zd (d+15)) (lawB.drop 7) (LW sc (.str k) (.int n) .self (.dict seen) (("lap",lap)::("name",nv)::("value",V)::("due",due)::("told",told)::tl)) K (SG (some r) k its at' ep)=K .next (LW sc (.str k) (.int n) .self (.dict seen) (("lap",lap)::tl')) (SG (some r) k its at' ep):=by
 obtain ⟨O,S,E,_,_,hit⟩:=I;obtain ⟨c7,c8,c9,c10,c11,c12,c13,c14,c15,c16,c17,c18,c19,c20,c21⟩:=Zq3;have hview:=Zlq (Zd (d+14)) (some r) k its at' ep O.hk O.nd (fun hl t ht=>by
  rw [hit hl t ht];exact Zhf (d+13) _) (fun p hp=>by
  have hg:=(S p.1 p.2 (Jt O.nd hp)).good;rcases hg with ⟨k',ts,hk',e,_⟩ | ⟨ps,h,e,hps,_⟩
  ·rw [e];simp only [List.mem_cons,List.not_mem_nil,or_false] at hk';rw [Zf];rcases hk' with rfl | rfl | rfl | rfl
   ·exact Ze7 _ _ ts
   ·exact Zhi _ _ ts
   ·exact Zhj _ _ ts
   ·exact Zhh _ _ ts
  ·rw [e];exact Zhg (d+12) _ ps h (fun q hq=>by
    rcases hps q hq with q' | ⟨us,q',_⟩
    ·exact .inl q'
    ·exact .inr ⟨us,q'⟩))
 rw [←Zf] at hview;have heq:=Zlt O.nd E.nd E.at' (fun y t h=>(S y t h).good);obtain ⟨t7,ht7,e7⟩:=Zmk (Zd (d+15)) (kAt (Zd (d+15)) K 8) sc k n seen lap nv V due told tl (SG (some r) k its at' ep) ht (.dict ((at'.getD []).map fun p=>(p.1,vw p.2))) _ _ hview;rw [Ja c7 e7];rw [Ja c8 (Zmj (Zd (d+15)) (kAt (Zd (d+15)) K 9) sc k n seen lap nv V due told t7 (SG (some r) k its at' ep) [] _ heq)];have hX:(seen.lookup ("dim":Str)=none∧Zw (lkA at' "dim")=.none)∨∃a b ts,seen.lookup ("dim":Str)=some (.tup [a,.list ts,b])∧Zw (lkA at' "dim")=.list ts:=by
  rcases Zat S with h | ⟨ds,_,_,h⟩
  ·exact .inl ⟨by rw [E.at',h];rfl,by rw [h];rfl⟩
  ·exact .inr ⟨_,_,ds.map .int,by rw [E.at',h];rfl,by rw [h];rfl⟩
 obtain ⟨t9,ht9,e9⟩:=Zmi (Zd (d+15)) (kAt (Zd (d+15)) K 10) sc k n seen lap nv V due told _ (Zw (lkA at' "dim")) t7 (SG (some r) k its at' ep) ht7 hX;rw [Ja c9 e9];obtain ⟨t10,ht10,e10⟩:=Zmz (Zd (d+15)) (kAt (Zd (d+15)) K 11) sc k n seen lap nv V due told _ (Zw (lkA at' "dim")) t9 (SG (some r) k its at' ep) ht9;rw [Ja c10 e10];have hY:(seen.lookup ("dimnames":Str)=none∧Qj (lkA at' "dimnames")=.none)∨∃a b ps,seen.lookup ("dimnames":Str)=some (.tup [a,.list ps,b])∧(∀p∈ps,p=.str "NULL"∨∃u v w,p=.tup [u,v,w])∧Qj (lkA at' "dimnames")=.list (ps.map Zd1):=by
  rcases Zbt S with h | ⟨p,ps,hh,h,hq⟩
  ·exact .inl ⟨by rw [E.at',h];rfl,by rw [h];rfl⟩
  ·refine .inr ⟨_,_,(p::ps).map vw0,by rw [E.at',h];rfl,fun q hm=>?_,?_⟩
   ·obtain ⟨q',hm',rfl⟩:=List.mem_map.mp hm;rcases hq q' hm' with rfl | ⟨us,rfl,_⟩
    ·exact .inl rfl
    ·exact .inr ⟨_,_,_,rfl⟩
   ·rw [h,List.map_map];show T.list ((p::ps).map J2)=_;congr 1;refine List.map_congr_left fun q hm=>?_
    rcases hq q hm with rfl | ⟨us,rfl,_⟩<;>rfl
 obtain ⟨t11,ht11,e11⟩:=Zmy (Zd (d+15)) (kAt (Zd (d+15)) K 12) sc k n seen lap nv V due told _ (Zw (lkA at' "dim")) (Qj (lkA at' "dimnames")) t10 (SG (some r) k its at' ep) ht10 hY;rw [Ja c11 e11];have hN:(seen.lookup ("names":Str)=none∧Zw (lkA at' "names")=.none)∨∃a b ts,seen.lookup ("names":Str)=some (.tup [a,.list ts,b])∧Zw (lkA at' "names")=.list ts:=by
  rcases Zdq S with h | ⟨us,h,_⟩
  ·exact .inl ⟨by rw [E.at',h];rfl,by rw [h];rfl⟩
  ·exact .inr ⟨_,_,us,by rw [E.at',h];rfl,by rw [h];rfl⟩
 obtain ⟨t12,ht12,e12⟩:=Zmx (Zd (d+15)) (kAt (Zd (d+15)) K 13) sc k n seen lap nv V due told _ (Zw (lkA at' "dim")) (Qj (lkA at' "dimnames")) (Zw (lkA at' "names")) t11 (SG (some r) k its at' ep) ht11 hN;rw [Ja c12 e12];have hZ:(Zw (lkA at' "dim")=.none∧Qe (lkA at')=Zw (lkA at' "names"))∨(∃ds,Zw (lkA at' "dim")=.list ds∧ds.length≠1∧Qe (lkA at')=Zw (lkA at' "names"))∨∃ds,Zw (lkA at' "dim")=.list ds∧ds.length=1∧((Qj (lkA at' "dimnames")=.none∧Qe (lkA at')=.none)∨∃ps,Qj (lkA at' "dimnames")=.list (Qe (lkA at')::ps)):=by
  unfold Qe Jg dimL;rcases Zat S with h | ⟨ds,_,_,h⟩
  ·exact .inl ⟨by rw [h];rfl,by rw [h];rfl⟩
  ·rw [h]
   by_cases h1:(ds.map T.int).length=1
   ·refine .inr (.inr ⟨ds.map .int,rfl,h1,?_⟩);dsimp only;rw [if_pos (dT h1)];rcases Zbt S with h2 | ⟨p,ps,hh,h2,hq⟩
    ·exact .inl ⟨by rw [h2];rfl,by rw [h2];rfl⟩
    ·exact .inr ⟨ps.map J2,by rw [h2];rfl⟩
   ·refine .inr (.inl ⟨ds.map .int,rfl,h1,?_⟩);dsimp only;rw [if_neg (by simpa using h1)]
 obtain ⟨t13,ht13,e13⟩:=Zmw (Zd (d+15)) (kAt (Zd (d+15)) K 14) sc k n seen lap nv V due told _ (Zw (lkA at' "dim")) (Qj (lkA at' "dimnames")) (Zw (lkA at' "names")) (Qe (lkA at')) t12 (SG (some r) k its at' ep) ht12 hZ;rw [Ja c13 e13];have hW:(seen.lookup ("class":Str)=none∧T.list (clsR (lkA at'))=.list [])∨∃a b ts,seen.lookup ("class":Str)=some (.tup [a,.list ts,b])∧T.list (clsR (lkA at'))=.list ts:=by
  unfold clsR;rcases Zdr S with h | ⟨u,us,h,_⟩
  ·exact .inl ⟨by rw [E.at',h];rfl,by rw [h]⟩
  ·exact .inr ⟨_,_,u::us,by rw [E.at',h];rfl,by rw [h]⟩
 obtain ⟨t14,ht14,e14⟩:=Zmv (Zd (d+15)) (kAt (Zd (d+15)) K 15) sc k n seen lap nv V due told _ (Zw (lkA at' "dim")) (Qj (lkA at' "dimnames")) (.list (clsR (lkA at'))) (Qe (lkA at')) t13 (SG (some r) k its at' ep) ht13 hW;rw [Ja c14 e14];have hU:(Zw (lkA at' "dim")=.none∧byD (lkA at')=[])∨∃ds,Zw (lkA at' "dim")=.list ds∧byD (lkA at')=if ds.length=2 then [.str "matrix",.str "array"] else [.str "array"]:=by
  unfold byD dimL;rcases Zat S with h | ⟨ds,_,_,h⟩
  ·exact .inl ⟨by rw [h];rfl,by rw [h]⟩
  ·exact .inr ⟨ds.map .int,by rw [h];rfl,by rw [h]⟩
 obtain ⟨t15,ht15,e15⟩:=Zmu (Zd (d+15)) (kAt (Zd (d+15)) K 16) sc k n seen lap nv V due told _ (Zw (lkA at' "dim")) (Qj (lkA at' "dimnames")) (Qe (lkA at')) (clsR (lkA at')) (byD (lkA at')) t14 (SG (some r) k its at' ep) ht14 hU;rw [Ja c15 e15];obtain ⟨kdn,hkn,en⟩:=Zpf (d+12) (some r) ep O S;have ed:Zd (d+15) "dim_of" [.self] (SG (some r) k its at' ep)=.ok (Zw (lkA at' "dim"),if (lkA at' "dim").isSome then .own else .val) (SG (some r) k its at' ep):=by
  have hd:=Zdc (d+13) (some r) ep O;unfold dimL at hd;rcases Zat S with h | ⟨ds,_,_,h⟩
  ·rw [h] at hd ⊢;exact hd
  ·rw [h] at hd ⊢;exact hd
 have ey:=Zkp (d+13) (some r) ep O S;have ec:=Zk1 (d+13) (some r) ep O S;have kdd:∀b:Bool,(if b=true then Kd.own else Kd.val)≠.h:=fun b=>by cases b<;>simp
 rw [Ja c16 (Zmt (Zd (d+15)) (kAt (Zd (d+15)) K 17) sc k n seen lap nv V due told _ (Zw (lkA at' "dim")) (Qj (lkA at' "dimnames")) (Qe (lkA at')) (clsR (lkA at')) (byD (lkA at')) t15 (SG (some r) k its at' ep) kdn _ _ hkn (kdd _) (kdd _) en ed ey ec (Zsu S))];rw [Ja c17 (Zms (Zd (d+15)) (kAt (Zd (d+15)) K 18) sc k n seen lap nv V due told _ (Zw (lkA at' "dim")) (Qj (lkA at' "dimnames")) (Qe (lkA at')) (clsR (lkA at')) (byD (lkA at')) t15 (SG (some r) k its at' ep) O.hk (Zk7 _) (Zr0 (d+11) (some r) ep O S) (Zst _ k))];rw [Ja c18 (Zmr (Zd (d+15)) (kAt (Zd (d+15)) K 19) sc k n seen lap nv V due told _ (Zw (lkA at' "dim")) (Qj (lkA at' "dimnames")) (Qe (lkA at')) (clsR (lkA at')) (byD (lkA at')) t15 (SG (some r) k its at' ep) ht15)];rw [Ja c19 (Zmq (Zd (d+15)) (kAt (Zd (d+15)) K 20) sc k n seen lap nv V due told _ (Zw (lkA at' "dim")) (Qj (lkA at' "dimnames")) (Qe (lkA at')) (clsR (lkA at')) (byD (lkA at')) (SG (some r) k its at' ep))];obtain ⟨kdc,hkc,ecl⟩:=Zk0 (d+11) (some r) ep O S;rw [show clsV (clsR (lkA at')) (byD (lkA at')) k=Zy k (lkA at') from rfl];rw [Ja c20 (Zml (Zd (d+15)) (kAt (Zd (d+15)) K 21) sc k n seen lap nv V told _ (Zw (lkA at' "dim")) (Qj (lkA at' "dimnames")) (Qe (lkA at')) (clsR (lkA at')) (byD (lkA at')) (SG (some r) k its at' ep) (Zy k (lkA at')) (Zgx S) [("plain_one",.str (Zah k))] kdc hkc ecl (Zrw (d+10) (some r) ep O S) (Zc4 (m:=7) (Zgx S)))];refine ⟨[("name",nv),("value",V),("due",.list (Zy k (lkA at'))),("told",told),("shown",.dict ((at'.getD []).map fun p=>(p.1,vw p.2))),("sides",Zw (lkA at' "dim")),("lists",Qj (lkA at' "dimnames")),("names",Qe (lkA at')),("classes",.list (clsR (lkA at'))),("by_dims",.list (byD (lkA at'))),("plain_one",.str (Zah k))],.inr ⟨_,_,_,_,_,_,_,_,_,_,_,rfl⟩,?_⟩;show cSs _ (lawB.drop 21) _ _ _=_;rw [c21];rfl
end
def nms:List T:=[.str "names",.str "dim",.str "dimnames",.str "class",.str "levels",.str "row.names",.str "unit"]
theorem Ziw {j:Nat}(h:j < 7):∃nm:Str,nms[j]?=some (.str nm)∧nm∈(["names","dim","dimnames","class","levels","row.names","unit"]:List Str):=by
 have h:j=0∨j=1∨j=2∨j=3∨j=4∨j=5∨j=6:=by omega
 rcases h with rfl | rfl | rfl | rfl | rfl | rfl | rfl<;>exact ⟨_,rfl,by simp⟩
theorem Zhq {l:List (Str×T)}(h:Zg7 l):Zg6 l:=h
section
variable (d:Nat)(K:Out→Lv→M (T×Kd))(sc:T){k:Str}{n:Nat}{its:List T}{at':At0}{seen:List (Str×T)}{c:Nat}(I:Inv k n its at' seen c)(hc:c < 90)(ep:Nat)(r:List Int)(hr:Zr r)(lap:T)(tl:List (Str×T))(ht:Zbn tl)
include I hc hr ht
theorem turn:∃at2 seen2 ep2 r2 tl2,Inv k n its at2 seen2 (c+1)∧Zr r2∧Zbn tl2∧cSs (Zd (d+15)) lawB (LW sc (.str k) (.int n) .self (.dict seen) (("lap",lap)::tl)) K (SG (some r) k its at' ep)=K .next (LW sc (.str k) (.int n) .self (.dict seen2) (("lap",lap)::tl2)) (SG (some r2) k its at2 ep2):=by
 obtain ⟨x,r1,hx,hr1,e1⟩:=Zax (d+14) (some ⟨k,its,at',ep⟩) r hr;obtain ⟨j,hj,hj2⟩:=Qt hx.1 (show (0:Int) < 7 by decide);obtain ⟨nm,hnm,hmem⟩:=Ziw (j:=j) (by omega);obtain ⟨v,r2,kd1,hk1,e2,hr2,hv⟩:=Zhm (d+12) (some ⟨k,its,at',ep⟩) r1 hr1 n I.O.n8;have hp:=Zm7 d (some r2) ep I.O nm hmem v hv;have hl:=Zni (d+11) (SG (some r2) k its at' ep) I.E k n I.O.nul.1 I.O.n8 nm hmem v hv
 cases he:eff (lkA at') k n nm v with
 |inl m=>
  rw [he] at hp hl;obtain ⟨tl1,ht1,e3⟩:=Zmp (Zd (d+15)) K sc k n seen lap tl its at' ep r r1 r2 x j nm v.t kd1 I.O.nul.1 ht e1 hj hnm e2 hk1 m hl hp;obtain ⟨tl2,ht2,e4⟩:=Zho d K sc I ep r2 lap (.str nm) v.t (.str m) (.str m) tl1 (Zhq ht1);exact ⟨at',seen,ep,r2,tl2,⟨I.O,I.S,I.E,Nat.le_succ_of_le I.sz,Nat.le_succ_of_le I.sz2,I.hit⟩,hr2,ht2,e3.trans e4⟩
 |inr u=>
  rw [he] at hp hl;obtain ⟨at2,ep2,ep',nd2,lk2,sz2⟩:=hp;obtain ⟨seen2,kd2,hk2,el,nds,lks,szs⟩:=hl;have hlk:lkA at2=app u (lkA at'):=funext lk2;have S2:Qu (lkA at2):=by rw [hlk];exact Zs1 I.S hv hmem he
  have I2:Inv k n its at2 seen2 (c+1):=by
   refine ⟨⟨I.O.hk,I.O.len,I.O.n8,?_,nd2,Zat S2⟩,S2,⟨nds,fun y=>?_,?_,Zat S2⟩,?_,?_,I.hit⟩
   ·have:=I.sz;omega
   ·rw [lks,lk2]
   ·have:=I.sz2;omega
   ·have:=I.sz;omega
   ·have:=I.sz2;omega
  obtain ⟨tl1,ht1,e3⟩:=Zmo (Zd (d+15)) K sc k n seen lap tl its at' ep r r1 r2 x j nm v.t kd1 kd2 I.O.nul.1 ht e1 hj hnm e2 hk1 seen2 at2 ep2 hk2 el ep';obtain ⟨tl2,ht2,e4⟩:=Zho d K sc I2 ep2 r2 lap (.str nm) v.t (.dict seen2) .none tl1 (Zhq ht1);exact ⟨at2,seen2,ep2,r2,tl2,I2,hr2,ht2,e3.trans e4⟩
end
def Jm (G:Calls):Out→Lv→M (T×Kd):=fun o L'=>match o with
 |.next=>cSs G ((Zs "law").drop 6) L' (fun o _=>outT o)
 |o=>outT o
def Rest (l:List (Str×T)):Prop:=l=[]∨∃(lap:T) (tl:List (Str×T)),l=(("lap":Str),lap)::tl∧Zbn tl
theorem Zn4 {l:List (Str×T)}(h:Rest l)(sc k n v seen t:T):∃tl,Zbn tl∧(LW sc k n v seen l).bindVal "lap" t=LW sc k n v seen (("lap",t)::tl):=by
 rcases h with rfl | ⟨lap,tl,rfl,ht⟩
 ·exact ⟨[],.inl rfl,rfl⟩
 ·exact ⟨tl,ht,rfl⟩
section
variable (d:Nat)(sc:T){k:Str}{n:Nat}{its:List T}
theorem Zjh:∀(l:List T) (at':At0) (seen:List (Str×T)) (c ep:Nat) (r:List Int) (rest:List (Str×T)),Inv k n its at' seen c→c+l.length < 90→Zr r→Rest rest→
  ∃σ',cFor "lap" (fun L k=>cSs (Zd (d+15)) (Zm lawF) L k) l (LW sc (.str k) (.int n) .self (.dict seen) rest) (Jm (Zd (d+15))) (SG (some r) k its at' ep)=.ok (.bool true,.val) σ'
 |[],at',seen,c,ep,r,rest,I,hc,hr,h=>⟨_,rfl⟩
 |t::l,at',seen,c,ep,r,rest,I,hc,hr,h=>by
  obtain ⟨tl,ht,eb⟩:=Zn4 h sc (.str k) (.int n) .self (.dict seen) t;obtain ⟨at2,seen2,ep2,r2,tl2,I2,hr2,ht2,e⟩:=turn d (fun o L'=>match o with | .ret t kd=>Jm (Zd (d+15)) (.ret t kd) L' | _=>cFor "lap" (fun L k=>cSs (Zd (d+15)) (Zm lawF) L k) l L' (Jm (Zd (d+15)))) sc I (by simp at hc;omega) ep r hr t tl ht;obtain ⟨σ',e2⟩:=Zjh l at2 seen2 (c+1) ep2 r2 (("lap",t)::tl2) I2 (by simp at hc;omega) hr2 (.inr ⟨t,tl2,rfl,ht2⟩);refine ⟨σ',?_⟩;unfold cFor;rw [eb];exact e.trans e2
end
def Zu8 (l:List (Str×T)):Prop:=l=[]∨∃(lap:T) (tl:List (Str×T)),l=(("lap":Str),lap)::tl∧Zbm tl
section
variable (d:Nat)(sc:T)
theorem Zip:∀(l:List T) (r:List Int) (rest:List (Str×T)),Zr r→Zu8 rest→
  ∃σ',cFor "lap" (fun L k=>cSs (Zd (d+15)) (Zm lawF) L k) l (LW sc (.str "NULL") (.int (0:Nat)) .null (.dict []) rest) (Jm (Zd (d+15))) ⟨some r,none⟩=.ok (.bool true,.val) σ'
 |[],r,rest,hr,h=>⟨_,rfl⟩
 |t::l,r,rest,hr,h=>by
  obtain ⟨tl,ht,eb⟩:∃tl,Zbm tl∧(LW sc (.str "NULL") (.int (0:Nat)) .null (.dict []) rest).bindVal "lap" t=LW sc (.str "NULL") (.int (0:Nat)) .null (.dict []) (("lap",t)::tl):=by
   rcases h with rfl | ⟨lap,tl,rfl,ht⟩
   ·exact ⟨[],.inl rfl,rfl⟩
   ·exact ⟨tl,ht,rfl⟩
  obtain ⟨x,r1,hx,hr1,e1⟩:=Zax (d+14) none r hr;obtain ⟨j,hj,hj2⟩:=Qt hx.1 (show (0:Int) < 7 by decide);obtain ⟨nm,hnm,hmem⟩:=Ziw (j:=j) (by omega);obtain ⟨v,r2,kd1,hk1,e2,hr2,hv⟩:=Zhm (d+12) none r1 hr1 0 (by omega);have fin:∀tl2,Zbm tl2→cSs (Zd (d+15)) lawB (LW sc (.str "NULL") (.int (0:Nat)) .null (.dict []) (("lap",t)::tl)) (fun o L'=>match o with | .ret t kd=>Jm (Zd (d+15)) (.ret t kd) L' | _=>cFor "lap" (fun L k=>cSs (Zd (d+15)) (Zm lawF) L k) l L' (Jm (Zd (d+15)))) ⟨some r,none⟩=cFor "lap" (fun L k=>cSs (Zd (d+15)) (Zm lawF) L k) l (LW sc (.str "NULL") (.int (0:Nat)) .null (.dict []) (("lap",t)::tl2)) (Jm (Zd (d+15))) ⟨some r2,none⟩→∃σ',cFor "lap" (fun L k=>cSs (Zd (d+15)) (Zm lawF) L k) (t::l) (LW sc (.str "NULL") (.int (0:Nat)) .null (.dict []) rest) (Jm (Zd (d+15))) ⟨some r,none⟩=.ok (.bool true,.val) σ':=by
   intro tl2 ht2 e;obtain ⟨σ',e3⟩:=Zip l r2 (("lap",t)::tl2) hr2 (.inr ⟨t,tl2,rfl,ht2⟩);refine ⟨σ',?_⟩;unfold cFor;rw [eb];exact e.trans e3
  by_cases hn:v=.nul
  ·subst hn;have hl:Zd (d+15) "_law_set" [.dict [],.str "NULL",.int (0:Nat),.str nm,.null] ⟨some r2,none⟩=.ok (.dict [],.val) ⟨some r2,none⟩:=by
    rw [Zf];exact Zpx _ _ 0 nm
   have hp:Zd (d+15) "set_attr" [.null,.str nm,.null] ⟨some r2,none⟩=.ok (.none,.val) ⟨some r2,none⟩:=by
    rw [Zf];exact Zup _ nm _
   obtain ⟨tl2,ht2,e⟩:=Zmm (Zd (d+15)) (fun o L'=>match o with | .ret t kd=>Jm (Zd (d+15)) (.ret t kd) L' | _=>cFor "lap" (fun L k=>cSs (Zd (d+15)) (Zm lawF) L k) l L' (Jm (Zd (d+15)))) sc 0 [] t tl r r1 r2 x j nm .null kd1 ht e1 hj hnm e2 hk1 hl hp;exact fin tl2 ht2 e
  ·obtain ⟨k',us,a,hk',ev⟩:=Zck hn;rw [ev] at e2;have hl:Zd (d+15) "_law_set" [.dict [],.str "NULL",.int (0:Nat),.str nm,.vec k' us a] ⟨some r2,none⟩=.ok (.str "attempt to set an attribute on NULL",.val) ⟨some r2,none⟩:=by
    rw [Zf];exact Zpw _ _ 0 nm k' us a hk'
   have hp:Zd (d+15) "set_attr" [.null,.str nm,.vec k' us a] ⟨some r2,none⟩=.exn "attempt to set an attribute on NULL" ⟨some r2,none⟩:=by
    rw [Zf];exact Zuo _ nm _ k' us a hk'
   obtain ⟨tl2,ht2,e⟩:=Zmn (Zd (d+15)) (fun o L'=>match o with | .ret t kd=>Jm (Zd (d+15)) (.ret t kd) L' | _=>cFor "lap" (fun L k=>cSs (Zd (d+15)) (Zm lawF) L k) l L' (Jm (Zd (d+15)))) sc 0 [] t tl r r1 r2 x j nm (.vec k' us a) kd1 ht e1 hj hnm e2 hk1 _ hl hp;exact fin tl2 ht2 e
end
theorem Zju:∀l:List Int,Za3 (l.map .int)=some l
 |[]=>rfl
 |i::r=>by
  show (Za3 (r.map .int)).map (i::·)=_;rw [Zju r];rfl
theorem Zla {L:Lv}{out:List Int}{s:Option SelfSt}(h1:L.hot=true)(hl:out.length≤160):bindL L "row" (.list (out.map .int),.own) ⟨none,s⟩=.ok (L.bindVal "row" .row) ⟨some out,s⟩:=by
 unfold bindL;rw [h1,Bool.true_and,if_pos (dT rfl)];dsimp only;rw [Zju];dsimp only;rw [if_pos ⟨rfl,by unfold Zc;omega⟩]
def itK (k:Str):T:=if k="list" then .null else .none
def kinds:List T:=[.str "integer",.str "double",.str "character",.str "logical",.str "list",.str "NULL"]
section
variable (d:Nat)(script out:List Int)(x:Int)(r1:List Int)(hr:Zr out)(hl:out.length≤160)(e0:Zd (d+15) "_law_row" [.list (script.map .int)] {}=.ok (.list (out.map .int),.own) {})(hr1:Zr r1)(e1:Zd (d+15) "_law_next" [.row] (RW out none)=.ok (.int x,.val) (RW r1 none))
include hr hl e0 hr1 e1
theorem Zqv (hj:Int.fmod x 6=(5:Nat)):∃k σ',Ze (Zd (d+15)) "law" [.list (script.map .int)] {}=.ok (.bool true,k) σ':=by
 obtain ⟨x3,r3,hx3,hr3,e3⟩:=Zax (d+14) none r1 hr1;obtain ⟨m,hm,hm2⟩:=Qt hx3.1 (show (0:Int) < 5 by decide);have hit:Qm (.range 0 (1+Int.fmod x3 5)) (RW r3 none)=.ok ((List.range' 0 (m+1)).map fun i:Nat=>T.int (i:Int)) (RW r3 none):=by
  rw [hm,show (1:Int)+(m:Int)=((m+1:Nat):Int) by omega];exact Jh (by omega) _
 obtain ⟨σ',e⟩:=Zip d (.list (script.map .int)) ((List.range' 0 (m+1)).map fun i:Nat=>T.int (i:Int)) r3 [] hr3 (.inl rfl);refine ⟨.val,σ',?_⟩
 conv=>lhs;whnf
 refine Zb _ e0 ?_
 conv=>lhs;whnf
 refine Zb _ (Zla rfl hl) ?_
 conv=>lhs;whnf
 refine Zb (T.int (5:Nat),Kd.val) (σ':=RW r1 none) (still_own.trans (evalE_c.trans ?_)) ?_
 ·conv=>lhs;whnf
  refine Zb _ e1 ?_;rw [←hj];rfl
 conv=>lhs;whnf
 refine Zb _ e3 ?_
 conv=>lhs;whnf
 refine Zb _ hit ?_;exact e
theorem Zcx (j:Nat)(k:Str)(hj:Int.fmod x 6=(j:Nat))(hk:kinds[j]?=some (.str k))(hm0:k∈(["integer","double","character","logical","list"]:List Str)):∃k σ',Ze (Zd (d+15)) "law" [.list (script.map .int)] {}=.ok (.bool true,k) σ':=by
 have hN:k≠"NULL":=by
  simp only [List.mem_cons,List.not_mem_nil,or_false] at hm0;rcases hm0 with rfl | rfl | rfl | rfl | rfl<;>decide +kernel
 obtain ⟨x2,r2,hx2,hr2,e2⟩:=Zax (d+14) none r1 hr1;obtain ⟨n,hn,hn2⟩:=Qt hx2.1 (show (0:Int) < 9 by decide);have hit2:Qm (.range 0 (Int.fmod x2 9)) (RW r2 none)=.ok ((List.range' 0 n).map fun i:Nat=>T.int (i:Int)) (RW r2 none):=by
  rw [hn];exact Jh (by omega) _
 have hits:((List.range' 0 n).map fun i:Nat=>T.int (i:Int)).map (fun _=>itK k)=List.replicate n (itK k):=by
  rw [List.map_map];refine List.ext_getElem (by simp) (fun j h1 h2=>by simp)
 obtain ⟨x3,r3,hx3,hr3,e3⟩:=Zax (d+14) (some ⟨k,List.replicate n (itK k),none,0⟩) r2 hr2;obtain ⟨m,hm,hm2⟩:=Qt hx3.1 (show (0:Int) < 5 by decide);have hit:Qm (.range 0 (1+Int.fmod x3 5)) (SG (some r3) k (List.replicate n (itK k)) none 0)=.ok ((List.range' 0 (m+1)).map fun i:Nat=>T.int (i:Int)) (SG (some r3) k (List.replicate n (itK k)) none 0):=by
  rw [hm,show (1:Int)+(m:Int)=((m+1:Nat):Int) by omega];exact Jh (by omega) _
 have I:Inv k n (List.replicate n (itK k)) none [] 0:=by
  refine ⟨⟨hm0,by simp,by omega,by simp,by simp,.inl rfl⟩,fun y t h=>(nomatch h),⟨by simp,fun y=>rfl,by simp,.inl rfl⟩,by simp,by simp,fun hk t ht=>?_⟩;rw [List.eq_of_mem_replicate ht];unfold itK;rw [if_pos hk]
 obtain ⟨σ',e⟩:=Zjh d (.list (script.map .int)) ((List.range' 0 (m+1)).map fun i:Nat=>T.int (i:Int)) none [] 0 0 r3 [] I (by simp;omega) hr3 (.inl rfl);refine ⟨.val,σ',?_⟩
 conv=>lhs;whnf
 refine Zb _ e0 ?_
 conv=>lhs;whnf
 refine Zb _ (Zla rfl hl) ?_
 conv=>lhs;whnf
 refine Zb (T.int (j:Nat),Kd.val) (σ':=RW r1 none) (still_own.trans (evalE_c.trans ?_)) ?_
 ·conv=>lhs;whnf
  refine Zb _ e1 ?_;rw [←hj];rfl
 conv=>lhs;whnf
 refine Zb _ (Zv hk) ?_
 conv=>lhs;whnf
 rw [dF hN]
 conv=>lhs;whnf
 refine Zb _ e2 ?_
 conv=>lhs;whnf
 rw [dF hN]
 conv=>lhs;whnf
 refine Zb _ hit2 ?_
 conv=>lhs;whnf
 rw [Qz (fun _=>itK k)]
 rotate_left
 ·intro t ht;rfl
 ·intro t ht;refine ⟨.val,by simp,Qi (evalE_c.trans ?_)⟩;unfold itK
  by_cases hq:k="list"
  ·rw [if_pos hq]
   conv=>lhs;whnf
   rw [dT hq];rfl
  ·rw [if_neg hq]
   conv=>lhs;whnf
   rw [dF hq];rfl
 rw [hits]
 conv=>lhs;whnf
 refine Zb _ e3 ?_
 conv=>lhs;whnf
 refine Zb _ hit ?_;rw [hn];exact e
end
theorem plain_law (script:List Int)(_h:script.length≤63):∃k σ',Zdv script=.ok (.bool true,k) σ':=by
 obtain ⟨out,hr,hl,e0⟩:=Zqu (Zd 28) {} script;rw [←Zf] at e0;obtain ⟨x,r1,hx,hr1,e1⟩:=Zax 28 none out hr;obtain ⟨j,hj,hj2⟩:=Qt hx.1 (show (0:Int) < 6 by decide);have h:j=0∨j=1∨j=2∨j=3∨j=4∨j=5:=by omega
 unfold Zdv;rw [Zf];rcases h with rfl | rfl | rfl | rfl | rfl | rfl
 ·exact Zcx 14 script out x r1 hr hl e0 hr1 e1 _ _ hj rfl (by simp)
 ·exact Zcx 14 script out x r1 hr hl e0 hr1 e1 _ _ hj rfl (by simp)
 ·exact Zcx 14 script out x r1 hr hl e0 hr1 e1 _ _ hj rfl (by simp)
 ·exact Zcx 14 script out x r1 hr hl e0 hr1 e1 _ _ hj rfl (by simp)
 ·exact Zcx 14 script out x r1 hr hl e0 hr1 e1 _ _ hj rfl (by simp)
 ·exact Zqv 14 script out x r1 hr hl e0 hr1 e1 hj
end Mine
end
section
open PySem PySem.W PyProof.Rows
theorem PySem.Challenge.cw_nz0494_01_holds : PySem.Challenge.rw_nz0494_01.Holds := by
 refine nz_hd ?_
 w_strict (
  k_fill
  intro w s₀ s₁ mg mb G Y fa o pm cd doc dV kV ho hd hcd hD hmg hg args vals as hpre hlay hrd hwl hlo;refine Ground.open G ?_;intro T B D TE TW;have ht:=Y.2 495 (by simp);have X:=Y.1
  clear hd D
  wrow_args hpre hlay hrd hwl hlo
  rename_i script _ _ _ _ _ _ _ L vs _ hL _ w1 _ hI _ hcond _;have hlen:script.length≤63:=by omega
  refine Mine.law_run (Mine.base_of _ X ht T.g T.b T.nolimit T.builtins T.bmain) (codeHd_of_K X (show codeHdIn (Mine.KK w.params) 497 495=true by kernel_rfl)) ht hmg w1 hL hI hlen (Mine.plain_law script hlen) (fun s' sm ok=>?_);obtain ⟨h',tk,rfl⟩:=sm;refine ⟨.inl ⟨.bool true,.bool true,[],rfl,?_,.bool true,?_,?_⟩,ok,rfl,AllBare.of_eq hg⟩
  ·intro cls;rfl
  ·first | rfl | wrow_post
  ·intro _;exact ⟨List.nodup_nil,fun _ q=>by cases q⟩)
end
